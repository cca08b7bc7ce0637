import PyProof.Rows.All
import Wide.All
import OpenK.AllK
import Wide.FinOn
import PyProof.TableCode
import PySem.Challenge.RW_pb0489_01
section
namespace Mine
noncomputable section
section
noncomputable abbrev Nm:=List Nat
noncomputable def cx {α:Type} [Nonempty α] (p:α -> Prop):α:=Classical.epsilon fun a=>¬ p a
theorem bD {α:Type} [Nonempty α] {p:α -> Prop} (h:p (cx p)) (a:α):p a:=Classical.byContradiction fun n=>Classical.epsilon_spec (p:=fun a=>¬ p a) ⟨a,n⟩ h
theorem gG {α:Type} {a:α} {C:Prop} (h:none = some a):C:=by cases h
inductive AK where
 | s (x:Nm)
 | i (n:Int)
 deriving DecidableEq
inductive AV where
 | none
 | bool (b:Bool)
 | int (n:Int)
 | str (x:Nm)
 | bytes (b:List Nat)
 | tup (vs:List AV)
 | inst (c:Nm) (fs:List (Nm × AV))
 | lst (l:Nat)
 | dct (l:Nat)
 | ah (vs:List AV)
 | aj (kvs:List (AK × AV))
inductive aO where
 | list (vs:List AV)
 | dict (it:Bool) (kvs:List (AK × AV))   -- it: may be walked
noncomputable instance:Nonempty AV:=⟨.none⟩
noncomputable instance:Nonempty AK:=⟨.i 0⟩
noncomputable instance:Nonempty aO:=⟨.list []⟩
noncomputable abbrev Hp:=List aO
noncomputable abbrev Loc:=List (Nm × AV)
noncomputable abbrev Op:=PySem.Operator
noncomputable abbrev pD:=PySem.CmpOp
inductive Ty where
 | nR | pG | eo | iJ | dz (c:Nm)
inductive Bi where
 | len | abs | ord | chr | bytes | sum | sorted | dict (fz:Bool) | list
inductive bq where
 | one (x:Nm)
 | many (xs:List Nm)
inductive It where
 | lst (l i:Nat)
 | seq (vs:List AV)
 | keys (l i n:Nat)
 | zip (a b:It)
noncomputable instance:Nonempty It:=⟨.seq []⟩
noncomputable instance:Nonempty bq:=⟨.many []⟩
noncomputable instance:Nonempty Op:=⟨.Add⟩
noncomputable instance:Nonempty pD:=⟨.Eq⟩
noncomputable instance:Nonempty Ty:=⟨.pG⟩
noncomputable instance:Nonempty Bi:=⟨.len⟩
noncomputable def look (σ:Loc) (x:Nm):Option AV:=σ.lookup x
noncomputable def pw:aO -> Option (List AV) | .list vs=>some vs | .dict _ _=>Option.none
noncomputable def HU:aO -> Option (List (AK × AV)) | .dict true kvs=>some kvs | _=>Option.none
noncomputable def Ar:aO -> Option (List (AK × AV)) | .list _=>Option.none | .dict _ kvs=>some kvs
noncomputable def listOf (H:Hp):AV -> Option (List AV)
 | .lst l=>H[l]?.bind pw
 | .ah vs=>some vs
 | _=>Option.none
noncomputable def dictOf (H:Hp):AV -> Option (List (AK × AV))
 | .dct l=>H[l]?.bind Ar
 | .aj kvs=>some kvs
 | _=>Option.none
noncomputable def keyOf:AV -> Option AK
 | .str x=>some (.s x)
 | .int n=>some (.i n)
 | _=>Option.none
noncomputable def bQ:AK -> AV
 | .s x=>.str x
 | .i n=>.int n
noncomputable def getKey (kvs:List (AK × AV)) (k:AK):Option AV:=(kvs.find? fun kv=>kv.1 = k).map (·.2)
noncomputable def ae (kvs:List (AK × AV)) (k:AK) (v:AV):List (AK × AV) :=
 if kvs.any (fun kv=>kv.1 = k) then kvs.map (fun kv=>if kv.1 = k then (kv.1,v) else kv) else kvs ++ [(k,v)]
noncomputable abbrev lim:Nat:=4096
noncomputable def truthy:AV -> Option Bool
 | .bool b=>some b
 | _=>Option.none
noncomputable def cD:AV -> Option Int | .int n=>some n | _=>Option.none
noncomputable def jX:AV -> Option Nm | .str x=>some x | _=>Option.none
noncomputable def fV:AV -> Option (List AV) | .tup x=>some x | _=>Option.none
noncomputable def HV:AV -> Option Bool | .bool x=>some x | _=>Option.none
noncomputable def RA:AK -> Option Nm | .s x=>some x | .i _=>Option.none
noncomputable def nE:AV -> Bool | .none=>true | _=>false
noncomputable def qv (f:AV -> AV -> Option Bool) (xs ys:List AV):Option Bool:=if xs.length = ys.length /\ (xs.zip ys).all (fun p=>f p.1 p.2 == some true) then some true else Option.none
noncomputable def Eu (a b:AV):Option Bool:=match a with
 | .none=>if nE b then some true else Option.none
 | .bool x=>(HV b).bind fun y=>some (x == y)
 | .int x=>(cD b).bind fun y=>some (decide (x = y))
 | .str x=>(jX b).bind fun y=>some (decide (x = y))
 | _=>Option.none
noncomputable def eqv (H:Hp):Nat -> AV -> AV -> Option Bool
 | 0,_,_=>Option.none
 | n + 1,a,b=>(fV a).elim ((listOf H a).elim (Eu a b) fun xs=>(listOf H b).bind (qv (eqv H n) xs)) fun xs=>(fV b).bind (qv (eqv H n) xs)
noncomputable def qF:Nat:=6
noncomputable def rG (a b:AV):Option Bool:=match cD a with
 | some x=>(cD b).bind fun y=>some (decide (x = y))
 | Option.none=>(jX a).bind fun x=>(jX b).bind fun y=>some (decide (x = y))
noncomputable def sJ (a:AV):List AV -> Option Bool
 | []=>some false
 | v :: vs=>(rG v a).bind fun b=>(sJ a vs).bind fun c=>some (b || c)
noncomputable def contains (H:Hp) (a b:AV):Option Bool:=match fV b with
 | some vs=>sJ a vs
 | Option.none=>(dictOf H b).bind fun kvs=>(keyOf a).bind fun k=>some (getKey kvs k).isSome
noncomputable def kK (H:Hp) (a b:AV):Option Bool:=match dictOf H a with
 | some xs=>(dictOf H b).bind fun ys=>if xs.length = ys.length /\ (xs.zip ys).all (fun p=>decide (p.1.1 = p.2.1) && eqv H qF p.1.2 p.2.2 == some true) then some true else Option.none
 | Option.none=>eqv H qF a b
noncomputable def FL (op:pD) (x y:Int):Option Bool:=match op with
 | .Lt=>some (decide (x < y))
 | .LtE=>some (decide (x <= y))
 | .Gt=>some (decide (y < x))
 | .GtE=>some (decide (y <= x))
 | _=>Option.none
noncomputable def k7 (H:Hp) (op:pD) (a b:AV):Option Bool :=
 match op with
 | .Eq=>kK H a b
 | .NotEq=>(kK H a b).map (!·)
 | .Is=>if nE b then some (nE a) else Option.none
 | .IsNot=>if nE b then some (!nE a) else Option.none
 | .In=>contains H a b
 | .NotIn=>(contains H a b).map (!·)
 | op=>(cD a).bind fun x=>(cD b).bind (FL op x)
noncomputable def binI (op:Op) (x y:Int):Option AV:=match op with
 | .Add=>some (.int (x + y))
 | .Sub=>some (.int (x - y))
 | .FloorDiv=>if 0 < y /\ y < 2 ^ 64 then some (.int (x / y)) else Option.none
 | .Mod=>if 0 < y then some (.int (x % y)) else Option.none
 | .Pow=>if 0 < x /\ x <= 10 /\ 0 <= y /\ y <= 80 then some (.int (x ^ y.toNat)) else Option.none
 | .RShift=>if 0 <= x /\ 0 <= y /\ y <= 60 then some (.int (x / 2 ^ y.toNat)) else Option.none
 | .BitAnd=>if 0 <= x /\ y = 1 then some (.int (x % 2)) else Option.none
 | _=>Option.none
noncomputable def kB (op:Op) (a b:AV):Option AV:=match cD a with
 | some x=>(cD b).bind (binI op x)
 | Option.none=>if op = .Add then (jX a).bind fun x=>(jX b).bind fun y=>if x.length + y.length <= 4096 then some (.str (x ++ y)) else Option.none else Option.none
noncomputable def tU:AV -> Option (Nm × List (Nm × AV)) | .inst c fs=>some (c,fs) | _=>Option.none
noncomputable def Qp:AV -> Bool | .lst _=>true | .ah _=>true | _=>false
noncomputable def Qq:AV -> Bool | .dct _=>true | .aj _=>true | _=>false
noncomputable def iU (t:Ty) (v:AV):Bool :=
 match t with
 | .nR=>(HV v).isSome
 | .pG=>(HV v).isSome || (cD v).isSome
 | .eo=>Qp v
 | .iJ=>Qq v
 | .dz c=>(match tU v with | some p=>decide (c = p.1) | Option.none=>false)
noncomputable def sound (H:Hp) (v:AV):Bool :=
 match v with
 | .lst l=>(H[l]?.bind pw).isSome
 | .dct l=>(H[l]?.bind Ar).isSome
 | _=>true
noncomputable def nU (H:Hp) (a i:AV):Option AV :=
 match dictOf H a with
 | some kvs=>(keyOf i).bind (getKey kvs)
 | Option.none=>(cD i).bind fun n=>if 0 <= n /\ n <= 4096 then (match fV a with | some vs=>vs[n.toNat]? | Option.none=>(listOf H a).bind fun vs=>vs[n.toNat]?) else Option.none
noncomputable def intsOf:List AV -> Option (List Int)
 | []=>some []
 | a :: r=>(cD a).bind fun n=>(intsOf r).bind fun r=>some (n :: r)
noncomputable def strsOf:List AV -> Option (List Nm)
 | []=>some []
 | a :: r=>(jX a).bind fun n=>(strsOf r).bind fun r=>some (n :: r)
noncomputable def pairsOf:List AV -> Option (List (AK × AV))
 | []=>some []
 | a :: r=>(fV a).bind fun p=>match p with
  | [k,v]=>(keyOf k).bind fun k=>(pairsOf r).bind fun r=>some ((k,v) :: r)
  | _=>Option.none
noncomputable def qA:List (AK × AV) -> Option (List Nm)
 | []=>some []
 | a :: r=>(RA a.1).bind fun n=>(qA r).bind fun r=>some (n :: r)
noncomputable def rising (l:List Nm):Bool:=decide (l.Pairwise fun a b=>a < b)
noncomputable def putAll (kvs:List (AK × AV)):List (AK × AV) -> List (AK × AV)
 | []=>kvs
 | (k,v) :: r=>putAll (ae kvs k v) r
noncomputable abbrev AP:=AV -> Hp -> Prop
noncomputable abbrev EP:=Nm -> Hp -> Prop
noncomputable abbrev LP:=Loc -> Hp -> Prop
noncomputable abbrev CF:=Nm -> List AV -> Hp -> AP -> EP -> Prop
noncomputable def ee:EP:=fun _ _=>False
noncomputable def Is {α:Type} (o:Option α) (k:α -> Prop):Prop:=match o with
 | some v=>k v
 | Option.none=>False
noncomputable def Br (b:Bool) (p q:Prop):Prop:=match b with
 | true=>p
 | false=>q
noncomputable def mw (fz:Bool) (vs:List AV) (H:Hp) (P:AP):Prop:=Br fz (P (.ah vs) H) (P (.lst H.length) (H ++ [.list vs]))
noncomputable def qk (fz it:Bool) (kvs:List (AK × AV)) (H:Hp) (P:AP):Prop:=Br fz (P (.aj kvs) H) (P (.dct H.length) (H ++ [.dict it kvs]))
noncomputable def oneOf {α:Type}:List α -> Option α
 | [x]=>some x
 | _=>Option.none
@[irreducible] noncomputable def gV (b:Bi) (v:AV) (H:Hp) (P:AP):Prop:=match b with
 | .len=>Is (listOf H v) fun vs=>vs.length <= lim /\ P (.int vs.length) H
 | .abs=>Is (cD v) fun n=>P (.int (Int.natAbs n)) H
 | .ord=>Is (jX v) fun x=>Is (oneOf x) fun n=>P (.int n) H
 | .chr=>Is (cD v) fun n=>(32 <= n /\ n < 127) /\ P (.str [n.toNat]) H
 | .bytes=>Is (listOf H v) fun vs=>Is (intsOf vs) fun ns=>(ns.length <= lim /\ ns.all (fun n=>decide (0 <= n) && decide (n < 256)) = true) /\ P (.bytes (ns.map (·.toNat))) H
 | .sum=>Is (listOf H v) fun vs=>Is (intsOf vs) fun ns=>(ns.length <= 32 /\ ns.all (fun n=>decide (0 <= n) && decide (n < 2 ^ 32)) = true) /\ P (.int ns.sum) H
 | .sorted=>Is (dictOf H v) fun kvs=>Is (qA kvs) fun ks=>(ks.length <= 32 /\ rising ks = true) /\ P (.ah (ks.map .str)) H
 | .dict fz=>match dictOf H v with
  | some kvs=>kvs.length <= lim /\ qk fz false kvs H P
  | Option.none=>Is (listOf H v) fun vs=>Is (pairsOf vs) fun kvs=>kvs.length <= lim /\ qk fz false (putAll [] kvs) H P
 | .list=>Is (listOf H v) fun vs=>vs.length <= lim /\ P (.ah vs) H
noncomputable def lH (a b:List Nat):Bool:=decide (a.take b.length = b)
noncomputable def jf (sep:Nm):List Nm -> Nm
 | []=>[]
 | x :: r=>x ++ r.flatMap (sep ++ ·)
noncomputable def zW:Nm:=[97,112,112,101,110,100]
noncomputable def zV:Nm:=[101,120,116,101,110,100]
noncomputable def J4:Nm:=[112,111,112]
noncomputable def EN:Nm:=[103,101,116]
noncomputable def zU:Nm:=[117,112,100,97,116,101]
noncomputable def qR:Nm:=[115,116,97,114,116,115,119,105,116,104]
noncomputable def Hg:Nm:=[106,111,105,110]
inductive Mk where
 | append | extend | pop | get | update | startswith | join
noncomputable def L1:AV -> Option (List AV) | .ah x=>some x | _=>Option.none
noncomputable def LZ:AV -> Option (List (AK × AV)) | .aj x=>some x | _=>Option.none
noncomputable def LV:AV -> Option (List Nat) | .bytes x=>some x | _=>Option.none
noncomputable def BV:AV -> Option Nat | .lst l=>some l | _=>Option.none
noncomputable def L7:AV -> Option Nat | .dct l=>some l | _=>Option.none
@[irreducible] noncomputable def sI (H:Hp) (x:AV) (m:Nm):Option Mk:=match x with
 | .lst _=>(listOf H x).bind fun _=>if m = zW then some .append else if m = zV then some .extend else if m = J4 then some .pop else Option.none
 | .dct _=>(dictOf H x).bind fun _=>if m = EN then some .get else if m = zU then some .update else Option.none
 | .aj _=>if m = EN then some .get else Option.none
 | .bytes _=>if m = qR then some .startswith else Option.none
 | .str _=>if m = Hg then some .join else Option.none
 | _=>Option.none
@[irreducible] noncomputable def ik (k:Mk) (x:AV) (vs:List AV) (H:Hp) (P:AP):Prop:=match k with
 | .append=>Is (BV x) fun l=>Is (listOf H x) fun us=>Is (oneOf vs) fun v=>us.length < lim /\ P .none (H.set l (.list (us ++ [v])))
 | .extend=>Is (BV x) fun l=>Is (listOf H x) fun us=>Is ((oneOf vs).bind L1) fun ws=>us.length + ws.length <= lim /\ P .none (H.set l (.list (us ++ ws)))
 | .pop=>Is (BV x) fun l=>Is (listOf H x) fun us=>us.length <= lim /\ match vs with
  | []=>Is us.getLast? fun v=>P v (H.set l (.list us.dropLast))
  | a :: r=>(r = [] /\ cD a = some 0) /\ Is us.head? fun v=>P v (H.set l (.list us.tail))
 | .get=>Is (dictOf H x) fun kvs=>match vs with
  | []=>False
  | a :: r=>Is (keyOf a) fun k=>match r with
   | []=>P ((getKey kvs k).getD .none) H
   | d :: q=>q = [] /\ P ((getKey kvs k).getD d) H
 | .update=>Is (L7 x) fun l=>Is (dictOf H x) fun kvs=>Is ((oneOf vs).bind LZ) fun ws=>kvs.length + ws.length <= lim /\ P .none (H.set l (.dict false (putAll kvs ws)))
 | .startswith=>Is (LV x) fun b=>Is ((oneOf vs).bind LV) fun c=>P (.bool (lH b c)) H
 | .join=>Is (jX x) fun b=>Is (oneOf vs) fun v=>Is (listOf H v) fun us=>Is (strsOf us) fun ss=>((jf b ss).length <= 4096 /\ ss.length <= 4096 /\ b.length <= 4096) /\ P (.str (jf b ss)) H
noncomputable def bg (t:bq) (v:AV) (σ:Loc):Option Loc :=
 match t with
 | .one x=>some ((x,v) :: σ)
 | .many xs=>(fV v).bind fun vs=>if vs.length = xs.length then some ((xs.zip vs).reverse ++ σ) else Option.none
noncomputable def aT (H:Hp):It -> Option (Option (AV × It))
 | .lst l i=>(H[l]?.bind pw).bind fun vs=>some (vs[i]?.map fun v=>(v,.lst l (i + 1)))
 | .seq vs=>some (vs.head?.map fun v=>(v,.seq vs.tail))
 | .keys l i n=>(H[l]?.bind HU).bind fun kvs=>if kvs.length = n then some (kvs[i]?.map fun kv=>(bQ kv.1,.keys l (i + 1) n)) else Option.none
 | .zip a b=>(aT H a).bind fun r=>match r with
  | some p=>(aT H b).bind fun q=>some (q.map fun q=>(.tup [p.1,q.1],.zip p.2 q.2))
  | Option.none=>some Option.none
noncomputable def jg (H:Hp) (v:AV):Option It :=
 match v with
 | .lst l=>(H[l]?.bind pw).bind fun _=>some (.lst l 0)
 | .dct l=>(H[l]?.bind HU).bind fun kvs=>some (.keys l 0 kvs.length)
 | .tup vs=>some (.seq vs)
 | .ah vs=>some (.seq vs)
 | .aj kvs=>some (.seq (kvs.map fun kv=>bQ kv.1))
 | .bytes b=>some (.seq (b.map fun (n:Nat)=>AV.int (n:Int)))
 | _=>Option.none
noncomputable def GY (H:Hp) (v w:AV):Option It:=match v with
 | .tup xs=>(fV w).bind fun ys=>some (.zip (.seq xs) (.seq ys))
 | .lst _ | .ah _=>(listOf H v).bind fun _=>(listOf H w).bind fun _=>(jg H v).bind fun i=>(jg H w).bind fun j=>some (.zip i j)
 | _=>Option.none
noncomputable def TE:Type:=CF -> Loc -> Hp -> AP -> EP -> Prop
noncomputable def TI:Type:=CF -> Loc -> Hp -> (It -> Hp -> Prop) -> EP -> Prop
noncomputable def TS:Type:=CF -> Loc -> Hp -> LP -> LP -> AP -> EP -> Prop
noncomputable instance:Nonempty TE:=⟨fun _ _ _ _ _=>True⟩
noncomputable instance:Nonempty TI:=⟨fun _ _ _ _ _=>True⟩
noncomputable instance:Nonempty TS:=⟨fun _ _ _ _ _ _ _=>True⟩
noncomputable def runs (C:CF) (σ:Loc):List TE -> Hp -> (List AV -> Hp -> Prop) -> EP -> Prop
 | [],H,P,_=>P [] H
 | a :: r,H,P,E=>a C σ H (fun v H=>runs C σ r H (fun vs H=>P (v :: vs) H) E) E
noncomputable def runK (C:CF) (σ:Loc):List (TE × TE) -> Hp -> (List (AK × AV) -> Hp -> Prop) -> EP -> Prop
 | [],H,P,_=>P [] H
 | a :: r,H,P,E=>a.1 C σ H (fun k H=>a.2 C σ H (fun v H=>Is (keyOf k) fun kk=>runK C σ r H (fun ps H=>P ((kk,v) :: ps) H) E) E) E
noncomputable def runN (C:CF) (σ:Loc):List (Nm × TE) -> Hp -> (List (Nm × AV) -> Hp -> Prop) -> Prop
 | [],H,P=>P [] H
 | a :: r,H,P=>a.2 C σ H (fun v H=>runN C σ r H (fun ps H=>P ((a.1,v) :: ps) H)) ee
noncomputable def runC (C:CF) (σ:Loc):List TE -> Hp -> (Bool -> Hp -> Prop) -> EP -> Prop
 | [],H,P,_=>P true H
 | a :: r,H,P,E=>a C σ H (fun v H=>Is (truthy v) fun b=>Br b (runC C σ r H P E) (P false H)) E
noncomputable def aH (C:CF):List TS -> Loc -> Hp -> LP -> LP -> AP -> EP -> Prop
 | [],σ,H,N,_,_,_=>N σ H
 | a :: r,σ,H,N,B,T,E=>a C σ H (fun σ H=>aH C r σ H N B T E) B T E
noncomputable def Turn (t:bq) (σ:Loc) (r:Option (AV × It)) (n:Prop) (k:Loc -> It -> Prop):Prop:=match r with
 | Option.none=>n
 | some p=>Is (bg t p.1 σ) fun σ'=>k σ' p.2
noncomputable def cL (C:CF) (σ:Loc) (elt:TE) (t:bq) (cs:List TE):Nat -> It -> Hp -> (List AV -> Hp -> Prop) -> Prop
 | 0,_,_,_=>False
 | k + 1,it,H,P=>Is (aT H it) fun r=>Turn t σ r (P [] H) fun σ' it'=>runC C σ' cs H (fun b H=>Br b (elt C σ' H (fun v H=>cL C σ elt t cs k it' H fun vs H=>P (v :: vs) H) ee) (cL C σ elt t cs k it' H P)) ee
noncomputable def mq (C:CF) (σ:Loc) (kx vx:TE) (t:bq) (cs:List TE):Nat -> It -> List (AK × AV) -> Hp -> (List (AK × AV) -> Hp -> Prop) -> Prop
 | 0,_,_,_,_=>False
 | k + 1,it,acc,H,P=>Is (aT H it) fun r=>Turn t σ r (P acc H) fun σ' it'=>runC C σ' cs H (fun b H=>Br b (kx C σ' H (fun a H=>vx C σ' H (fun v H=>Is (keyOf a) fun kk=>mq C σ kx vx t cs k it' (ae acc kk v) H P) ee) ee) (mq C σ kx vx t cs k it' acc H P)) ee
noncomputable def forL (C:CF) (t:bq) (b:List TS):Nat -> It -> Loc -> Hp -> LP -> AP -> EP -> Prop
 | 0,_,_,_,_,_,_=>False
 | k + 1,it,σ,H,N,T,E=>Is (aT H it) fun r=>Turn t σ r (N σ H) fun σ' it'=>aH C b σ' H (fun σ H=>forL C t b k it' σ H N T E) N T E
noncomputable def gF (C:CF) (a:TE) (b:List TS):Nat -> Loc -> Hp -> LP -> AP -> EP -> Prop
 | 0,_,_,_,_,_=>False
 | k + 1,σ,H,N,T,E=>a C σ H (fun v H=>Is (truthy v) fun t=>Br t (aH C b σ H (fun σ H=>gF C a b k σ H N T E) N T E) (N σ H)) E
@[irreducible] noncomputable def HY (o i v:AV) (H:Hp) (K:Hp -> Prop):Prop:=match o with
 | .dct l=>Is (H[l]?) fun ob=>match ob with
  | .dict it kvs=>Is (keyOf i) fun k=>kvs.length < lim /\ K (H.set l (.dict it (ae kvs k v)))
  | .list _=>False
 | .lst l=>Is (listOf H o) fun vs=>Is (cD i) fun m=>(0 <= m /\ m <= 4096 /\ m.toNat < vs.length) /\ K (H.set l (.list (vs.set m.toNat v)))
 | _=>False
noncomputable def gq:List Nm:=["Shelf.get","Shelf.fetch","Shelf.root","Shelf.put","Shelf.add"].map fun x=>x.toList.map Char.toNat
@[irreducible] noncomputable def nO (C:CF) (H:Hp) (x:AV) (m:Nm) (args:(List AV -> Hp -> Prop) -> Prop) (P:AP) (E:EP):Prop:=match tU x with
 | some p=>(gq.contains (p.1 ++ 46 :: m) = true /\ p.2.lookup m = none) /\ args fun vs H=>C (p.1 ++ 46 :: m) (x :: vs) H P E
 | Option.none=>Is (sI H x m) fun k=>args fun vs H=>ik k x vs H P
namespace TE
noncomputable def lit (v:AV):TE:=fun _ _ H P _=>P v H
noncomputable def var (x:Nm):TE:=fun _ σ H P _=>Is (look σ x) fun v=>P v H
noncomputable def d8 (a b:TE):TE:=fun C σ H P E=>a C σ H (fun v H=>Is (truthy v) fun t=>Br t (b C σ H P E) (P (.bool false) H)) E
noncomputable def qP (a b:TE):TE:=fun C σ H P E=>a C σ H (fun v H=>Is (truthy v) fun t=>Br t (P (.bool true) H) (b C σ H P E)) E
noncomputable def j9 (a:TE):TE:=fun C σ H P E=>a C σ H (fun v H=>Is (truthy v) fun t=>P (.bool !t) H) E
noncomputable def ite (t a b:TE):TE:=fun C σ H P E=>t C σ H (fun v H=>Is (truthy v) fun t=>Br t (a C σ H P E) (b C σ H P E)) E
noncomputable def bin (o:Op) (a b:TE):TE:=fun C σ H P E=>a C σ H (fun x H=>b C σ H (fun y H=>Is (kB o x y) fun v=>P v H) E) E
noncomputable def cmp (o:pD) (a b:TE):TE:=fun C σ H P E=>a C σ H (fun x H=>b C σ H (fun y H=>Is (k7 H o x y) fun v=>P (.bool v) H) E) E
noncomputable def ym (a:TE) (o:pD) (b:TE) (o':pD) (c:TE):TE:=fun C σ H P E=>a C σ H (fun x H=>b C σ H (fun y H=>Is (k7 H o x y) fun v=>Br v (c C σ H (fun z H=>Is (k7 H o' y z) fun w=>P (.bool w) H) E) (P (.bool false) H)) E) E
noncomputable def attr (a:TE) (x:Nm):TE:=fun C σ H P E=>a C σ H (fun v H=>Is ((tU v).bind fun p=>p.2.lookup x) fun w=>P w H) E
noncomputable def sub (a i:TE):TE:=fun C σ H P E=>a C σ H (fun x H=>i C σ H (fun y H=>Is (nU H x y) fun v=>P v H) E) E
noncomputable def slice (a k:TE):TE:=fun C σ H P E=>a C σ H (fun x H=>k C σ H (fun y H=>Is (listOf H x) fun vs=>Is (cD y) fun m=>(0 <= m /\ m <= 4096 /\ vs.length <= lim) /\ P (.ah (vs.take m.toNat)) H) E) E
noncomputable def tup (es:List TE):TE:=fun C σ H P E=>runs C σ es H (fun vs H=>P (.tup vs) H) E
noncomputable def list (fz:Bool) (es:List TE):TE:=fun C σ H P E=>runs C σ es H (fun vs H=>mw fz vs H P) E
noncomputable def dict (fz:Bool) (kvs:List (TE × TE)):TE:=fun C σ H P E=>runK C σ kvs H (fun ps H=>qk fz kvs.isEmpty (putAll [] ps) H P) E
noncomputable def comp (fz:Bool) (elt:TE) (t:bq) (src:TI) (cs:List TE):TE:=fun C σ H P E=>src C σ H (fun it H=>∃ k,k <= lim /\ cL C σ elt t cs k it H fun vs H=>vs.length <= lim /\ mw fz vs H P) E
noncomputable def wx (kx vx:TE) (t:bq) (src:TI) (cs:List TE):TE:=fun C σ H P E=>src C σ H (fun it H=>∃ k,k <= lim /\ mq C σ kx vx t cs k it [] H fun kvs H=>kvs.length <= lim /\ P (.aj kvs) H) E
noncomputable def call (f:Nm) (as:List TE):TE:=fun C σ H P E=>runs C σ as H (fun vs H=>C f vs H P E) E
noncomputable def aF (a:TE) (m:Nm) (as:List TE):TE:=fun C σ H P E=>a C σ H (fun x H=>nO C H x m (fun K=>runs C σ as H K E) P E) E
noncomputable def bi (b:Bi) (a:TE):TE:=fun C σ H P E=>a C σ H (fun v H=>gV b v H P) E
noncomputable def isin (a:TE) (t:Ty):TE:=fun C σ H P E=>a C σ H (fun v H=>sound H v = true /\ P (.bool (iU t v)) H) E
end TE
namespace TI
noncomputable def ex (a:TE):TI:=fun C σ H P E=>a C σ H (fun v H=>Is (jg H v) fun it=>P it H) E
noncomputable def rev (a:TE):TI:=fun C σ H P E=>a C σ H (fun v H=>Is (L1 v) fun vs=>P (.seq vs.reverse) H) E
noncomputable def zip (a b:TE):TI:=fun C σ H P E=>a C σ H (fun v H=>b C σ H (fun w H=>Is (GY H v w) fun it=>P it H) E) E
noncomputable def range (a:TE):TI:=fun C σ H P E=>a C σ H (fun v H=>Is (cD v) fun m=>(0 <= m /\ m <= 1000) /\ P (.seq ((List.range m.toNat).map fun (k:Nat)=>AV.int (k:Int))) H) E
end TI
namespace TS
noncomputable def bad:TS:=fun _ _ _ _ _ _ _=>False
noncomputable def assign (t:bq) (a:TE):TS:=fun C σ H N _ _ E=>a C σ H (fun v H=>Is (bg t v σ) fun σ'=>N σ' H) E
noncomputable def store (o i v:TE):TS:=fun C σ H N _ _ E=>v C σ H (fun v H=>o C σ H (fun o H=>i C σ H (fun i H=>HY o i v H fun H=>N σ H) E) E) E
noncomputable def expr (a:TE):TS:=fun C σ H N _ _ E=>a C σ H (fun _ H=>N σ H) E
noncomputable def ite (t:TE) (a b:List TS):TS:=fun C σ H N B T E=>t C σ H (fun v H=>Is (truthy v) fun t=>Br t (aH C a σ H N B T E) (aH C b σ H N B T E)) E
noncomputable def «while» (t:TE) (b:List TS):TS:=fun C σ H N _ T E=>∃ k,gF C t b k σ H N T E
noncomputable def «for» (t:bq) (src:TI) (b:List TS):TS:=fun C σ H N _ T E=>src C σ H (fun it H=>∃ k,forL C t b k it σ H N T ee) E
noncomputable def ret (a:TE):TS:=fun C σ H _ _ T E=>a C σ H T E
noncomputable def raise (c:Nm) (a:TE):TS:=fun C σ H _ _ _ E=>a C σ H (fun _ H=>E c H) E
noncomputable def Ay (b:List TS) (cs:List Nm) (v:AV):TS:=fun C σ H N B T _=>aH C b σ H N B T fun c H=>c ∈ cs /\ T v H
noncomputable def brk:TS:=fun _ σ H _ B _ _=>B σ H
end TS
end
end
end Mine
end
section
set_option maxRecDepth 100000
open PySem
namespace Mine
noncomputable section
section
noncomputable abbrev Nx:Nm:=[46]
noncomputable abbrev df:Nm:=[65,80]
noncomputable abbrev jK:Nm:=[65,83]
noncomputable abbrev a9:Nm:=[65,99,114,111,70,111,114,109]
noncomputable abbrev iR:Nm:=[66,116,110]
noncomputable abbrev jJ:Nm:=[67,104]
noncomputable abbrev ia:Nm:=[68,86]
noncomputable abbrev iz:Nm:=[68,114,97,102,116,70,97,117,108,116]
noncomputable abbrev cV:Nm:=[70,84]
noncomputable abbrev gA:Nm:=[70,102]
noncomputable abbrev qz:Nm:=[70,105,101,108,100]
noncomputable abbrev aN:Nm:=[70,105,101,108,100,115]
noncomputable abbrev n9:Nm:=[70,111,114,109,87,97,108,107]
noncomputable abbrev aD:Nm:=[75,105,100,115]
noncomputable abbrev d7:Nm:=[77,97,120,76,101,110]
noncomputable abbrev sH:Nm:=[78]
noncomputable abbrev cO:Nm:=[78,97,109,101]
noncomputable abbrev gz:Nm:=[79,102,102]
noncomputable abbrev bI:Nm:=[79,112,116]
noncomputable abbrev cU:Nm:=[80,97,114,101,110,116]
noncomputable abbrev bo:Nm:=[82,101,102,101,114,101,110,99,101]
noncomputable abbrev fT:Nm:=[82,111,111,116]
noncomputable abbrev iQ:Nm:=[83,104,101,108,102]
noncomputable abbrev m9:Nm:=[83,104,101,108,102,46,97,100,100]
noncomputable abbrev m8:Nm:=[83,104,101,108,102,46,112,117,116]
noncomputable abbrev l6:Nm:=[83,104,101,108,102,46,114,111,111,116]
noncomputable abbrev kG:Nm:=[83,105,103]
noncomputable abbrev bU:Nm:=[83,116,114,105,110,103]
noncomputable abbrev aV:Nm:=[83,117,98,116,121,112,101]
noncomputable abbrev gp:Nm:=[84]
noncomputable abbrev cj:Nm:=[84,114,101,101,70,97,117,108,116]
noncomputable abbrev m7:Nm:=[84,120]
noncomputable abbrev ie:Nm:=[86]
noncomputable abbrev cA:Nm:=[87,105,100,103,101,116]
noncomputable abbrev fS:Nm:=[95,108,97,119,95,101,110,116,114,105,101,115]
noncomputable abbrev cZ:Nm:=[95,108,97,119,95,102,108,97,103]
noncomputable abbrev eT:Nm:=[95,108,97,119,95,102,108,97,103,115,95,114,105,103,104,116]
noncomputable abbrev ja:Nm:=[95,108,97,119,95,102,111,114,109]
noncomputable abbrev i9:Nm:=[95,108,97,119,95,107,105,110,100]
noncomputable abbrev fq:Nm:=[95,108,97,119,95,108,111,111,107]
noncomputable abbrev dQ:Nm:=[95,108,97,119,95,110,111,100,101]
noncomputable abbrev gM:Nm:=[95,108,97,119,95,111,98,106,101,99,116]
noncomputable abbrev bC:Nm:=[95,108,97,119,95,112,108,97,105,110]
noncomputable abbrev cR:Nm:=[95,108,97,119,95,114,101,102,117,115,101,100]
noncomputable abbrev eL:Nm:=[95,108,97,119,95,115,116,114,105,110,103]
noncomputable abbrev au:Nm:=[95,108,97,119,95,116,97,107,101]
noncomputable abbrev dc:Nm:=[95,108,97,119,95,118,97,108,117,101]
noncomputable abbrev dW:Nm:=[95,108,97,119,95,119,105,100,103,101,116,115]
noncomputable abbrev Qa:Nm:=[97]
noncomputable abbrev aJ:Nm:=[97,98,111,118,101]
noncomputable abbrev ue:Nm:=[97,99,99,101,110,116,95,115,105,103,110,115]
noncomputable abbrev sG:Nm:=[97,100,100]
noncomputable abbrev bK:Nm:=[97,112,112,101,110,100]
noncomputable abbrev P9:Nm:=[98]
noncomputable abbrev CR:Nm:=[98,97,114,101]
noncomputable abbrev lW:Nm:=[98,111,116,104]
noncomputable abbrev P8:Nm:=[99]
noncomputable abbrev fR:Nm:=[99,104,101,99,107]
noncomputable abbrev cz:Nm:=[99,104,111,105,99,101]
noncomputable abbrev CQ:Nm:=[99,111,100,101]
noncomputable abbrev xj:Nm:=[99,111,109,98]
noncomputable abbrev ud:Nm:=[99,111,109,98,111]
noncomputable abbrev JZ:Nm:=[100]
noncomputable abbrev eS:Nm:=[100,97,116,97]
noncomputable abbrev iy:Nm:=[100,101,101,112]
noncomputable abbrev zS:Nm:=[100,105,103,105,116]
noncomputable abbrev ly:Nm:=[100,117,101]
noncomputable abbrev xh:Nm:=[101,100,105,116]
noncomputable abbrev rN:Nm:=[101,120,116,101,110,100]
noncomputable abbrev g7:Nm:=[102,101,116,99,104]
noncomputable abbrev gJ:Nm:=[102,105,101,108,100,95,118,97,108,117,101]
noncomputable abbrev lV:Nm:=[102,105,101,108,100,115]
noncomputable abbrev fQ:Nm:=[102,105,101,108,100,115,95,110,97,109,101,100]
noncomputable abbrev jI:Nm:=[102,108,97,103,95,112,108,97,99,101]
noncomputable abbrev dM:Nm:=[102,108,97,103,95,115,101,116]
noncomputable abbrev jx:Nm:=[102,108,97,103,115]
noncomputable abbrev iP:Nm:=[102,108,97,103,115,95,111,102]
noncomputable abbrev nC:Nm:=[102,111,114,109]
noncomputable abbrev i8:Nm:=[102,111,114,109,95,100,97,116,97]
noncomputable abbrev bB:Nm:=[102,111,114,109,95,102,105,101,108,100,115]
noncomputable abbrev mK:Nm:=[102,111,114,109,95,111,102]
noncomputable abbrev aw:Nm:=[102,111,117,110,100]
noncomputable abbrev bA:Nm:=[102,117,108,108]
noncomputable abbrev bz:Nm:=[103,101,110,101,114,97,116,105,111,110]
noncomputable abbrev bR:Nm:=[103,101,116]
noncomputable abbrev bZ:Nm:=[103,105,118,101,110]
noncomputable abbrev bM:Nm:=[103,114,111,117,112,115]
noncomputable abbrev cQ:Nm:=[104,97,110,100,101,100]
noncomputable abbrev gy:Nm:=[104,97,115,95,102,108,97,103]
noncomputable abbrev ai:Nm:=[104,101,97,100]
noncomputable abbrev g6:Nm:=[104,101,97,114,100]
noncomputable abbrev dF:Nm:=[104,101,114,101]
noncomputable abbrev aE:Nm:=[104,111,109,101]
noncomputable abbrev mJ:Nm:=[104,111,109,101,95,111,102]
noncomputable abbrev MI:Nm:=[104,111,112]
noncomputable abbrev kj:Nm:=[105,110,110,101,114]
noncomputable abbrev jH:Nm:=[105,115,95,102,105,101,108,100]
noncomputable abbrev n8:Nm:=[105,115,95,104,101,120]
noncomputable abbrev xf:Nm:=[106,111,105,110]
noncomputable abbrev av:Nm:=[107,101,121]
noncomputable abbrev jk:Nm:=[107,105,100]
noncomputable abbrev i7:Nm:=[107,105,100,115]
noncomputable abbrev gI:Nm:=[107,105,110,100]
noncomputable abbrev i6:Nm:=[107,105,110,100,95,119,111,114,100]
noncomputable abbrev lu:Nm:=[108,97,119]
noncomputable abbrev aB:Nm:=[108,101,97,102]
noncomputable abbrev dE:Nm:=[108,105,110,101]
noncomputable abbrev gH:Nm:=[108,111,110,103,101,114,95,110,97,109,101]
noncomputable abbrev lK:Nm:=[108,111,111,107,115]
noncomputable abbrev nB:Nm:=[109,97,110,121]
noncomputable abbrev xe:Nm:=[109,97,114,107,95,115,105,103,110,115]
noncomputable abbrev aK:Nm:=[110,97,109,101]
noncomputable abbrev dK:Nm:=[110,101,119,95,110,111,100,101]
noncomputable abbrev qy:Nm:=[110,111,100,101,115]
noncomputable abbrev aA:Nm:=[110,117,109,98,101,114]
noncomputable abbrev dU:Nm:=[111,99,116,101,116]
noncomputable abbrev dZ:Nm:=[111,99,116,101,116,115]
noncomputable abbrev Hc:Nm:=[111,100,100]
noncomputable abbrev gZ:Nm:=[111,110,95,115,116,97,116,101,115]
noncomputable abbrev bf:Nm:=[111,110,101]
noncomputable abbrev jw:Nm:=[111,112,116,105,111,110,115]
noncomputable abbrev lJ:Nm:=[111,116,104,101,114]
noncomputable abbrev iO:Nm:=[111,119,110,95,110,97,109,101]
noncomputable abbrev eK:Nm:=[111,119,110,95,119,105,100,103,101,116,115]
noncomputable abbrev jv:Nm:=[112,97,105,114,115]
noncomputable abbrev c9:Nm:=[112,97,114,116]
noncomputable abbrev n7:Nm:=[112,97,115,115,119,111,114,100]
noncomputable abbrev eH:Nm:=[112,108,97,99,101]
noncomputable abbrev ki:Nm:=[112,108,97,99,101,115]
noncomputable abbrev aq:Nm:=[112,111,111,108]
noncomputable abbrev wh:Nm:=[112,111,112]
noncomputable abbrev jG:Nm:=[112,117,115,104]
noncomputable abbrev Hb:Nm:=[112,117,116]
noncomputable abbrev cF:Nm:=[114,97,100,105,111]
noncomputable abbrev i0:Nm:=[114,101,102,101,114,101,110,99,101]
noncomputable abbrev n6:Nm:=[114,101,113,117,105,114,101,100]
noncomputable abbrev CP:Nm:=[114,105,110,103]
noncomputable abbrev sF:Nm:=[114,111,111,116]
noncomputable abbrev aP:Nm:=[114,111,119]
noncomputable abbrev dC:Nm:=[114,111,119,95,105,110]
noncomputable abbrev aS:Nm:=[114,111,119,115]
noncomputable abbrev xd:Nm:=[115,99,114,105,112,116]
noncomputable abbrev lU:Nm:=[115,101,101,110]
noncomputable abbrev cN:Nm:=[115,101,108,102]
noncomputable abbrev aa:Nm:=[115,104,101,108,102]
noncomputable abbrev mH:Nm:=[115,105,103,110,95,111,102]
noncomputable abbrev m6:Nm:=[115,105,103,110,97,116,117,114,101]
noncomputable abbrev bG:Nm:=[115,111,114,116]
noncomputable abbrev pO:Nm:=[115,116,97,114,116,115,119,105,116,104]
noncomputable abbrev gY:Nm:=[115,116,97,116,101]
noncomputable abbrev lr:Nm:=[115,116,97,116,101,95,105,110]
noncomputable abbrev w9:Nm:=[115,116,97,116,101,115]
noncomputable abbrev fP:Nm:=[116,97,98,108,101]
noncomputable abbrev bY:Nm:=[116,101,120,116]
noncomputable abbrev dP:Nm:=[116,101,120,116,95,105,110]
noncomputable abbrev kP:Nm:=[116,101,120,116,95,111,102]
noncomputable abbrev sE:Nm:=[116,101,120,116,95,111,102,95,117,110,105,116,115]
noncomputable abbrev bl:Nm:=[116,111,117,114]
noncomputable abbrev iw:Nm:=[116,114,97,105,108,101,114]
noncomputable abbrev jF:Nm:=[116,117,114,110]
noncomputable abbrev Iz:Nm:=[117,110,105,116,115]
noncomputable abbrev w7:Nm:=[117,112,100,97,116,101]
noncomputable abbrev ak:Nm:=[118,97,108,117,101]
noncomputable abbrev cy:Nm:=[118,97,108,117,101,95,105,110]
noncomputable abbrev eG:Nm:=[119,97,108,107,101,100,95,102,111,114,109]
noncomputable abbrev sD:Nm:=[119,97,121]
noncomputable abbrev ay:Nm:=[119,104,111,108,101]
noncomputable abbrev n5:Nm:=[119,104,111,108,101,95,105,110]
noncomputable abbrev bw:Nm:=[119,105,100,103,101,116]
noncomputable abbrev cG:Nm:=[119,105,100,103,101,116,115]
noncomputable abbrev dY:Nm:=[119,105,116,104,95,105,110,104,101,114,105,116,101,100]
noncomputable abbrev bW:Nm:=[119,111,114,100]
noncomputable abbrev zR:Nm:=[119,111,114,100,115]
noncomputable abbrev nA:Nm:=[120]
noncomputable abbrev ny:Nm:=[121]
noncomputable abbrev Nv:Nm:=[122]
structure Fn where
 params:List Nm
 body:List TS
structure Cl where
 params:List Nm
 bb:List AV
 jn:List (Nm × TE)
noncomputable def bindParams (ps:List Nm) (bb:List AV) (vs:List AV):Option Loc :=
 if vs.length <= ps.length /\ ps.length <= vs.length + bb.length then
  some (ps.zip (vs ++ bb.drop (bb.length - (ps.length - vs.length))))
 else Option.none
noncomputable def wY:CF:=fun _ _ _ _ _=>False
noncomputable def LF:Cl:=⟨[bY],[],[(bY,(.var bY))]⟩
noncomputable def FQ:Cl:=⟨[dZ,n8],[(.bool false)],[(dZ,(.var dZ)),(n8,(.var n8))]⟩
noncomputable def zy:Cl:=⟨[aA,bz],[],[(aA,(.var aA)),(bz,(.var bz))]⟩
noncomputable def Jc:Cl:=⟨[fP,iw],[.none,.none],[(fP,(.ite (.cmp .Is (.var fP) (.lit .none)) (.dict false []) (.var fP))),(iw,(.ite (.cmp .Is (.var iw) (.lit .none)) (.dict false []) (.var iw)))]⟩
noncomputable def Jd:Cl:=⟨[aK,i0,aJ,cG,ai,gI],[],[(aK,(.var aK)),(i0,(.var i0)),(aJ,(.var aJ)),(cG,(.var cG)),(ai,(.var ai)),(gI,(.var gI))]⟩
noncomputable def BO:Cl:=⟨[],[],[(lV,(.list false [])),(qy,(.list false [])),(lU,(.dict false []))]⟩
noncomputable def gQ:List (Nm × Cl):=[(cO,LF),(bU,FQ),(bo,zy),(iQ,Jc),(qz,Jd),(n9,BO)]
noncomputable def Mp (c:Nm) (vs:List AV) (H:Hp) (P:AP):Prop:=Is (gQ.lookup c) fun cl=>Is (bindParams cl.params cl.bb vs) fun σ=>runN wY σ cl.jn H fun fs H=>P (.inst c fs) H
noncomputable def TE.new (c:Nm) (as:List TE):TE:=fun C σ H P E=>runs C σ as H (fun vs H=>Mp c vs H P) E
noncomputable def q7:Fn:=⟨[aq,nB],[
 .ite (.cmp .Eq (.bi .len (.var aq)) (.lit (.int (0)))) [.ret (.lit (.int (0)))] [],
 .assign (.one zS) (.bin .Mod (.sub (.var aq) (.lit (.int (0)))) (.var nB)),
 .store (.var aq) (.lit (.int (0))) (.bin .FloorDiv (.sub (.var aq) (.lit (.int (0)))) (.var nB)),
 .ite (.cmp .Eq (.sub (.var aq) (.lit (.int (0)))) (.lit (.int (0)))) [.expr (.aF (.var aq) wh [(.lit (.int (0)))])] [],
 .ret (.var zS)]⟩
noncomputable def ph:Fn:=⟨[aq],[
 .ret (.new bU [(.sub (.tup [(.lit (.bytes [])),(.lit (.bytes [97])),(.lit (.bytes [97,98,99])),(.lit (.bytes [97,98,99,100]))]) (.call au [(.var aq),(.lit (.int (4)))]))])]⟩
noncomputable def pj:Fn:=⟨[aq,bG],[
 .assign (.one sD) (.call au [(.var aq),(.lit (.int (5)))]),
 .ite (.cmp .Eq (.var sD) (.lit (.int (0)))) [.ret (.lit (.int (7)))] [],
 .ite (.cmp .Eq (.var bG) (.lit (.str iR))) [.ret (.new cO [(.sub (.tup [(.lit (.str gz)),(.lit (.str nA)),(.lit (.str ny)),(.lit (.str Nv))]) (.bin .Sub (.var sD) (.lit (.int (1)))))])] [],
 .ret (.ite (.d8 (.cmp .Eq (.var bG) (.lit (.str jJ))) (.cmp .Gt (.var sD) (.lit (.int (2))))) (.comp true (.call eL [(.var aq)]) (.one jF) (.range (.bin .Sub (.var sD) (.lit (.int (1))))) []) (.call eL [(.var aq)]))]⟩
noncomputable def cW:Fn:=⟨[aq,ai,bZ],[
 .ite (.qP (.cmp .Eq (.call au [(.var aq),(.lit (.int (3)))]) (.lit (.int (1)))) (.d8 (.cmp .NotIn (.lit (.str cV)) (.var bZ)) (.cmp .Lt (.call au [(.var aq),(.lit (.int (6)))]) (.lit (.int (5)))))) [.store (.var ai) (.lit (.str cV)) (.new cO [(.sub (.tup [(.lit (.str m7)),(.lit (.str jJ)),(.lit (.str iR)),(.lit (.str iR)),(.lit (.str jJ)),(.lit (.str kG))]) (.call au [(.var aq),(.lit (.int (6)))]))])] [],
 .assign (.one bG) (.attr (.aF (.var ai) bR [(.lit (.str cV)),(.aF (.var bZ) bR [(.lit (.str cV)),(.new cO [(.lit (.str []))])])]) bY),
 .ite (.cmp .Eq (.call au [(.var aq),(.lit (.int (2)))]) (.lit (.int (1)))) [.store (.var ai) (.lit (.str gA)) (.bi .sum (.comp true (.bin .Pow (.lit (.int (2))) (.var eH)) (.one eH) (.ex (.tup [(.lit (.int (0))),(.lit (.int (2))),(.lit (.int (14))),(.lit (.int (15))),(.lit (.int (16))),(.lit (.int (17))),(.lit (.int (18))),(.lit (.int (21))),(.lit (.int (25)))])) [(.cmp .Eq (.call au [(.var aq),(.lit (.int (4)))]) (.lit (.int (1))))]))] [],
 .for (.one av) (.ex (.tup [(.lit (.str ie)),(.lit (.str ia))])) [.ite (.cmp .Eq (.call au [(.var aq),(.lit (.int (2)))]) (.lit (.int (1)))) [.store (.var ai) (.var av) (.call gM [(.var aq),(.var bG)])] []],
 .ite (.cmp .Eq (.call au [(.var aq),(.lit (.int (3)))]) (.lit (.int (1)))) [.store (.var ai) (.lit (.str d7)) (.lit (.int (3)))] [],
 .ite (.cmp .Eq (.call au [(.var aq),(.lit (.int (2)))]) (.lit (.int (1)))) [.assign (.one bf) (.list true [(.new bU [(.lit (.bytes [97,98,99]))]),(.new bU [(.lit (.bytes [76,111,110,103]))])]),.store (.var ai) (.lit (.str bI)) (.slice (.list true [(.new bU [(.lit (.bytes [97]))]),(.var bf),(.new bU [(.lit (.bytes [97,98,99,100]))])]) (.bin .Add (.lit (.int (1))) (.call au [(.var aq),(.lit (.int (3)))])))] []]⟩
noncomputable def q8:Fn:=⟨[aq,ai],[
 .assign (.one w9) (.comp true (.var gY) (.one gY) (.ex (.tup [(.lit (.str gz)),(.lit (.str nA)),(.lit (.str ny))])) [(.cmp .Eq (.call au [(.var aq),(.lit (.int (2)))]) (.lit (.int (1))))]),
 .store (.var ai) (.lit (.str df)) (.dict true [((.lit (.str sH)),(.bi (.dict true) (.comp true (.tup [(.var gY),(.lit (.int (0)))]) (.one gY) (.ex (.var w9)) [])))]),
 .store (.var ai) (.lit (.str jK)) (.new cO [(.sub (.tup [(.lit (.str gz)),(.lit (.str nA)),(.lit (.str ny))]) (.call au [(.var aq),(.lit (.int (3)))]))])]⟩
noncomputable def nI:Fn:=⟨[aq,aa,aE,ai],[
 .assign (.one nB) (.call au [(.var aq),(.lit (.int (4)))]),
 .ite (.cmp .Eq (.var nB) (.lit (.int (0)))) [.expr (.call fq [(.var aq),(.var ai)]),.ite (.cmp .Eq (.call au [(.var aq),(.lit (.int (2)))]) (.lit (.int (0)))) [.store (.var ai) (.lit (.str aV)) (.new cO [(.lit (.str cA))])] [],.ret (.ite (.cmp .In (.lit (.str aV)) (.var ai)) (.list true [(.var aE)]) (.list false []))] [],
 .assign (.one aw) (.list false []),
 .for (.one jF) (.range (.var nB)) [.assign (.one bw) (.dict false [((.lit (.str aV)),(.new cO [(.lit (.str cA))])),((.lit (.str cU)),(.var aE))]),.expr (.call fq [(.var aq),(.var bw)]),.expr (.aF (.var aw) bK [(.aF (.var aa) sG [(.var bw)])])],
 .store (.var ai) (.lit (.str aD)) (.bi .list (.var aw)),
 .ret (.var aw)]⟩
noncomputable def bP:Fn:=⟨[aq,aa,aJ,aK,bZ,iy,aS,bM],[
 .assign (.many [aE,ai]) (.tup [(.aF (.var aa) sG [(.dict true [])]),(.dict false [])]),
 .assign (.one c9) (.sub (.tup [(.lit (.str Qa)),(.lit (.str P9)),(.lit (.str P8))]) (.call au [(.var aq),(.lit (.int (3)))])),
 .ite (.qP (.cmp .Gt (.var iy) (.lit (.int (0)))) (.cmp .Lt (.call au [(.var aq),(.lit (.int (5)))]) (.lit (.int (4))))) [.store (.var ai) (.lit (.str gp)) (.new bU [(.bi .bytes (.list true [(.bi .ord (.var c9))]))])] [],
 .assign (.one bA) (.ite (.cmp .NotIn (.lit (.str gp)) (.var ai)) (.var aK) (.ite (.cmp .Is (.var aK) (.lit .none)) (.var c9) (.bin .Add (.bin .Add (.var aK) (.lit (.str Nx))) (.var c9)))),
 .ite (.cmp .IsNot (.var aJ) (.lit .none)) [.store (.var ai) (.lit (.str cU)) (.var aJ)] [],
 .expr (.call fS [(.var aq),(.var ai),(.var bZ)]),
 .assign (.one ay) (.bi (.dict false) (.var bZ)),
 .for (.one av) (.ex (.var ai)) [.store (.var ay) (.var av) (.sub (.var ai) (.var av))],
 .ite (.d8 (.cmp .Lt (.var iy) (.lit (.int (2)))) (.cmp .Eq (.call au [(.var aq),(.lit (.int (3)))]) (.lit (.int (1))))) [.assign (.one cQ) (.bi (.dict true) (.comp true (.tup [(.var av),(.sub (.var ay) (.var av))]) (.one av) (.ex (.tup [(.lit (.str cV)),(.lit (.str gA)),(.lit (.str ie)),(.lit (.str ia)),(.lit (.str d7)),(.lit (.str bI))])) [(.cmp .In (.var av) (.var ay))])),.expr (.aF (.var bM) bK [(.tup [(.var aE),(.var aJ)])]),.store (.var ai) (.lit (.str aD)) (.comp true (.call dQ [(.var aq),(.var aa),(.var aE),(.var bA),(.var cQ),(.bin .Add (.var iy) (.lit (.int (1)))),(.var aS),(.var bM)]) (.one jF) (.range (.bin .Add (.lit (.int (1))) (.call au [(.var aq),(.lit (.int (2)))]))) [])] [.expr (.aF (.var aS) bK [(.tup [(.ite (.cmp .IsNot (.var bA) (.lit .none)) (.var bA) (.lit (.str []))),(.var aE),(.var aJ),(.var ay),(.call dW [(.var aq),(.var aa),(.var aE),(.var ai)])])])],
 .expr (.aF (.var aa) Hb [(.attr (.var aE) aA),(.lit (.int (0))),(.var ai)]),
 .ret (.var aE)]⟩
noncomputable def rh:Fn:=⟨[aq],[
 .assign (.one aa) (.new iQ []),
 .assign (.many [sF,aS,bM]) (.tup [(.aF (.var aa) sG [(.dict true [])]),(.list false []),(.list false [])]),
 .assign (.one nC) (.dict true [((.lit (.str aN)),(.comp true (.call dQ [(.var aq),(.var aa),(.lit .none),(.lit .none),(.dict true []),(.lit (.int (0))),(.var aS),(.var bM)]) (.one jF) (.range (.bin .Add (.lit (.int (1))) (.call au [(.var aq),(.lit (.int (2)))]))) []))]),
 .expr (.aF (.var aa) Hb [(.attr (.var sF) aA),(.lit (.int (0))),(.dict true [((.lit (.str a9)),(.ite (.cmp .Eq (.call au [(.var aq),(.lit (.int (2)))]) (.lit (.int (1)))) (.aF (.var aa) sG [(.var nC)]) (.var nC)))])]),
 .store (.attr (.var aa) iw) (.lit (.str fT)) (.var sF),
 .ret (.tup [(.var aa),(.var aS),(.var bM)])]⟩
noncomputable def rj:Fn:=⟨[ay,eH],[
 .ret (.cmp .Eq (.bin .Mod (.bin .FloorDiv (.aF (.var ay) bR [(.lit (.str gA)),(.lit (.int (0)))]) (.bin .Pow (.lit (.int (2))) (.bin .Sub (.var eH) (.lit (.int (1)))))) (.lit (.int (2)))) (.lit (.int (1))))]⟩
noncomputable def q9:Fn:=⟨[ay],[
 .assign (.one bG) (.attr (.aF (.var ay) bR [(.lit (.str cV)),(.new cO [(.lit (.str []))])]) bY),
 .ite (.cmp .Eq (.var bG) (.lit (.str iR))) [.ret (.ite (.call cZ [(.var ay),(.lit (.int (17)))]) (.lit (.str jG)) (.ite (.call cZ [(.var ay),(.lit (.int (16)))]) (.lit (.str cF)) (.lit (.str fR))))] [],
 .ret (.aF (.dict true [((.lit (.str m7)),(.lit (.str bY))),((.lit (.str jJ)),(.lit (.str cz))),((.lit (.str kG)),(.lit (.str m6)))]) bR [(.var bG),(.lit (.str []))])]⟩
noncomputable def qa:Fn:=⟨[ak],[
 .ret (.ite (.isin (.var ak) (.dz bU)) (.aF (.lit (.str [])) xf [(.comp true (.bi .chr (.var CQ)) (.one CQ) (.ex (.attr (.var ak) dZ)) [])]) (.lit .none))]⟩
noncomputable def p9:Fn:=⟨[ay,av],[
 .assign (.many [gI,ak]) (.tup [(.call i9 [(.var ay)]),(.aF (.var ay) bR [(.var av)])]),
 .ite (.cmp .In (.var gI) (.tup [(.lit (.str fR)),(.lit (.str cF))])) [.ret (.ite (.isin (.var ak) (.dz cO)) (.attr (.var ak) bY) (.lit (.str gz)))] [],
 .ite (.d8 (.cmp .Eq (.var gI) (.lit (.str cz))) (.isin (.var ak) .eo)) [.ret (.comp true (.call bC [(.var bf)]) (.one bf) (.ex (.var ak)) [])] [],
 .ret (.ite (.cmp .In (.var gI) (.tup [(.lit (.str bY)),(.lit (.str cz))])) (.call bC [(.var ak)]) (.lit .none))]⟩
noncomputable def kU:Fn:=⟨[aa,aw,aS],[
 .assign (.one zR) (.tup [(.lit (.str [114,101,97,100,32,111,110,108,121])),(.lit (.str n6)),(.lit (.str [110,111,32,101,120,112,111,114,116])),(.lit (.str [109,117,108,116,105,32,108,105,110,101])),(.lit (.str n7)),(.lit (.str [110,111,32,116,111,103,103,108,101,32,116,111,32,111,102,102])),(.lit (.str cF)),(.lit (.str jG)),(.lit (.str ud)),(.lit (.str xh)),(.lit (.str bG)),(.lit (.str [109,117,108,116,105,32,115,101,108,101,99,116])),(.lit (.str xj)),(.lit (.str [105,110,32,117,110,105,115,111,110]))]),
 .assign (.one ki) (.tup [(.lit (.int (1))),(.lit (.int (2))),(.lit (.int (3))),(.lit (.int (13))),(.lit (.int (14))),(.lit (.int (15))),(.lit (.int (16))),(.lit (.int (17))),(.lit (.int (18))),(.lit (.int (19))),(.lit (.int (20))),(.lit (.int (22))),(.lit (.int (25))),(.lit (.int (26)))]),
 .for (.many [bW,eH]) (.zip (.var zR) (.var ki)) [.ite (.qP (.j9 (.call dM [(.bin .Pow (.lit (.int (2))) (.bin .Sub (.var eH) (.lit (.int (1))))),(.var bW)])) (.call dM [(.bin .Sub (.bin .Sub (.bin .Pow (.lit (.int (2))) (.lit (.int (26)))) (.lit (.int (1)))) (.bin .Pow (.lit (.int (2))) (.bin .Sub (.var eH) (.lit (.int (1)))))),(.var bW)])) [.ret (.lit (.bool false))] [],.ite (.cmp .NotEq (.comp true (.call gy [(.var aa),(.var aB),(.var bW)]) (.one aB) (.ex (.var aw)) []) (.comp true (.call cZ [(.sub (.var aP) (.lit (.int (3)))),(.var eH)]) (.one aP) (.ex (.var aS)) [])) [.ret (.lit (.bool false))] []],
 .ret (.lit (.bool true))]⟩
noncomputable def nJ:Fn:=⟨[aa,aK],[
 .Ay [.ite (.cmp .Is (.var aK) (.lit .none)) [.expr (.call bB [(.var aa)])] [.expr (.call gJ [(.var aa),(.var aK)])]] [iz,cj] (.bool true),
 .ret (.lit (.bool false))]⟩
noncomputable def jS:Fn:=⟨[xd],[
 .assign (.one aq) (.comp false (.bin .Mod (.bi .abs (.var aA)) (.bin .Pow (.lit (.int (10))) (.lit (.int (80))))) (.one aA) (.ex (.slice (.var xd) (.lit (.int (24))))) []),
 .assign (.many [aa,aS,bM]) (.call ja [(.var aq)]),
 .assign (.one aw) (.call bB [(.var aa)]),
 .assign (.one g6) (.list false []),
 .for (.one aB) (.ex (.var aw)) [.assign (.one aJ) (.ite (.cmp .Is (.attr (.var aB) aJ) (.lit .none)) (.lit .none) (.attr (.attr (.var aB) aJ) aA)),.expr (.aF (.var g6) bK [(.tup [(.attr (.var aB) aK),(.attr (.attr (.var aB) i0) aA),(.var aJ),(.comp true (.attr (.var bf) aA) (.one bf) (.ex (.attr (.var aB) cG)) []),(.attr (.var aB) gI)])])],
 .assign (.one ly) (.list false []),
 .for (.many [aK,aE,aJ,ay,cG]) (.ex (.var aS)) [.expr (.aF (.var ly) bK [(.tup [(.var aK),(.attr (.var aE) aA),(.ite (.cmp .Is (.var aJ) (.lit .none)) (.lit .none) (.attr (.var aJ) aA)),(.comp true (.attr (.var bf) aA) (.one bf) (.ex (.var cG)) []),(.call i9 [(.var ay)])])])],
 .ite (.qP (.cmp .NotEq (.var g6) (.var ly)) (.j9 (.call eT [(.var aa),(.var aw),(.var aS)]))) [.ret (.lit (.bool false))] [],
 .assign (.one eS) (.dict false []),
 .for (.many [aB,aP]) (.zip (.var aw) (.var aS)) [.assign (.one ak) (.call dc [(.sub (.var aP) (.lit (.int (3)))),(.lit (.str ie))]),.ite (.qP (.cmp .NotEq (.call cy [(.var aa),(.var aB),(.lit (.str ie))]) (.var ak)) (.cmp .NotEq (.call cy [(.var aa),(.var aB),(.lit (.str ia))]) (.call dc [(.sub (.var aP) (.lit (.int (3)))),(.lit (.str ia))]))) [.ret (.lit (.bool false))] [],.assign (.one jv) (.comp true (.ite (.isin (.var bf) .eo) (.tup [(.sub (.var bf) (.lit (.int (0)))),(.sub (.var bf) (.lit (.int (1))))]) (.tup [(.var bf),(.var bf)])) (.one bf) (.ex (.aF (.sub (.var aP) (.lit (.int (3)))) bR [(.lit (.str bI)),(.list false [])])) []),.ite (.cmp .NotEq (.call jw [(.var aa),(.var aB)]) (.comp true (.tup [(.call bC [(.var bf)]),(.call bC [(.var lJ)])]) (.many [bf,lJ]) (.ex (.var jv)) [])) [.ret (.lit (.bool false))] [],.for (.one bw) (.ex (.sub (.var aP) (.lit (.int (4))))) [.ite (.cmp .NotEq (.call gZ [(.var aa),(.var bw)]) (.comp true (.var av) (.one av) (.ex (.tup [(.lit (.str nA)),(.lit (.str ny))])) [(.cmp .In (.var av) (.sub (.sub (.aF (.var aa) g7 [(.var bw)]) (.lit (.str df))) (.lit (.str sH))))])) [.ret (.lit (.bool false))] []],.ite (.d8 (.cmp .IsNot (.var ak) (.lit .none)) (.d8 (.j9 (.call cZ [(.sub (.var aP) (.lit (.int (3)))),(.lit (.int (3)))])) (.cmp .NotIn (.sub (.var aP) (.lit (.int (0)))) (.var eS)))) [.store (.var eS) (.sub (.var aP) (.lit (.int (0)))) (.var ak)] []],
 .ite (.cmp .NotEq (.call i8 [(.var aa)]) (.var eS)) [.ret (.lit (.bool false))] [],
 .for (.one aK) (.ex (.comp true (.sub (.var aP) (.lit (.int (0)))) (.one aP) (.ex (.var aS)) [])) [.ite (.cmp .NotEq (.call gJ [(.var aa),(.var aK)]) (.sub (.comp true (.call dc [(.sub (.var aP) (.lit (.int (3)))),(.lit (.str ie))]) (.one aP) (.ex (.var aS)) [(.cmp .Eq (.sub (.var aP) (.lit (.int (0)))) (.var aK))]) (.lit (.int (0))))) [.ret (.lit (.bool false))] []],
 .assign (.one CP) (.new iQ [(.dict true [((.lit (.int (1))),(.tup [(.lit (.int (0))),(.dict true [((.lit (.str a9)),(.dict true [((.lit (.str aN)),(.list true [(.new bo [(.lit (.int (2))),(.lit (.int (0)))])]))]))])])),((.lit (.int (2))),(.tup [(.lit (.int (0))),(.dict true [((.lit (.str gp)),(.new bU [(.lit (.bytes [97]))])),((.lit (.str aD)),(.list true [(.new bo [(.lit (.int (2))),(.lit (.int (0)))])]))])]))]),(.dict true [((.lit (.str fT)),(.new bo [(.lit (.int (1))),(.lit (.int (0)))]))])]),
 .assign (.one Hc) (.new iQ [(.dict true [((.lit (.int (1))),(.tup [(.lit (.int (0))),(.dict true [((.lit (.str a9)),(.dict true [((.lit (.str aN)),(.lit (.int (5))))]))])]))]),(.dict true [((.lit (.str fT)),(.new bo [(.lit (.int (1))),(.lit (.int (0)))]))])]),
 .assign (.one CR) (.new iQ [(.dict true [((.lit (.int (1))),(.tup [(.lit (.int (0))),(.dict true [])]))]),(.dict true [((.lit (.str fT)),(.new bo [(.lit (.int (1))),(.lit (.int (0)))]))])]),
 .ret (.d8 (.call cR [(.var aa),(.lit (.str JZ))]) (.d8 (.call cR [(.var CP),(.lit .none)]) (.d8 (.call cR [(.var Hc),(.lit .none)]) (.cmp .Eq (.call bB [(.var CR)]) (.list false [])))))]⟩
noncomputable def vh:Fn:=⟨[dZ],[
 .ite (.j9 (.aF (.var dZ) pO [(.lit (.bytes [254,255]))])) [.ret (.aF (.lit (.str [])) xf [(.comp true (.bi .chr (.call mH [(.var dU)])) (.one dU) (.ex (.var dZ)) [])])] [],
 .bad,
 .ret (.bin .Add (.call sE [(.var Iz)]) (.ite (.cmp .Eq (.bin .Mod (.bi .len (.var dZ)) (.lit (.int (2)))) (.lit (.int (1)))) (.bi .chr (.lit (.int (65533)))) (.lit (.str []))))]⟩
noncomputable def vm:Fn:=⟨[dU],[
 .ite (.qP (.cmp .In (.var dU) (.tup [(.lit (.int (9))),(.lit (.int (10))),(.lit (.int (13)))])) (.qP (.ym (.lit (.int (32))) .LtE (.var dU) .Lt (.lit (.int (127)))) (.d8 (.ym (.lit (.int (160))) .Lt (.var dU) .Lt (.lit (.int (256)))) (.cmp .NotEq (.var dU) (.lit (.int (173))))))) [.ret (.var dU)] [],
 .ite (.ym (.lit (.int (24))) .LtE (.var dU) .Lt (.lit (.int (32)))) [.ret (.sub (.call ue []) (.bin .Sub (.var dU) (.lit (.int (24)))))] [],
 .ite (.ym (.lit (.int (128))) .LtE (.var dU) .Lt (.lit (.int (159)))) [.ret (.sub (.call xe []) (.bin .Sub (.var dU) (.lit (.int (128)))))] [],
 .ret (.ite (.cmp .Eq (.var dU) (.lit (.int (160)))) (.lit (.int (8364))) (.lit (.int (65533))))]⟩
noncomputable def vo:Fn:=⟨[aa,ak],[
 .assign (.one dF) (.var ak),
 .assign (.one lU) (.dict false []),
 .while (.d8 (.isin (.var dF) (.dz bo)) (.cmp .NotIn (.attr (.var dF) aA) (.var lU))) [.store (.var lU) (.attr (.var dF) aA) (.lit (.bool true)),.assign (.many [bz,aw]) (.aF (.attr (.var aa) fP) bR [(.attr (.var dF) aA),(.tup [(.lit (.int (-1))),(.lit .none)])]),.ite (.cmp .NotEq (.var bz) (.attr (.var dF) bz)) [.brk] [],.ite (.j9 (.isin (.var aw) (.dz bo))) [.ret (.var dF)] [],.assign (.one dF) (.var aw)],
 .raise cj (.lit (.str [97,32,110,111,100,101,32,111,102,32,116,104,101,32,112,97,103,101,115,32,105,115,32,109,105,115,115,105,110,103]))]⟩
noncomputable def p8:Fn:=⟨[bW],[
 .assign (.one ki) (.dict false [((.lit (.str [114,101,97,100,32,111,110,108,121])),(.lit (.int (1)))),((.lit (.str n6)),(.lit (.int (2)))),((.lit (.str [110,111,32,101,120,112,111,114,116])),(.lit (.int (3)))),((.lit (.str [109,117,108,116,105,32,108,105,110,101])),(.lit (.int (13)))),((.lit (.str n7)),(.lit (.int (14)))),((.lit (.str [110,111,32,116,111,103,103,108,101,32,116,111,32,111,102,102])),(.lit (.int (15))))]),
 .expr (.aF (.var ki) w7 [(.dict true [((.lit (.str cF)),(.lit (.int (16)))),((.lit (.str jG)),(.lit (.int (17)))),((.lit (.str ud)),(.lit (.int (18)))),((.lit (.str xh)),(.lit (.int (19)))),((.lit (.str bG)),(.lit (.int (20)))),((.lit (.str [109,117,108,116,105,32,115,101,108,101,99,116])),(.lit (.int (22)))),((.lit (.str xj)),(.lit (.int (25))))])]),
 .store (.var ki) (.lit (.str [105,110,32,117,110,105,115,111,110])) (.lit (.int (26))),
 .ret (.sub (.var ki) (.var bW))]⟩
noncomputable def tM:Fn:=⟨[jx,bW],[
 .ret (.cmp .Eq (.bin .BitAnd (.bin .RShift (.var jx) (.bin .Sub (.call jI [(.var bW)]) (.lit (.int (1))))) (.lit (.int (1)))) (.lit (.int (1))))]⟩
noncomputable def tC:Fn:=⟨[aa,ai,av],[
 .assign (.one ak) (.aF (.var aa) bR [(.var ai),(.var av)]),
 .ret (.ite (.d8 (.isin (.var ak) .pG) (.j9 (.isin (.var ak) .nR))) (.var ak) (.lit .none))]⟩
noncomputable def tL:Fn:=⟨[aa,ai],[
 .assign (.one jx) (.call n5 [(.var aa),(.var ai),(.lit (.str gA))]),
 .ret (.ite (.cmp .Is (.var jx) (.lit .none)) (.lit (.int (0))) (.var jx))]⟩
noncomputable def tK:Fn:=⟨[aa,aB,bW],[
 .ret (.call dM [(.call iP [(.var aa),(.attr (.var aB) ai)]),(.var bW)])]⟩
noncomputable def vp:Fn:=⟨[aa],[
 .assign (.one nC) (.aF (.var aa) bR [(.aF (.var aa) sF []),(.lit (.str a9))]),
 .ret (.ite (.isin (.var nC) .iJ) (.var nC) (.dict true []))]⟩
noncomputable def yb:Fn:=⟨[aa,ai,av],[
 .assign (.one aP) (.aF (.var aa) bR [(.var ai),(.var av)]),
 .ite (.cmp .Is (.var aP) (.lit .none)) [.ret (.list true [])] [],
 .ite (.j9 (.isin (.var aP) .eo)) [.raise cj (.bin .Add (.var av) (.lit (.str [32,105,115,32,110,111,32,97,114,114,97,121])))] [],
 .ret (.var aP)]⟩
noncomputable def tF:Fn:=⟨[aa,ai],[
 .assign (.one bW) (.aF (.var aa) bR [(.var ai),(.lit (.str gp))]),
 .ret (.ite (.isin (.var bW) (.dz bU)) (.call kP [(.attr (.var bW) dZ)]) (.lit .none))]⟩
noncomputable def o7:Fn:=⟨[aK,c9],[
 .ite (.cmp .Is (.var c9) (.lit .none)) [.ret (.var aK)] [],
 .ret (.ite (.cmp .Is (.var aK) (.lit .none)) (.var c9) (.bin .Add (.bin .Add (.var aK) (.lit (.str Nx))) (.var c9)))]⟩
noncomputable def qY:Fn:=⟨[aa,ai],[
 .assign (.one bG) (.aF (.var aa) bR [(.var ai),(.lit (.str cV))]),
 .assign (.one bW) (.ite (.isin (.var bG) (.dz cO)) (.attr (.var bG) bY) (.lit (.str []))),
 .ite (.cmp .Eq (.var bW) (.lit (.str iR))) [.assign (.one jx) (.call iP [(.var aa),(.var ai)]),.ite (.call dM [(.var jx),(.lit (.str jG))]) [.ret (.lit (.str jG))] [],.ret (.ite (.call dM [(.var jx),(.lit (.str cF))]) (.lit (.str cF)) (.lit (.str fR)))] [],
 .ret (.aF (.dict true [((.lit (.str m7)),(.lit (.str bY))),((.lit (.str jJ)),(.lit (.str cz))),((.lit (.str kG)),(.lit (.str m6)))]) bR [(.var bW),(.lit (.str []))])]⟩
noncomputable def mj:Fn:=⟨[ai,bZ],[
 .assign (.one aw) (.bi (.dict false) (.var bZ)),
 .for (.one av) (.ex (.var ai)) [.store (.var aw) (.var av) (.sub (.var ai) (.var av))],
 .ret (.var aw)]⟩
noncomputable def tG:Fn:=⟨[aa,bl,ak],[
 .assign (.one aE) (.call mJ [(.var aa),(.var ak)]),
 .assign (.one ai) (.aF (.var aa) g7 [(.var aE)]),
 .ite (.qP (.cmp .In (.attr (.var aE) aA) (.attr (.var bl) lU)) (.j9 (.isin (.var ai) .iJ))) [.raise cj (.lit (.str [97,32,102,105,101,108,100,32,105,115,32,110,111,32,100,105,99,116,44,32,111,114,32,115,116,97,110,100,115,32,116,119,105,99,101]))] [],
 .store (.attr (.var bl) lU) (.attr (.var aE) aA) (.lit (.bool true)),
 .ret (.tup [(.var aE),(.var ai)])]⟩
noncomputable def tH:Fn:=⟨[aa,ak],[
 .assign (.one ai) (.aF (.var aa) g7 [(.var ak)]),
 .ret (.d8 (.isin (.var ai) .iJ) (.cmp .IsNot (.call iO [(.var aa),(.var ai)]) (.lit .none)))]⟩
noncomputable def o6:Fn:=⟨[aa,bl,aE,ai,i7],[
 .ite (.cmp .Gt (.bi .len (.var i7)) (.lit (.int (0)))) [.ret (.comp true (.sub (.call dK [(.var aa),(.var bl),(.var jk)]) (.lit (.int (0)))) (.one jk) (.ex (.var i7)) [])] [],
 .assign (.one bG) (.aF (.var aa) bR [(.var ai),(.lit (.str aV))]),
 .ret (.ite (.d8 (.isin (.var bG) (.dz cO)) (.cmp .Eq (.attr (.var bG) bY) (.lit (.str cA)))) (.list true [(.var aE)]) (.list false []))]⟩
noncomputable def oZ:Fn:=⟨[aa],[
 .assign (.one bl) (.new n9 []),
 .assign (.one dE) (.comp false (.tup [(.var ak),(.lit .none),(.lit .none),(.dict true [])]) (.one ak) (.rev (.call dC [(.var aa),(.call mK [(.var aa)]),(.lit (.str aN))])) []),
 .while (.cmp .Gt (.bi .len (.var dE)) (.lit (.int (0)))) [.assign (.many [ak,aJ,aK,bZ]) (.aF (.var dE) wh []),.assign (.many [aE,ai]) (.call dK [(.var aa),(.var bl),(.var ak)]),.assign (.one bA) (.call gH [(.var aK),(.call iO [(.var aa),(.var ai)])]),.assign (.one ay) (.call dY [(.var ai),(.var bZ)]),.assign (.one i7) (.call dC [(.var aa),(.var ai),(.lit (.str aD))]),.assign (.one kj) (.comp true (.var jk) (.one jk) (.ex (.var i7)) [(.call jH [(.var aa),(.var jk)])]),.ite (.cmp .Gt (.bi .len (.var kj)) (.lit (.int (0)))) [.expr (.aF (.attr (.var bl) qy) bK [(.tup [(.var aE),(.var aJ)])]),.assign (.one cQ) (.wx (.var av) (.sub (.var ay) (.var av)) (.one av) (.ex (.lit (.tup [(.str cV),(.str gA),(.str ie),(.str ia),(.str d7),(.str bI)]))) [(.cmp .In (.var av) (.var ay))]),.expr (.aF (.var dE) rN [(.comp true (.tup [(.var jk),(.var aE),(.var bA),(.var cQ)]) (.one jk) (.rev (.var kj)) [])])] [.assign (.one cG) (.call eK [(.var aa),(.var bl),(.var aE),(.var ai),(.var i7)]),.expr (.aF (.attr (.var bl) lV) bK [(.new qz [(.ite (.cmp .Is (.var bA) (.lit .none)) (.lit (.str [])) (.var bA)),(.var aE),(.var aJ),(.var cG),(.var ay),(.call i6 [(.var aa),(.var ay)])])])]],
 .ret (.var bl)]⟩
noncomputable def o8:Fn:=⟨[aa],[
 .ret (.attr (.call eG [(.var aa)]) lV)]⟩
noncomputable def nH:Fn:=⟨[aa,aK],[
 .assign (.one aw) (.comp true (.var aB) (.one aB) (.ex (.call bB [(.var aa)])) [(.cmp .Eq (.attr (.var aB) aK) (.var aK))]),
 .ite (.cmp .Eq (.bi .len (.var aw)) (.lit (.int (0)))) [.raise iz (.bin .Add (.lit (.str [116,104,101,114,101,32,105,115,32,110,111,32,102,105,101,108,100,32])) (.var aK))] [],
 .ret (.var aw)]⟩
noncomputable def vj:Fn:=⟨[aa,ak],[
 .assign (.one ak) (.aF (.var aa) g7 [(.var ak)]),
 .ret (.ite (.isin (.var ak) (.dz bU)) (.call kP [(.attr (.var ak) dZ)]) (.lit .none))]⟩
noncomputable def tE:Fn:=⟨[aa,ak],[
 .assign (.one ak) (.aF (.var aa) g7 [(.var ak)]),
 .ret (.ite (.isin (.var ak) (.dz cO)) (.attr (.var ak) bY) (.lit (.str gz)))]⟩
noncomputable def tD:Fn:=⟨[aa,aB,av],[
 .ite (.cmp .In (.attr (.var aB) gI) (.tup [(.lit (.str fR)),(.lit (.str cF))])) [.ret (.call lr [(.var aa),(.aF (.attr (.var aB) ai) bR [(.var av)])])] [],
 .assign (.one ak) (.aF (.var aa) bR [(.attr (.var aB) ai),(.var av)]),
 .ite (.d8 (.cmp .Eq (.attr (.var aB) gI) (.lit (.str cz))) (.isin (.var ak) .eo)) [.ret (.comp true (.call dP [(.var aa),(.var c9)]) (.one c9) (.ex (.var ak)) [])] [],
 .ret (.ite (.cmp .In (.attr (.var aB) gI) (.tup [(.lit (.str cz)),(.lit (.str bY))])) (.call dP [(.var aa),(.var ak)]) (.lit .none))]⟩
noncomputable def o9:Fn:=⟨[aa,aK],[
 .ret (.call cy [(.var aa),(.sub (.call fQ [(.var aa),(.var aK)]) (.lit (.int (0)))),(.lit (.str ie))])]⟩
noncomputable def vn:Fn:=⟨[aa,aB],[
 .assign (.one aw) (.list false []),
 .for (.one c9) (.ex (.call dC [(.var aa),(.attr (.var aB) ai),(.lit (.str bI))])) [.assign (.one lW) (.aF (.var aa) g7 [(.var c9)]),.ite (.d8 (.isin (.var lW) .eo) (.cmp .Eq (.bi .len (.var lW)) (.lit (.int (2))))) [.expr (.aF (.var aw) bK [(.tup [(.call dP [(.var aa),(.sub (.var lW) (.lit (.int (0))))]),(.call dP [(.var aa),(.sub (.var lW) (.lit (.int (1))))])])])] [.expr (.aF (.var aw) bK [(.tup [(.call dP [(.var aa),(.var lW)]),(.call dP [(.var aa),(.var lW)])])])]],
 .ret (.var aw)]⟩
noncomputable def qX:Fn:=⟨[aa,bw],[
 .assign (.one lK) (.aF (.var aa) bR [(.aF (.var aa) g7 [(.var bw)]),(.lit (.str df))]),
 .assign (.one lK) (.ite (.isin (.var lK) .iJ) (.aF (.var aa) bR [(.var lK),(.lit (.str sH))]) (.lit .none)),
 .ret (.ite (.isin (.var lK) .iJ) (.comp true (.var av) (.one av) (.ex (.bi .sorted (.var lK))) [(.cmp .NotEq (.var av) (.lit (.str gz)))]) (.list false []))]⟩
noncomputable def qZ:Fn:=⟨[aa],[
 .assign (.one aw) (.dict false []),
 .for (.one aB) (.ex (.call bB [(.var aa)])) [.assign (.one ak) (.call cy [(.var aa),(.var aB),(.lit (.str ie))]),.ite (.d8 (.cmp .IsNot (.var ak) (.lit .none)) (.d8 (.j9 (.call gy [(.var aa),(.var aB),(.lit (.str [110,111,32,101,120,112,111,114,116]))])) (.cmp .NotIn (.attr (.var aB) aK) (.var aw)))) [.store (.var aw) (.attr (.var aB) aK) (.var ak)] []],
 .ret (.var aw)]⟩
noncomputable def nK:Fn:=⟨[cN,ak],[
 .assign (.one dF) (.var ak),
 .for (.one MI) (.range (.lit (.int (30)))) [.ite (.j9 (.isin (.var dF) (.dz bo))) [.ret (.var dF)] [],.assign (.many [bz,aw]) (.aF (.attr (.var cN) fP) bR [(.attr (.var dF) aA),(.tup [(.lit (.int (-1))),(.lit .none)])]),.ite (.cmp .NotEq (.var bz) (.attr (.var dF) bz)) [.ret (.lit .none)] [],.assign (.one dF) (.var aw)],
 .ret (.ite (.isin (.var dF) (.dz bo)) (.lit .none) (.var dF))]⟩
noncomputable def qc:Fn:=⟨[cN,ai,av],[
 .ret (.aF (.var cN) g7 [(.aF (.var ai) bR [(.var av)])])]⟩
noncomputable def rm:Fn:=⟨[cN,aA,bz,ak],[
 .store (.attr (.var cN) fP) (.var aA) (.tup [(.var bz),(.var ak)])]⟩
noncomputable def rq:Fn:=⟨[cN,ak],[
 .assign (.one aA) (.lit (.int (1))),
 .while (.cmp .In (.var aA) (.attr (.var cN) fP)) [.assign (.one aA) (.bin .Add (.var aA) (.lit (.int (1))))],
 .store (.attr (.var cN) fP) (.var aA) (.tup [(.lit (.int (0))),(.var ak)]),
 .ret (.new bo [(.var aA),(.lit (.int (0)))])]⟩
noncomputable def qb:Fn:=⟨[cN],[
 .assign (.one aw) (.aF (.var cN) bR [(.attr (.var cN) iw),(.lit (.str fT))]),
 .ret (.ite (.isin (.var aw) .iJ) (.var aw) (.dict true []))]⟩
noncomputable abbrev kH:Nm:=[83,104,101,108,102,46,103,101,116]
noncomputable abbrev gO:Nm:=[83,104,101,108,102,46,102,101,116,99,104]
noncomputable def aG:List (Nm × Fn):=[(au,q7),(eL,ph),(gM,pj),(fS,cW),(fq,q8),(dW,nI),(dQ,bP),(ja,rh),(cZ,rj),(i9,q9),(bC,qa),(dc,p9),(eT,kU),(cR,nJ),(lu,jS),(kP,vh),(mH,vm),(mJ,vo),(jI,p8),(dM,tM),(n5,tC),(iP,tL),(gy,tK),(mK,vp),(dC,yb),(iO,tF),(gH,o7),(i6,qY),(dY,mj),(dK,tG),(jH,tH),(eK,o6),(eG,oZ),(bB,o8),(fQ,nH),(dP,vj),(lr,tE),(cy,tD),(gJ,o9),(jw,vn),(gZ,qX),(i8,qZ),(gO,nK),(kH,qc),(m8,rm),(m9,rq),(l6,qb)]
theorem xV:aG.lookup au = some q7:=by kernel_rfl
theorem uB:aG.lookup eL = some ph:=by kernel_rfl
theorem uC:aG.lookup gM = some pj:=by kernel_rfl
theorem tB:aG.lookup fS = some cW:=by kernel_rfl
theorem xX:aG.lookup fq = some q8:=by kernel_rfl
theorem tw:aG.lookup dW = some nI:=by kernel_rfl
theorem xW:aG.lookup dQ = some bP:=by kernel_rfl
theorem xZ:aG.lookup ja = some rh:=by kernel_rfl
theorem x6:aG.lookup cZ = some rj:=by kernel_rfl
theorem xY:aG.lookup i9 = some q9:=by kernel_rfl
theorem vW:aG.lookup bC = some qa:=by kernel_rfl
theorem vV:aG.lookup dc = some p9:=by kernel_rfl
theorem pF:aG.lookup eT = some kU:=by kernel_rfl
theorem mR:aG.lookup cR = some nJ:=by kernel_rfl
theorem Lj:aG.lookup lu = some jS:=by kernel_rfl
theorem By:aG.lookup kP = some vh:=by kernel_rfl
theorem BB:aG.lookup mH = some vm:=by kernel_rfl
theorem BD:aG.lookup mJ = some vo:=by kernel_rfl
theorem vU:aG.lookup jI = some p8:=by kernel_rfl
theorem zm:aG.lookup dM = some tM:=by kernel_rfl
theorem y9:aG.lookup n5 = some tC:=by kernel_rfl
theorem zl:aG.lookup iP = some tL:=by kernel_rfl
theorem zk:aG.lookup gy = some tK:=by kernel_rfl
theorem BE:aG.lookup mK = some vp:=by kernel_rfl
theorem p7:aG.lookup dC = some yb:=by kernel_rfl
theorem zf:aG.lookup iO = some tF:=by kernel_rfl
theorem uz:aG.lookup gH = some o7:=by kernel_rfl
theorem xT:aG.lookup i6 = some qY:=by kernel_rfl
theorem qM:aG.lookup dY = some mj:=by kernel_rfl
theorem zh:aG.lookup dK = some tG:=by kernel_rfl
theorem zj:aG.lookup jH = some tH:=by kernel_rfl
theorem uy:aG.lookup eK = some o6:=by kernel_rfl
theorem nG:aG.lookup eG = some oZ:=by kernel_rfl
theorem ky:aG.lookup bB = some o8:=by kernel_rfl
theorem tu:aG.lookup fQ = some nH:=by kernel_rfl
theorem BA:aG.lookup dP = some vj:=by kernel_rfl
theorem ze:aG.lookup lr = some tE:=by kernel_rfl
theorem zb:aG.lookup cy = some tD:=by kernel_rfl
theorem uA:aG.lookup gJ = some o9:=by kernel_rfl
theorem BC:aG.lookup jw = some vn:=by kernel_rfl
theorem xS:aG.lookup gZ = some qX:=by kernel_rfl
theorem xU:aG.lookup i8 = some qZ:=by kernel_rfl
theorem mS:aG.lookup gO = some nK:=by kernel_rfl
theorem oY:aG.lookup kH = some qc:=by kernel_rfl
theorem x7:aG.lookup m8 = some rm:=by kernel_rfl
theorem x8:aG.lookup m9 = some rq:=by kernel_rfl
theorem vX:aG.lookup l6 = some qb:=by kernel_rfl
@[irreducible] noncomputable def WF (n:Nat):CF:=n.rec wY fun _ C f vs H P E=>Is (aG.lookup f) fun fn=>fn.params.length = vs.length /\ aH C fn.body (fn.params.zip vs) H (fun _ H=>P .none H) (fun _ _=>False) P E
theorem wf {n:Nat} {f:Nm} {fn:Fn} {vs:List AV} {H:Hp} {P:AP} {E:EP} (e:aG.lookup f = some fn) (l:fn.params.length = vs.length) (h:aH (WF n) fn.body (fn.params.zip vs) H (fun _ H=>P .none H) (fun _ _=>False) P E):WF (n + 1) f vs H P E:=by
 with_unfolding_all exact (show Is _ _ from e ▸ ⟨l,h⟩)
end
end
end Mine
end
section
namespace Mine
noncomputable section
section
variable {n:Nat} {σ σ':Loc} {H:Hp} {P:AP} {E:EP}
theorem bN {α:Type} {o:Option α} {v:α} {k:α -> Prop} (e:o = some v) (h:k v):Is o k:=e ▸ h
theorem dD {c:Prop} [d:Decidable c] {p q:Prop} (h:c -> p) (h':¬ c -> q):Br (decide c) p q:=d.casesOn (motive:=fun d=>Br (@decide c d) p q) h' h
theorem cJ {b:Bool} {p q:Prop} (h:b = true -> p) (h':b = false -> q):Br b p q:=b.casesOn (motive:=fun x=>(x = true -> p) -> (x = false -> q) -> Br x p q) (fun _ g=>g rfl) (fun f _=>f rfl) h h'
theorem vr {x:Nm} {v:AV} {k:AV -> Prop} (l:look σ x = some v) (h:k v):Is (look σ x) k:=bN l h
theorem j2 {v:AV} {it:It} {k:It -> Prop} (e:jg H v = some it) (h:k it):Is (jg H v) k:=bN e h
theorem bV {x:Nm} {v:AV}:look ((x,v) :: σ) x = some v:=by unfold look; rw [List.lookup_cons,beq_self_eq_true]
theorem b8 {x y:Nm} {v w:AV} (h:x ≠ y) (l:look σ x = some v):look ((y,w) :: σ) x = some v:=by
 unfold look at l ⊢; rw [List.lookup_cons,beq_false_of_ne h]; exact l
theorem dG {l:Nat} {vs:List AV} (h:H[l]? = some (.list vs)):listOf H (.lst l) = some vs:=(congrArg (Option.bind · pw) h :)
theorem fg {l:Nat} {it:Bool} {vs:List (AK × AV)} (h:H[l]? = some (.dict it vs)):dictOf H (.dct l) = some vs:=(congrArg (Option.bind · Ar) h :)
theorem Cd {l:Nat} {it:Bool} {vs:List (AK × AV)} (h:H[l]? = some (.dict it vs)):sound H (.dct l) = true:=(congrArg (fun o:Option aO=>(o.bind Ar).isSome) h :)
theorem nn {α:Type} {x:α} {C:Prop} (h:(none:Option α) = some x):C:=nomatch h
theorem OJ {α β:Type} {o:Option α} {f:α -> Option β} {b:β} {C:Prop} (e:o.bind f = some b) (h:∀ a,o = some a -> f a = some b -> C):C:=o.casesOn (motive:=fun o=>o.bind f = some b -> (∀ a,o = some a -> f a = some b -> C) -> C) (fun e _=>nn e) (fun a e h=>h a rfl e) e h
theorem M9 {o:aO} {kvs:List (AK × AV)} (e:Ar o = some kvs):∃ it,o = .dict it kvs:=o.casesOn (motive:=fun o=>Ar o = some kvs -> ∃ it,o = .dict it kvs) (fun _=>nn) (fun it _ e=>⟨it,congrArg _ (Option.some.inj e)⟩) e
theorem M8 {o:aO} {vs:List AV} (e:pw o = some vs):o = .list vs:=o.casesOn (motive:=fun o=>pw o = some vs -> o = .list vs) (fun _ e=>congrArg _ (Option.some.inj e)) (fun _ _=>nn) e
theorem qG {C:Prop} {a:AV} {kvs:List (AK × AV)} (hd:dictOf H a = some kvs) (k1:∀ l it,a = .dct l -> H[l]? = some (.dict it kvs) -> C) (k2:a = .aj kvs -> C):C :=
 a.casesOn (motive_1:=fun a=>dictOf H a = some kvs -> (∀ l it,a = .dct l -> H[l]? = some (.dict it kvs) -> C) -> (a = .aj kvs -> C) -> C)
  (fun h _ _=>nn h) (fun _ h _ _=>nn h) (fun _ h _ _=>nn h) (fun _ h _ _=>nn h) (fun _ h _ _=>nn h) (fun _ h _ _=>nn h) (fun _ _ h _ _=>nn h) (fun _ h _ _=>nn h)
  (fun l h k _=>OJ h fun o e q=>let ⟨it,z⟩:=M9 q; k l it rfl (z ▸ e)) (fun _ h _ _=>nn h) (fun _ h _ k=>k (congrArg _ (Option.some.inj h))) hd k1 k2
theorem listE {C:Prop} {a:AV} {vs:List AV} (hd:listOf H a = some vs) (k1:∀ l,a = .lst l -> H[l]? = some (.list vs) -> C) (k2:a = .ah vs -> C):C :=
 a.casesOn (motive_1:=fun a=>listOf H a = some vs -> (∀ l,a = .lst l -> H[l]? = some (.list vs) -> C) -> (a = .ah vs -> C) -> C)
  (fun h _ _=>nn h) (fun _ h _ _=>nn h) (fun _ h _ _=>nn h) (fun _ h _ _=>nn h) (fun _ h _ _=>nn h) (fun _ h _ _=>nn h) (fun _ _ h _ _=>nn h) (fun l h k _=>OJ h fun o e q=>k l rfl (M8 q ▸ e))
  (fun _ h _ _=>nn h) (fun _ h _ k=>k (congrArg _ (Option.some.inj h))) (fun _ h _ _=>nn h) hd k1 k2
theorem iK {a:AV} {kvs:List (AK × AV)} (hd:dictOf H a = some kvs):sound H a = true:=qG hd (fun l it e h=>e ▸ Cd h) fun e=>e ▸ rfl
noncomputable abbrev rf (k:Nat):AV:=.inst bo [(aA,.int k),(bz,.int 0)]
noncomputable abbrev fH (x:Nm):AV:=.inst cO [(bY,.str x)]
noncomputable abbrev stI (b:List Nat):AV:=.inst bU [(dZ,.bytes b),(n8,.bool false)]
noncomputable abbrev aR (t r:AV):AV:=.inst iQ [(fP,t),(iw,r)]
noncomputable abbrev eQ (ps:List Nat):List AV:=ps.map fun (k:Nat)=>AV.int (k:Int)
theorem HT {x y:Int} {k:AV -> Prop} (h:0 < y) (q:k (.int (x % y))):Is (kB .Mod (.int x) (.int y)) k:=bN (if_pos h) q
theorem M5 {x y:Int} {k:AV -> Prop} (h:0 < y /\ y < 2 ^ 64) (q:k (.int (x / y))):Is (kB .FloorDiv (.int x) (.int y)) k:=bN (if_pos h) q
theorem M4 {x y:Int} {k:AV -> Prop} (h:0 < x /\ x <= 10 /\ 0 <= y /\ y <= 80) (q:k (.int (x ^ y.toNat))):Is (kB .Pow (.int x) (.int y)) k:=bN (if_pos h) q
theorem M3 {x q:Nat} {y:Int} {k:AV -> Prop} (e:y = q) (h:q <= 60) (r:k (.int ((x / 2 ^ q:Nat):Int))):Is (kB .RShift (.int x) (.int y)) k:=by
 subst e
 refine bN (if_pos ⟨Int.natCast_nonneg _,Int.natCast_nonneg _,Int.ofNat_le.mpr h⟩) ?_
 rw [Int.toNat_natCast]; rw [Int.natCast_ediv,Int.natCast_pow] at r; exact r
theorem tS {q:Nat} {y:Int} {k:AV -> Prop} (e:y = q) (h:q <= 80) (r:k (.int ((2 ^ q:Nat):Int))):Is (kB .Pow (.int 2) (.int y)) k:=by
 subst e
 refine bN (if_pos ⟨by decide,by decide,Int.natCast_nonneg _,Int.ofNat_le.mpr h⟩) ?_
 rw [Int.toNat_natCast]; rw [Int.natCast_pow] at r; exact r
theorem LQ {x y:Nat} {k:AV -> Prop} (h:0 < y) (h':y < 2 ^ 64) (r:k (.int ((x / y:Nat):Int))):Is (kB .FloorDiv (.int x) (.int y)) k:=bN (if_pos ⟨Int.natCast_pos.mpr h,Int.ofNat_lt.mpr h'⟩) (Int.natCast_ediv x y ▸ r)
theorem qJ {x y:Nm} {k:AV -> Prop} (h:x.length + y.length <= 4096) (q:k (.str (x ++ y))):Is (kB .Add (.str x) (.str y)) k:=bN (if_pos h) q
theorem JA {v w:AV} {vs:List AV} {m:Int} {k:AV -> Prop} (h:listOf H v = some vs) (hi:vs[m.toNat]? = some w) (h0:0 <= m /\ m <= 4096) (q:k w):Is (nU H v (.int m)) k:=by
 refine bN ?_ q
 refine listE h (fun l e _=>?_) fun e=>?_
 ·subst e; exact (if_pos h0:(if _ then _ else _) = _).trans ((congrArg (Option.bind · fun vs:List AV=>vs[m.toNat]?) h :).trans hi)
 ·subst e; exact (if_pos h0:(if _ then _ else _) = _).trans hi
theorem PL {w:AV} {vs:List AV} {m:Int} {k:AV -> Prop} (hi:vs[m.toNat]? = some w) (h0:0 <= m /\ m <= 4096) (q:k w):Is (nU H (.tup vs) (.int m)) k:=bN ((if_pos h0).trans hi) q
theorem Cj {a v:AV} {kvs:List (AK × AV)} {i:AK} {k:AV -> Prop} (hd:dictOf H a = some kvs) (hk:getKey kvs i = some v) (q:k v):Is (nU H a (bQ i)) k:=by
 refine bN ?_ q
 unfold nU
 rw [hd]
 cases i <;> exact hk
theorem kF {v:AV} {vs:List AV} (h:listOf H v = some vs) (hl:vs.length <= lim) (k:P (.int vs.length) H):gV .len v H P:=by with_unfolding_all exact bN h ⟨hl,k⟩
theorem JL {v:AV} {vs:List AV} (h:listOf H v = some vs) (hl:vs.length <= lim) (k:P (.ah vs) H):gV .list v H P:=by with_unfolding_all exact bN h ⟨hl,k⟩
variable {C:CF} {R:(List AV -> Hp -> Prop) -> Prop}
theorem cC {c m:Nm} {fs:List (Nm × AV)} (h:gq.contains (c ++ 46 :: m) = true /\ fs.lookup m = none) (q:R fun vs H=>C (c ++ 46 :: m) (.inst c fs :: vs) H P E):nO C H (.inst c fs) m R P E:=by with_unfolding_all exact ⟨h,q⟩
theorem pP {x:AV} {m:Nm} {k:Mk} (h:tU x = none) (e:sI H x m = some k) (q:R fun vs H=>ik k x vs H P):nO C H x m R P E:=by unfold nO; rw [h]; exact bN e q
theorem sL {l:Nat} {vs:List AV} (h:H[l]? = some (.list vs)) (q:R fun ws H=>ik .append (.lst l) ws H P):nO C H (.lst l) bK R P E:=pP rfl (by with_unfolding_all exact (congrArg (Option.bind · _) (dG h)).trans rfl) q
theorem Qe {l:Nat} {vs:List AV} (h:H[l]? = some (.list vs)) (q:R fun ws H=>ik .extend (.lst l) ws H P):nO C H (.lst l) rN R P E:=pP rfl (by with_unfolding_all exact (congrArg (Option.bind · _) (dG h)).trans rfl) q
theorem J3 {l:Nat} {vs:List AV} (h:H[l]? = some (.list vs)) (q:R fun ws H=>ik .pop (.lst l) ws H P):nO C H (.lst l) wh R P E:=pP rfl (by with_unfolding_all exact (congrArg (Option.bind · _) (dG h)).trans rfl) q
theorem Qc {l:Nat} {it:Bool} {kvs:List (AK × AV)} (h:H[l]? = some (.dict it kvs)) (q:R fun ws H=>ik .update (.dct l) ws H P):nO C H (.dct l) w7 R P E:=pP rfl (by with_unfolding_all exact (congrArg (Option.bind · _) (fg h)).trans rfl) q
theorem pQ {a:AV} {kvs:List (AK × AV)} (h:dictOf H a = some kvs) (q:R fun ws H=>ik .get a ws H P):nO C H a bR R P E:=by
 refine qG h (fun l it e _=>?_) fun e=>?_
 ·subst e; exact pP rfl (by with_unfolding_all exact (congrArg (Option.bind · _) h).trans rfl) q
 ·subst e; exact pP rfl (by with_unfolding_all rfl) q
theorem oh {kvs:List (AK × AV)} (q:R fun ws H=>ik .get (.aj kvs) ws H P):nO C H (.aj kvs) bR R P E:=pQ rfl q
theorem NG {b:Nm} (q:R fun ws H=>ik .join (.str b) ws H P):nO C H (.str b) xf R P E:=pP rfl (by with_unfolding_all rfl) q
theorem Qd {b:List Nat} (q:R fun ws H=>ik .startswith (.bytes b) ws H P):nO C H (.bytes b) pO R P E:=pP rfl (by with_unfolding_all rfl) q
theorem Ex {b c:List Nat} (q:P (.bool (lH b c)) H):ik .startswith (.bytes b) [.bytes c] H P:=by with_unfolding_all exact q
theorem JI {b:Nm} {v:AV} {us:List AV} {ss:List Nm} (h:listOf H v = some us) (e:strsOf us = some ss) (hl:(jf b ss).length <= 4096 /\ ss.length <= 4096 /\ b.length <= 4096) (q:P (.str (jf b ss)) H):ik .join (.str b) [v] H P:=by
 with_unfolding_all exact bN h (bN e ⟨hl,q⟩)
theorem fj {l:Nat} {vs:List AV} {v:AV} (h:H[l]? = some (.list vs)) (hl:vs.length < lim) (k:P .none (H.set l (.list (vs ++ [v])))):ik .append (.lst l) [v] H P:=by with_unfolding_all exact bN (dG h) ⟨hl,k⟩
theorem Ey {l:Nat} {vs ws:List AV} (h:H[l]? = some (.list vs)) (hl:vs.length + ws.length <= lim) (k:P .none (H.set l (.list (vs ++ ws)))):ik .extend (.lst l) [.ah ws] H P:=by with_unfolding_all exact bN (dG h) ⟨hl,k⟩
theorem JH {l:Nat} {v:AV} {vs:List AV} (h:H[l]? = some (.list (v :: vs))) (hl:vs.length < lim) (k:P v (H.set l (.list vs))):ik .pop (.lst l) [.int 0] H P:=by with_unfolding_all exact bN (dG h) ⟨hl,⟨rfl,rfl⟩,k⟩
theorem G6 {l:Nat} {vs:List AV} {v:AV} (h:H[l]? = some (.list (vs ++ [v]))) (hl:vs.length < lim) (k:P v (H.set l (.list vs))):ik .pop (.lst l) [] H P :=
 by with_unfolding_all exact bN (dG h) ⟨(by rw [List.length_append]; exact hl),bN List.getLast?_concat (by rw [List.dropLast_concat]; exact k)⟩
theorem we {a:AV} {kvs:List (AK × AV)} {i:AK} (hd:dictOf H a = some kvs) (h:P ((getKey kvs i).getD .none) H):ik .get a [bQ i] H P:=by cases i <;> with_unfolding_all exact bN hd h
theorem lR {a d:AV} {kvs:List (AK × AV)} {i:AK} (hd:dictOf H a = some kvs) (h:P ((getKey kvs i).getD d) H):ik .get a [bQ i,d] H P:=by cases i <;> with_unfolding_all exact bN hd ⟨rfl,h⟩
theorem iM {d:AV} {kvs:List (AK × AV)} {i:AK} (h:P ((getKey kvs i).getD d) H):ik .get (.aj kvs) [bQ i,d] H P:=lR rfl h
theorem Ew {l:Nat} {it:Bool} {kvs ws:List (AK × AV)} (h:H[l]? = some (.dict it kvs)) (hl:kvs.length + ws.length <= lim) (k:P .none (H.set l (.dict false (putAll kvs ws)))):ik .update (.dct l) [.aj ws] H P:=by with_unfolding_all exact bN (fg h) ⟨hl,k⟩
theorem eF {l:Nat} {it:Bool} {kvs:List (AK × AV)} {i:AK} {v:AV} {K:Hp -> Prop} (h:H[l]? = some (.dict it kvs)) (hl:kvs.length < lim) (k:K (H.set l (.dict it (ae kvs i v)))):HY (.dct l) (bQ i) v H K:=by cases i <;> with_unfolding_all exact bN h ⟨hl,k⟩
theorem OV {l:Nat} {vs:List AV} {m:Int} {v:AV} {K:Hp -> Prop} (h:H[l]? = some (.list vs)) (h0:0 <= m /\ m <= 4096 /\ m.toNat < vs.length) (k:K (H.set l (.list (vs.set m.toNat v)))):HY (.lst l) (.int m) v H K:=by with_unfolding_all exact bN (dG h) ⟨h0,k⟩
theorem set_same {p:Nat} {o:aO} (h:H[p]? = some o):H.set p o = H:=by
 apply List.ext_getElem?
 intro i
 rw [List.getElem?_set]
 split
 ·rename_i e; subst e
  split
  ·exact h.symm
  ·rename_i q
   rw [List.getElem?_eq_none (Nat.le_of_not_lt q)] at h; cases h
 ·rfl
theorem set_set {p:Nat} {o q:aO}:(H.set p o).set p q = H.set p q:=List.set_set ..
theorem get_set {p:Nat} {o q:aO} (h:H[p]? = some o):(H.set p q)[p]? = some q:=by rw [List.getElem?_set_self (List.getElem?_eq_some_iff.1 h).1]
end
namespace Z1
noncomputable def Gq (n:Nat) (H:Mine.Hp) (P:Mine.AP) (E:Mine.EP) (p:Nat) (many:Nat):Prop:=∀ (ps:List Nat) (hp:H[p]? = some (.list (eQ ps))) (hm:0 < many) (oV:many < 2 ^ 60) (hl:ps.length <= 64) (k:∀ d:Nat,d < many -> ∀ ps':List Nat,ps'.length <= ps.length -> P (.int d) (H.set p (.list (eQ ps')))),WF (n + 1) au [.lst p,.int many] H P E
noncomputable def kq:Nat × Mine.Hp × Mine.AP × Mine.EP × Nat × Nat:=cx fun p=>Gq p.1 p.2.1 p.2.2.1 p.2.2.2.1 p.2.2.2.2.1 p.2.2.2.2.2
noncomputable def n:=kq.1
noncomputable def H:=kq.2.1
noncomputable def P:=kq.2.2.1
noncomputable def E:=kq.2.2.2.1
noncomputable def p:=kq.2.2.2.2.1
noncomputable def many:=kq.2.2.2.2.2
theorem tq:Gq n H P E p many:=by
 intro ps hp hm oV hl k
 refine wf xV rfl ?_
 refine kF (dG hp) (by rw [List.length_map]; exact Nat.le_trans hl (by decide)) ?_
 cases ps with
 | nil=>
  have:=k 0 hm [] (Nat.le_refl _)
  rw [set_same hp] at this
  exact this
 | cons x xs=>
  refine JA (dG hp) rfl (by decide) (HT (by omega) ?_)
  refine JA (dG hp) rfl (by decide) (M5 (by omega) ?_)
  refine OV hp ⟨by decide,by decide,Nat.succ_pos _⟩ ?_
  have hp1:=get_set (q:=.list (eQ (x / many :: xs))) hp
  refine JA (dG hp1) rfl (by decide) ?_
  refine dD (fun h=>?_) fun h=>?_
  ·refine J3 hp1 (JH hp1 (by rw [List.length_map]; exact Nat.lt_of_lt_of_le (Nat.lt_of_succ_le hl) (by decide)) ?_)
   rw [set_set]
   exact k (x % many) (Nat.mod_lt _ hm) xs (Nat.le_succ _)
  ·exact k (x % many) (Nat.mod_lt _ hm) (x / many :: xs) (Nat.le_refl _)
end Z1
section
variable {n:Nat} {σ σ':Loc} {H:Hp} {P:AP} {E:EP}
variable {C:CF} {R:(List AV -> Hp -> Prop) -> Prop}
theorem Ke {p many:Nat} {ps:List Nat} (hp:H[p]? = some (.list (eQ ps))) (hm:0 < many) (oV:many < 2 ^ 60) (hl:ps.length <= 64) (k:∀ d:Nat,d < many -> ∀ ps':List Nat,ps'.length <= ps.length -> P (.int d) (H.set p (.list (eQ ps')))):WF (n + 1) au [.lst p,.int many] H P E :=
 bD (p:=fun p=>Z1.Gq p.1 p.2.1 p.2.2.1 p.2.2.2.1 p.2.2.2.2.1 p.2.2.2.2.2) Z1.tq (n,H,P,E,p,many) ps hp hm oV hl k
end
end
end Mine
end
section
namespace Mine
noncomputable section
section
variable {n:Nat} {σ σ':Loc} {H:Hp} {P:AP} {E:EP}
noncomputable def plain (v:AV):Bool:=!iU (.dz bo) v
theorem t9 {v:AV} (h:plain v = true):iU (.dz bo) v = false:=Bool.eq_false_iff.mpr fun e=>by unfold plain at h; rw [e] at h; cases h
theorem lL {t r v:AV} (hv:plain v = true) (hs:sound H v = true) (k:P v H):WF (n + 1) gO [aR t r,v] H P E:=by
 refine wf mS rfl ⟨⟨by decide,by decide⟩,2,hs,?_⟩
 rw [t9 hv]; exact k
theorem lB {t r v:AV} {tab:List (AK × AV)} {i:Nat} (ht:dictOf H t = some tab) (hi:getKey tab (.i i) = some (.tup [.int 0,v])) (hv:plain v = true) (hs:sound H v = true) (k:P v H) :
  WF (n + 1) gO [aR t r,rf i] H P E:=by
 refine wf mS rfl ⟨⟨by decide,by decide⟩,3,rfl,?_⟩
 refine pQ ht ?_
 refine lR (i:=.i i) ht ?_
 rw [hi]
 refine ⟨hs,?_⟩
 rw [t9 hv]; exact k
theorem k_get {t r h w:AV} {kvs:List (AK × AV)} {key:Nm} (hd:dictOf H h = some kvs) (hw:(getKey kvs (.s key)).getD .none = w) (hv:plain w = true) (hs:sound H w = true) (k:P w H) :
  WF (n + 2) kH [aR t r,h,.str key] H P E:=by
 refine wf oY rfl ?_
 refine cC ⟨rfl,rfl⟩ ?_
 refine pQ hd ?_
 refine we (i:=.s key) hd ?_
 rw [hw]; exact lL hv hs k
theorem xw {t r h w:AV} {kvs tab:List (AK × AV)} {key:Nm} {i:Nat} (hd:dictOf H h = some kvs) (hi:getKey kvs (.s key) = some (rf i)) (ht:dictOf H t = some tab) (hti:getKey tab (.i i) = some (.tup [.int 0,w])) (hv:plain w = true) (hs:sound H w = true) (k:P w H) :
  WF (n + 2) kH [aR t r,h,.str key] H P E:=by
 refine wf oY rfl ?_
 refine cC ⟨rfl,rfl⟩ ?_
 refine pQ hd ?_
 refine we (i:=.s key) hd ?_
 rw [hi]; exact lB ht hti hv hs k
noncomputable def words:List (Nm × Nat):=[([114,101,97,100,32,111,110,108,121],1),(n6,2),([110,111,32,101,120,112,111,114,116],3),([109,117,108,116,105,32,108,105,110,101],13),(n7,14),
 ([110,111,32,116,111,103,103,108,101,32,116,111,32,111,102,102],15),(cF,16),(jG,17),(ud,18),(xh,19),(bG,20),([109,117,108,116,105,32,115,101,108,101,99,116],22),(xj,25),([105,110,32,117,110,105,115,111,110],26)]
theorem getL {o:aO}:(H ++ [o])[H.length]? = some o:=List.getElem?_concat_length ..
theorem pI {o o':aO}:(H ++ [o]).set H.length o' = H ++ [o']:=by rw [List.set_append_right _ _ (Nat.le_refl _),Nat.sub_self]; rfl
noncomputable def placesK:List (AK × AV):=words.map fun p=>(.s p.1,.int p.2)
theorem AO {w:Nm} {p:Nat} (h:(w,p) ∈ words):getKey placesK (.s w) = some (.int p):=List.map_inj_left.1 (show words.map (fun q=>getKey placesK (.s q.1)) = words.map fun q=>some (AV.int q.2) from rfl) _ h
theorem rC {w:Nm} {p:Nat} (h:(w,p) ∈ words):1 <= p /\ p <= 26:=(by decide:∀ q ∈ words,1 <= q.2 /\ q.2 <= 26) _ h
theorem IJ {w:Nm} {p:Nat} (hw:(w,p) ∈ words) (k:∀ X,P (.int p) (H ++ X)):WF (n + 1) jI [.str w] H P E:=by
 refine wf vU rfl ?_
 refine Qc getL ?_
 refine Ew getL (by decide) ?_
 rw [pI]
 refine eF (i:=.s [105,110,32,117,110,105,115,111,110]) getL (by decide) ?_
 rw [pI]
 refine Cj (i:=.s w) (fg getL) (AO hw) ?_
 exact k _
noncomputable def bit (x p:Nat):Bool:=decide (x / 2 ^ (p - 1) % 2 = 1)
theorem ju {d:Nat} (h:1 <= d):(d:Int) - 1 = ((d - 1:Nat):Int):=by omega
theorem LK (q:Nat):decide ((q:Int) % 2 = 1) = decide (q % 2 = 1):=decide_eq_decide.mpr (by omega)
theorem jN {w:Nm} {p x:Nat} (hw:(w,p) ∈ words) (k:∀ X,P (.bool (bit x p)) (H ++ X)):WF (n + 2) dM [.int x,.str w] H P E:=by
 obtain ⟨p1,p2⟩:=rC hw
 refine wf zm rfl ?_
 refine IJ hw fun X=>?_
 refine M3 (q:=p - 1) (ju p1) (Nat.le_trans (Nat.sub_le p 1) (Nat.le_trans p2 (by decide))) ?_
 have:decide (((x / 2 ^ (p - 1):Nat):Int) % 2 = 1) = bit x p:=LK _
 show P (.bool (decide _)) _
 rw [this]; exact k X
noncomputable def ni (kvs:List (AK × AV)) (x:Option Nat):Prop:=getKey kvs (.s gA) = x.map fun (x:Nat)=>AV.int (x:Int)
end
namespace Z2
noncomputable def Gq (n:Nat) (H:Mine.Hp) (P:Mine.AP) (E:Mine.EP) (t:Mine.AV) (r:Mine.AV) (h:Mine.AV) (kvs:List (Mine.AK × Mine.AV)):Prop:=∀ (x:Option Nat) (hd:dictOf H h = some kvs) (hf:ni kvs x) (k:P (.int (x.getD 0:Nat)) H),WF (n + 4) iP [aR t r,h] H P E
noncomputable def kq:Nat × Mine.Hp × Mine.AP × Mine.EP × Mine.AV × Mine.AV × Mine.AV × List (Mine.AK × Mine.AV):=cx fun p=>Gq p.1 p.2.1 p.2.2.1 p.2.2.2.1 p.2.2.2.2.1 p.2.2.2.2.2.1 p.2.2.2.2.2.2.1 p.2.2.2.2.2.2.2
noncomputable def n:=kq.1
noncomputable def H:=kq.2.1
noncomputable def P:=kq.2.2.1
noncomputable def E:=kq.2.2.2.1
noncomputable def t:=kq.2.2.2.2.1
noncomputable def r:=kq.2.2.2.2.2.1
noncomputable def h:=kq.2.2.2.2.2.2.1
noncomputable def kvs:=kq.2.2.2.2.2.2.2
theorem tq:Gq n H P E t r h kvs:=by
 intro x hd hf k
 refine wf zl rfl ?_
 refine wf y9 rfl ?_
 refine cC ⟨rfl,rfl⟩ ?_
 cases x with
 | none=>
  refine k_get (w:=.none) hd (by rw [hf]; rfl) rfl rfl ?_
  exact ⟨rfl,k⟩
 | some x=>
  refine k_get (w:=.int x) hd (by rw [hf]; rfl) rfl rfl ?_
  exact ⟨rfl,rfl,k⟩
end Z2
section
variable {n:Nat} {σ σ':Loc} {H:Hp} {P:AP} {E:EP}
theorem z8 {t r h:AV} {kvs:List (AK × AV)} {x:Option Nat} (hd:dictOf H h = some kvs) (hf:ni kvs x) (k:P (.int (x.getD 0:Nat)) H):WF (n + 4) iP [aR t r,h] H P E :=
 bD (p:=fun p=>Z2.Gq p.1 p.2.1 p.2.2.1 p.2.2.2.1 p.2.2.2.2.1 p.2.2.2.2.2.1 p.2.2.2.2.2.2.1 p.2.2.2.2.2.2.2) Z2.tq (n,H,P,E,t,r,h,kvs) x hd hf k
noncomputable abbrev fld (nm rf ab ws hd kd:AV):AV:=.inst qz [(aK,nm),(i0,rf),(aJ,ab),(cG,ws),(ai,hd),(gI,kd)]
theorem sW {t r h a b c d e:AV} {kvs:List (AK × AV)} {x:Option Nat} {w:Nm} {p:Nat} (hd:dictOf H h = some kvs) (hf:ni kvs x) (hw:(w,p) ∈ words) (k:∀ X,P (.bool (bit (x.getD 0) p)) (H ++ X)) :
  WF (n + 5) gy [aR t r,fld a b c d h e,.str w] H P E:=by
 refine wf zk rfl ?_
 refine z8 hd hf ?_
 exact jN hw k
theorem lA {h:AV} {kvs:List (AK × AV)} {x:Option Nat} {p:Nat} (hd:dictOf H h = some kvs) (hf:ni kvs x) (hp:1 <= p /\ p <= 26) (k:P (.bool (bit (x.getD 0) p)) H):WF (n + 1) cZ [h,.int p] H P E:=by
 refine wf x6 rfl ?_
 refine pQ hd ?_
 refine lR (i:=.s gA) hd ?_
 have e0:(getKey kvs (.s gA)).getD (AV.int 0) = .int (x.getD 0:Nat):=by rw [hf]; cases x <;> rfl
 rw [e0]
 have p2:p - 1 <= 26:=Nat.le_trans (Nat.sub_le p 1) hp.2
 refine tS (q:=p - 1) (ju hp.1) (Nat.le_trans p2 (by decide)) ?_
 refine LQ (Nat.two_pow_pos _) (Nat.pow_lt_pow_right (by decide) (Nat.lt_of_le_of_lt p2 (by decide))) ?_
 have:decide (((x.getD 0 / 2 ^ (p - 1):Nat):Int) % 2 = 1) = bit (x.getD 0) p:=LK _
 show P (.bool (decide _)) _
 rw [this]; exact k
end
end
end Mine
end
section
namespace Mine
noncomputable section
section
variable {n:Nat} {σ σ':Loc} {H:Hp} {P:AP} {E:EP} {C:CF}
noncomputable def Ext (H H':Hp):Prop:=∀ (l:Nat) (o:aO),H[l]? = some o -> H'[l]? = some o
theorem Ext.refl (H:Hp):Ext H H:=fun _ _ h=>h
theorem Ext.trans {A B C:Hp} (h:Ext A B) (k:Ext B C):Ext A C:=fun l o e=>k l o (h l o e)
theorem lt_of_get {H:Hp} {l:Nat} {o:aO} (h:H[l]? = some o):l < H.length:=(List.getElem?_eq_some_iff.1 h).1
theorem Ext.app {H X:Hp}:Ext H (H ++ X):=fun l o h=>(List.getElem?_append_left (lt_of_get h)).trans h
theorem Ext.BW {A H X:Hp} (e:Ext A H):Ext A (H ++ X):=e.trans .app
theorem Ext.set {A H:Hp} {l:Nat} {o:aO} (e:Ext A H) (hl:A.length <= l):Ext A (H.set l o):=fun i x h=>(List.getElem?_set_ne (Nat.ne_of_gt (Nat.lt_of_lt_of_le (lt_of_get h) hl))).trans (e i x h)
theorem Ext.dict {A H:Hp} (e:Ext A H) {v:AV} {kvs:List (AK × AV)} (h:dictOf A v = some kvs):dictOf H v = some kvs:=qG h (fun l it q z=>q ▸ fg (e _ _ z)) fun q=>q ▸ rfl
theorem Ext.list {A H:Hp} (e:Ext A H) {v:AV} {vs:List AV} (h:listOf A v = some vs):listOf H v = some vs:=listE h (fun l q z=>q ▸ dG (e _ _ z)) fun q=>q ▸ rfl
noncomputable def gU (I:Hp -> Prop):It -> List AV -> Prop
 | it,[]=>∀ H,I H -> aT H it = some none
 | it,v :: vs=>∃ it',(∀ H,I H -> aT H it = some (some (v,it'))) /\ gU I it' vs
theorem aZ {I:Hp -> Prop}:∀ vs:List AV,gU I (.seq vs) vs
 | []=>fun _ _=>rfl
 | v :: vs=>⟨.seq vs,fun _ _=>rfl,aZ vs⟩
theorem drop_nil {α:Type} {ws:List α} {i:Nat} (e:ws.drop i = []):ws[i]? = none:=List.getElem?_eq_none_iff.2 (List.drop_eq_nil_iff.1 e)
theorem drop_cons {α:Type} {v:α} {vs ws:List α} {i:Nat} (e:ws.drop i = v :: vs):ws[i]? = some v /\ ws.drop (i + 1) = vs:=by
 rw [← List.head?_drop,e,← List.tail_drop,e]; exact ⟨rfl,rfl⟩
theorem qB {I:Hp -> Prop} {l:Nat} {ws:List AV} (h:∀ H,I H -> H[l]? = some (.list ws)):∀ (vs:List AV) (i:Nat),ws.drop i = vs -> gU I (.lst l i) vs
 | [],i,e=>fun H hi=>by unfold aT; rw [h H hi]; show some ((ws[i]?).map _) = _; rw [drop_nil e]; rfl
 | v :: vs,i,e=>⟨.lst l (i + 1),fun H hi=>by unfold aT; rw [h H hi]; show some ((ws[i]?).map _) = _; rw [(drop_cons e).1]; rfl,qB h vs (i + 1) (drop_cons e).2⟩
theorem xy {I:Hp -> Prop} {l:Nat} {ws:List (AK × AV)} (h:∀ H,I H -> H[l]? = some (.dict true ws)):∀ (vs:List (AK × AV)) (i:Nat),ws.drop i = vs -> gU I (.keys l i ws.length) (vs.map fun p=>bQ p.1)
 | [],i,e=>fun H hi=>by unfold aT; rw [h H hi]; show (if _ then some ((ws[i]?).map _) else _) = _; rw [drop_nil e,if_pos rfl]; rfl
 | v :: vs,i,e=>⟨.keys l (i + 1) ws.length,fun H hi=>by unfold aT; rw [h H hi]; show (if _ then some ((ws[i]?).map _) else _) = _; rw [(drop_cons e).1,if_pos rfl]; rfl,xy h vs (i + 1) (drop_cons e).2⟩
theorem uu {I:Hp -> Prop}:∀ (vs ws:List AV) (a b:It),gU I a vs -> gU I b ws -> gU I (.zip a b) ((vs.zip ws).map fun p=>.tup [p.1,p.2])
 | [],ws,a,b,ha,hb=>fun H hi=>by unfold aT; rw [ha H hi]; rfl
 | v :: vs,[],a,b,⟨a',h1,h2⟩,hb=>fun H hi=>by unfold aT; rw [h1 H hi,hb H hi]; rfl
 | v :: vs,w :: ws,a,b,⟨a',h1,h2⟩,⟨b',h3,h4⟩=>⟨.zip a' b',fun H hi=>by unfold aT; rw [h1 H hi,h3 H hi]; rfl,uu vs ws a' b' h2 h4⟩
theorem gU.mono {I I':Hp -> Prop} (h:∀ H,I' H -> I H):∀ (vs:List AV) (it:It),gU I it vs -> gU I' it vs
 | [],it,q=>fun H hi=>q H (h H hi)
 | v :: vs,it,⟨it',q,r⟩=>⟨it',fun H hi=>q H (h H hi),gU.mono h vs it' r⟩
noncomputable def wA (I:Hp -> Prop) (H:Hp) (v:AV) (vs:List AV):Prop:=∃ it,jg H v = some it /\ gU I it vs
theorem l9 {I:Hp -> Prop} {l:Nat} {vs:List AV} (e:H[l]? = some (.list vs)) (h:∀ H,I H -> H[l]? = some (.list vs)):wA I H (.lst l) vs:=⟨.lst l 0,(congrArg (fun o:Option aO=>(o.bind pw).bind fun _=>some (It.lst l 0)) e :),qB h _ _ rfl⟩
theorem eV {v:AV} {vs:List AV} (h:listOf H v = some vs):wA (fun H'=>listOf H' v = some vs) H v vs :=
 listE h (fun l q z=>q ▸ l9 z fun H' e=>listE e (fun l' q' z=>(AV.lst.inj q') ▸ z) fun q=>nomatch q) fun q=>q ▸ ⟨_,rfl,aZ _⟩
theorem C9 {v:AV} {vs:List AV} (h:listOf H v = some vs):wA (Ext H) H v vs :=
 let ⟨it,h1,h2⟩:=eV h
 ⟨it,h1,h2.mono (fun H' e=>e.list h) _ _⟩
noncomputable def Walk (H:Hp) (v:AV) (kvs:List (AK × AV)):Prop:=(∃ l,v = .dct l /\ H[l]? = some (.dict true kvs)) \/ v = .aj kvs
theorem Walk.dict {v:AV} {kvs:List (AK × AV)} (h:Walk H v kvs):dictOf H v = some kvs:=h.elim (fun ⟨l,q,z⟩=>q ▸ fg z) fun q=>q ▸ rfl
theorem Walk.ext {A:Hp} {v:AV} {kvs:List (AK × AV)} (h:Walk A v kvs) (e:Ext A H):Walk H v kvs:=h.imp (fun ⟨l,q,z⟩=>⟨l,q,e _ _ z⟩) id
theorem sX {v:AV} {kvs:List (AK × AV)} (h:Walk H v kvs):wA (fun H'=>Walk H' v kvs) H v (kvs.map fun p=>bQ p.1) :=
 h.elim (fun ⟨l,q,z⟩=>q ▸ ⟨.keys l 0 kvs.length,(congrArg (fun o:Option aO=>(o.bind HU).bind fun kvs=>some (It.keys l 0 kvs.length)) z :),xy (fun H' e=>e.elim (fun ⟨l',q',z⟩=>(AV.dct.inj q') ▸ z) fun q=>nomatch q) _ _ rfl⟩) fun q=>q ▸ ⟨_,rfl,aZ _⟩
theorem few {α β:Type} {f:α -> β} {xs:List α} (h:xs.length <= 8):(xs.map f).length < lim:=List.length_map f ▸ Nat.lt_of_le_of_lt h (by decide)
section
variable {elt c:TE} {t:bq} {cs:List TE} {I:Hp -> Prop}
theorem gC {J:List AV -> List AV -> Hp -> Prop} (hJ:∀ r a H,J r a H -> I H)
  (step:∀ v r a H (K:AP) (L:Hp -> Prop),J (v :: r) a H -> (∀ w H,J r (a ++ [w]) H -> K w H) -> (∀ H,J r a H -> L H) -> Is (bg t v σ) fun σ'=>runC C σ' cs H (fun b H=>Br b (elt C σ' H K ee) (L H)) ee) :
  ∀ (vs:List AV) (it:It) (a:List AV) (H:Hp) (Q:List AV -> Hp -> Prop),gU I it vs -> J vs a H -> (∀ ws H,J [] (a ++ ws) H -> Q ws H) -> cL C σ elt t cs (vs.length + 1) it H Q
 | [],it,a,H,Q,hi,h,k=>bN (hi H (hJ _ _ _ h)) (k [] H (by rw [List.append_nil]; exact h))
 | v :: vs,it,a,H,Q,⟨it',h1,h2⟩,h,k=>bN (h1 H (hJ _ _ _ h)) (step v vs a H _ _ h
   (fun w H' hw=>gC hJ step vs it' _ H' _ h2 hw fun ws H hq=>k (w :: ws) H (by rw [List.append_assoc] at hq; exact hq)) fun H' hl=>gC hJ step vs it' a H' Q h2 hl k)
theorem comp_map {f:AV -> AV} {vs:List AV} {it:It} {Q:List AV -> Hp -> Prop}
  (step:∀ v,v ∈ vs -> ∀ H (K:AP),I H -> (∀ H,I H -> K (f v) H) -> Is (bg t v σ) fun σ'=>elt C σ' H K ee)
  (hi:gU I it vs) (h:I H) (k:∀ H,I H -> Q (vs.map f) H) (hl:vs.length < lim:=by decide):∃ k,k <= lim /\ cL C σ elt t [] k it H Q :=
 ⟨_,hl,gC (J:=fun r a H=>I H /\ (∀ v ∈ r,v ∈ vs) /\ a ++ r.map f = vs.map f) (fun r a H h=>h.1) (fun v r a H K L h k _=>step v (h.2.1 v List.mem_cons_self) H K h.1 fun H' hi=>
   k _ H' ⟨hi,fun x hx=>h.2.1 x (List.mem_cons_of_mem _ hx),(List.append_assoc ..).trans h.2.2⟩) vs it [] H Q hi ⟨h,fun _ x=>x,rfl⟩ fun ws H h=>(List.append_nil ws ▸ h.2.2:ws = _) ▸ k H h.1⟩
theorem jh {f:AV -> AV} {p:AV -> Bool} {vs:List AV} {it:It} {Q:List AV -> Hp -> Prop}
  (step:∀ v,v ∈ vs -> ∀ H (K:AP) (L:Hp -> Prop),I H -> (p v = true -> ∀ H,I H -> K (f v) H) -> (p v = false -> ∀ H,I H -> L H) -> Is (bg t v σ) fun σ'=>c C σ' H (fun b H=>Is (truthy b) fun b=>Br b (elt C σ' H K ee) (L H)) ee)
  (hi:gU I it vs) (h:I H) (k:∀ H,I H -> Q ((vs.filter p).map f) H) (hl:vs.length < lim:=by decide):∃ k,k <= lim /\ cL C σ elt t [c] k it H Q:=by
 refine ⟨_,hl,gC (J:=fun r a H=>I H /\ (∀ v ∈ r,v ∈ vs) /\ a ++ (r.filter p).map f = (vs.filter p).map f) (fun r a H h=>h.1) (fun v r a H K L h k k'=>?_) vs it [] H Q hi ⟨h,fun _ x=>x,rfl⟩ fun ws H h=>(List.append_nil ws ▸ h.2.2:ws = _) ▸ k H h.1⟩
 have hr:∀ x ∈ r,x ∈ vs:=fun x hx=>h.2.1 x (List.mem_cons_of_mem _ hx)
 have e:=h.2.2
 exact step v (h.2.1 v List.mem_cons_self) H K L h.1 (fun q H' hi=>k (f v) H' ⟨hi,hr,by rw [List.filter_cons,if_pos q] at e; rw [List.append_assoc]; exact e⟩)
  fun q H' hi=>k' H' ⟨hi,hr,by rw [List.filter_cons,if_neg (Bool.eq_false_iff.mp q)] at e; exact e⟩
theorem lN {J:List AV -> LP} {b:List TS} {N:LP} {T:AP} (hJ:∀ r σ H,J r σ H -> I H)
  (step:∀ v r σ H (N':LP),J (v :: r) σ H -> (∀ σ H,J r σ H -> N' σ H) -> Is (bg t v σ) fun σ'=>aH C b σ' H N' N T E)
  (hN:∀ σ H,J [] σ H -> N σ H):∀ (vs:List AV) (it:It) (σ:Loc) (H:Hp),gU I it vs -> J vs σ H -> forL C t b (vs.length + 1) it σ H N T E
 | [],it,σ,H,hi,h=>bN (hi H (hJ _ _ _ h)) (hN _ _ h)
 | v :: vs,it,σ,H,⟨it',h1,h2⟩,h=>bN (h1 H (hJ _ _ _ h)) (step v vs σ H _ h fun σ' H' hh=>lN hJ step hN vs it' σ' H' h2 hh)
end
end
end
end Mine
end
section
namespace Mine
noncomputable section
section
variable {n:Nat} {σ σ':Loc} {H:Hp} {P:AP} {E:EP} {C:CF}
theorem oF {k:AK}:getKey [] k = none:=rfl
theorem getKey_cons {k k':AK} {v:AV} {r:List (AK × AV)}:getKey ((k',v) :: r) k = if k' = k then some v else getKey r k:=by
 unfold getKey
 rw [List.find?_cons]
 by_cases q:k' = k <;> simp [q]
theorem oG {k:AK}:∀ {a b:List (AK × AV)},getKey (a ++ b) k = (getKey a k).or (getKey b k)
 | [],b=>rfl
 | (k',v) :: a,b=>by
  rw [List.cons_append,getKey_cons,getKey_cons]
  split
  ·rfl
  ·exact oG
theorem g9 {k:AK}:∀ {a:List (AK × AV)},getKey a k = none ↔ k ∉ a.map Prod.fst
 | []=>by simp [oF]
 | (k',v) :: a=>by
  rw [getKey_cons,List.map_cons,List.mem_cons]
  by_cases q:k' = k
  ·simp [q]
  ·rw [if_neg q,g9]
   constructor
   ·intro h h'; rcases h' with h' | h'
    ·exact q h'.symm
    ·exact h h'
   ·intro h h'; exact h (.inr h')
theorem nM {k:AK} {a:List (AK × AV)}:(a.any fun kv=>kv.1 = k) = true ↔ k ∈ a.map Prod.fst:=by
 simp
theorem lI {k k':AK} {v:AV} {a:List (AK × AV)}:getKey (ae a k v) k' = if k = k' then some v else getKey a k':=by
 unfold ae
 by_cases h:(a.any fun kv=>kv.1 = k) = true
 ·rw [if_pos h]
  rw [nM] at h
  induction a with
  | nil=>cases h
  | cons p a ih=>
   obtain ⟨q,w⟩:=p
   simp only [List.map_cons]
   by_cases e:q = k
   ·subst e
    simp only [if_true]
    rw [getKey_cons,getKey_cons]
    by_cases e2:q = k'
    ·simp [e2]
    ·simp only [if_neg e2]
     clear ih h
     induction a with
     | nil=>rfl
     | cons p a ih=>
      obtain ⟨q',w'⟩:=p
      simp only [List.map_cons]
      by_cases e3:q' = q
      ·subst e3; simp only [if_true]; rw [getKey_cons,getKey_cons,if_neg e2,if_neg e2]; exact ih
      ·simp only [if_neg e3]; rw [getKey_cons,getKey_cons]; rw [ih]
   ·simp only [if_neg e]
    rw [getKey_cons,getKey_cons]
    have h':k ∈ a.map Prod.fst:=by
     rw [List.map_cons,List.mem_cons] at h
     rcases h with h | h
     ·exact (e h.symm).elim
     ·exact h
    rw [ih h']
    by_cases e2:q = k'
    ·subst e2; rw [if_pos rfl,if_pos rfl,if_neg (fun x=>e x.symm)]
    ·simp only [if_neg e2]
 ·rw [if_neg h,oG,getKey_cons,oF]
  rw [nM] at h
  by_cases e:k = k'
  ·subst e
   rw [g9.2 h]; rfl
  ·rw [if_neg e,if_neg e]; cases getKey a k' <;> rfl
theorem rI {k:AK} {v:AV} {a:List (AK × AV)}:(ae a k v).map Prod.fst = if k ∈ a.map Prod.fst then a.map Prod.fst else a.map Prod.fst ++ [k]:=by
 unfold ae
 by_cases h:(a.any fun kv=>kv.1 = k) = true
 ·rw [if_pos h,if_pos (nM.1 h),List.map_map]
  apply List.map_congr_left
  intro p _
  simp only [Function.comp]
  split
  ·rfl
  ·rfl
 ·rw [if_neg h,if_neg (fun q=>h (nM.2 q)),List.map_append]; rfl
noncomputable def Nd (a:List (AK × AV)):Prop:=(a.map Prod.fst).Nodup
theorem kO {k:AK} {v:AV} {a:List (AK × AV)} (h:Nd a):Nd (ae a k v):=by
 unfold Nd at *
 rw [rI]
 split
 ·exact h
 ·rename_i q
  rw [List.nodup_append]
  exact ⟨h,by simp,fun x hx y hy e=>by simp at hy; subst hy; subst e; exact q hx⟩
theorem gX {k:AK} {v:AV} {a:List (AK × AV)}:(ae a k v).length <= a.length + 1:=by
 have:=congrArg List.length (rI (k:=k) (v:=v) (a:=a))
 rw [List.length_map] at this
 rw [this]; split <;> simp
theorem qx {k:AK} {v:AV} {a:List (AK × AV)} (h:getKey a k = none):ae a k v = a ++ [(k,v)]:=by
 unfold ae
 rw [if_neg]
 rw [nM]; exact g9.1 h
theorem uc {k:AK} {v:AV} {a:List (AK × AV)}:Nd ((k,v) :: a) ↔ getKey a k = none /\ Nd a:=by
 unfold Nd; rw [List.map_cons,List.nodup_cons,g9]
theorem iN {k:AK}:∀ {b a:List (AK × AV)},Nd b -> getKey (putAll a b) k = (getKey b k).or (getKey a k)
 | [],a,_=>by simp [putAll,oF]
 | (q,v) :: b,a,h=>by
  obtain ⟨h1,h2⟩:=uc.1 h
  rw [putAll,iN h2,lI,getKey_cons]
  by_cases e:q = k
  ·subst e; rw [h1]; simp
  ·simp [e]
theorem r9:∀ {b a:List (AK × AV)},(putAll a b).length <= a.length + b.length
 | [],a=>by simp [putAll]
 | (q,v) :: b,a=>by
  rw [putAll]
  have:=r9 (b:=b) (a:=ae a q v)
  have:=gX (k:=q) (v:=v) (a:=a)
  simp only [List.length_cons]; omega
theorem se:∀ {b a:List (AK × AV)},Nd (a ++ b) -> putAll a b = a ++ b
 | [],a,h=>by simp [putAll]
 | (q,v) :: b,a,h=>by
  have e:a ++ (q,v) :: b = (a ++ [(q,v)]) ++ b:=by simp
  have:getKey a q = none:=by
   rw [g9]
   unfold Nd at h
   rw [List.map_append,List.nodup_append] at h
   intro hq
   exact h.2.2 q hq q (by simp) rfl
  rw [putAll,qx this,e,se (by rw [← e]; exact h)]
theorem oR {k:AK} {v:AV}:∀ {b a:List (AK × AV)},putAll a (b ++ [(k,v)]) = ae (putAll a b) k v
 | [],a=>rfl
 | (q,w) :: b,a=>by rw [List.cons_append,putAll,putAll,oR]
theorem get_mem {k:AK} {v:AV}:∀ {a b:List (AK × AV)},Nd (a ++ (k,v) :: b) -> getKey (a ++ (k,v) :: b) k = some v
 | [],b,h=>by rw [List.nil_append,getKey_cons,if_pos rfl]
 | (q,w) :: a,b,h=>by
  rw [List.cons_append] at h ⊢
  obtain ⟨h1,h2⟩:=uc.1 h
  rw [getKey_cons,if_neg,get_mem h2]
  intro e; subst e; rw [get_mem h2] at h1; cases h1
noncomputable def dm:List Nm:=[cV,gA,ie,ia,d7,bI]
noncomputable def dN (r:Nm -> Option AV) (ks:List Nm):List (AK × AV):=ks.filterMap fun k=>(r k).map fun v=>(.s k,v)
noncomputable def hand (r:Nm -> Option AV):List (AK × AV):=dN r dm
noncomputable def Py (kvs:List (AK × AV)) (r:Nm -> Option AV):Prop:=∀ k ∈ dm,getKey kvs (.s k) = r k
theorem p6 {r:Nm -> Option AV} {k:Nm}:∀ {ks:List Nm},getKey (dN r ks) (.s k) = if k ∈ ks then r k else none
 | []=>rfl
 | q :: ks=>by
  have ih:=p6 (r:=r) (k:=k) (ks:=ks)
  unfold dN at ih ⊢
  rw [List.filterMap_cons]
  by_cases e:k = q
  ·subst e
   cases h:r k with
   | none=>simp only [Option.map_none,ih,h]; simp
   | some v=>simp only [Option.map_some]; rw [getKey_cons,if_pos rfl,if_pos List.mem_cons_self]
  ·have:(k ∈ q :: ks) ↔ k ∈ ks:=by simp [e]
   cases h:r q with
   | none=>simp only [Option.map_none,ih,this]
   | some v=>simp only [Option.map_some]; rw [getKey_cons,if_neg (fun x=>e (by cases x; rfl)),ih]; simp only [this]
theorem xM {r:Nm -> Option AV}:∀ {ks:List Nm},ks.Nodup -> Nd (dN r ks)
 | [],_=>List.nodup_nil
 | q :: ks,h=>by
  rw [List.nodup_cons] at h
  have ih:=xM (r:=r) h.2
  have hn:getKey (dN r ks) (.s q) = none:=by rw [p6,if_neg h.1]
  unfold dN at ih hn ⊢
  rw [List.filterMap_cons]
  cases r q with
  | none=>exact ih
  | some v=>exact uc.2 ⟨hn,ih⟩
theorem I1 {r:Nm -> Option AV}:Nd (hand r):=xM (by decide)
theorem Fb {r:Nm -> Option AV}:Py (hand r) r:=fun k hk=>by unfold hand; rw [p6,if_pos hk]
theorem xJ {r:Nm -> Option AV}:(hand r).length <= 6:=by unfold hand dN; exact (List.length_filterMap_le _ dm:_ <= dm.length)
theorem yZ {r s:Nm -> Option AV} {ks:List Nm} (h:∀ k ∈ ks,r k = s k):dN r ks = dN s ks:=by
 induction ks with
 | nil=>rfl
 | cons q ks ih=>
  have:=ih fun k hk=>h k (List.mem_cons_of_mem _ hk)
  unfold dN at this ⊢
  rw [List.filterMap_cons,List.filterMap_cons,h q List.mem_cons_self,this]
end
end
end Mine
end
section
namespace Mine
noncomputable section
section
variable {n:Nat} {σ σ':Loc} {H:Hp} {P:AP} {E:EP} {C:CF}
noncomputable def rZ (kvs:List (AK × AV)) (ft:Option Nm):Prop:=getKey kvs (.s cV) = ft.map fH
noncomputable def sorts:List (Option Nm):=[none,some m7,some jJ,some iR,some kG]
@[elab_as_elim] theorem Ce {C:Option Nm -> Prop} {ft:Option Nm} (h:ft ∈ sorts) (h0:C none) (h1:C (some m7)) (h2:C (some jJ)) (h3:C (some iR)) (h4:C (some kG)):C ft:=by
 have:∀ ft ∈ sorts,C ft:=by unfold sorts; simp only [List.forall_mem_cons]; exact ⟨h0,h1,h2,h3,h4,fun _ h=>nomatch h⟩
 exact this ft h
noncomputable def oA (ft:Option Nm) (x:Nat):Nm :=
 if ft = some iR then (if bit x 17 then jG else if bit x 16 then cF else fR) else if ft = some m7 then bY else if ft = some jJ then cz else if ft = some kG then m6 else []
theorem u4 {x:Nat} {b c:Bool} (e:bit x 17 = b) (e':bit x 16 = c):oA (some iR) x = cond b jG (cond c cF fR):=by subst e e'; unfold oA; rw [if_pos rfl,Bool.cond_eq_ite,Bool.cond_eq_ite]
theorem Jq:(jG,17) ∈ words:=by decide
theorem Ib:(cF,16) ∈ words:=by decide
theorem sV {h:AV} {kvs:List (AK × AV)} {ft:Option Nm} {x:Option Nat} (hd:dictOf H h = some kvs) (jQ:rZ kvs ft) (hs:ft ∈ sorts) (hf:ni kvs x) (k:P (.str (oA ft (x.getD 0))) H):WF (n + 2) i9 [h] H P E:=by
 refine wf xY rfl ?_
 refine pQ hd ?_
 refine lR (i:=.s cV) hd ?_
 rw [jQ]
 revert k
 clear jQ
 refine Ce hs ?_ ?_ ?_ ?_ ?_
 ·intro k
  refine oh ?_
  exact iM (i:=.s []) k
 ·intro k
  refine oh ?_
  exact iM (i:=.s m7) k
 ·intro k
  refine oh ?_
  exact iM (i:=.s jJ) k
 ·intro k
  rw [u4 rfl rfl] at k
  refine lA (p:=17) hd hf (by decide) ?_
  refine cJ (fun q=>?_) fun q=>?_ <;> rw [q] at k
  ·exact k
  refine lA (p:=16) hd hf (by decide) ?_
  refine cJ (fun q=>?_) fun q=>?_ <;> rw [q] at k
  ·exact k
  ·exact k
 ·intro k
  refine oh ?_
  exact iM (i:=.s kG) k
theorem qT {t r h:AV} {kvs:List (AK × AV)} {ft:Option Nm} {x:Option Nat} (hd:dictOf H h = some kvs) (jQ:rZ kvs ft) (hs:ft ∈ sorts) (hf:ni kvs x) (k:∀ H',Ext H H' -> P (.str (oA ft (x.getD 0))) H'):WF (n + 5) i6 [aR t r,h] H P E:=by
 refine wf xT rfl ?_
 refine cC ⟨rfl,rfl⟩ ?_
 have e:∀ ft:Option Nm,rZ kvs ft -> (getKey kvs (.s cV)).getD .none = ((ft.map fH).getD .none):=fun ft h=>by rw [h]
 revert jQ k
 refine Ce hs ?_ ?_ ?_ ?_ ?_
 ·intro jQ k
  refine k_get hd (e _ jQ) rfl rfl ⟨rfl,?_⟩
  refine oh ?_
  exact iM (i:=.s []) (k _ (.refl _))
 ·intro jQ k
  refine k_get hd (e _ jQ) rfl rfl ⟨rfl,?_⟩
  refine oh ?_
  exact iM (i:=.s m7) (k _ (.refl _))
 ·intro jQ k
  refine k_get hd (e _ jQ) rfl rfl ⟨rfl,?_⟩
  refine oh ?_
  exact iM (i:=.s jJ) (k _ (.refl _))
 ·intro jQ k
  rw [u4 rfl rfl] at k
  refine k_get hd (e _ jQ) rfl rfl ⟨rfl,?_⟩
  refine z8 hd hf ?_
  refine jN Jq fun X=>?_
  refine cJ (fun q=>?_) fun q=>?_ <;> rw [q] at k
  ·exact k _ .app
  refine jN Ib fun Y=>?_
  refine cJ (fun q=>?_) fun q=>?_ <;> rw [q] at k
  ·exact k _ (Ext.app.trans .app)
  ·exact k _ (Ext.app.trans .app)
 ·intro jQ k
  refine k_get hd (e _ jQ) rfl rfl ⟨rfl,?_⟩
  refine oh ?_
  exact iM (i:=.s kG) (k _ (.refl _))
end
end
end Mine
end
section
set_option maxRecDepth 10000
namespace Mine
noncomputable section
section
variable {n:Nat} {σ σ':Loc} {H:Hp} {P:AP} {E:EP} {C:CF}
noncomputable def iI (b:List Nat):Prop:=b.length <= 8 /\ ∀ c ∈ b,32 <= c /\ c < 127
theorem Kf {c:Nat} (hc:32 <= c /\ c < 127) (k:P (.int c) H):WF (n + 1) mH [.int c] H P E:=by
 refine wf BB rfl ?_
 refine cJ (fun _=>k) fun _=>?_
 refine dD (fun _=>?_) fun q=>(q (Int.ofNat_le.mpr hc.1)).elim
 exact dD (fun _=>k) fun q=>(q (Int.ofNat_lt.mpr hc.2)).elim
theorem BF (b:List Nat):(b.map fun c=>[c]).flatMap ([] ++ ·) = b:=by
 induction b with
 | nil=>rfl
 | cons c b ih=>exact congrArg (List.cons c) ih
theorem pV (b:List Nat):jf [] (b.map fun c=>[c]) = b:=by
 cases b with
 | nil=>rfl
 | cons c b=>exact congrArg (List.cons c) (BF b)
theorem pH:∀ b:List Nat,strsOf (b.map fun c=>AV.str [c]) = some (b.map fun c=>[c])
 | []=>rfl
 | c :: b=>(congrArg (fun o:Option (List Nm)=>o.bind fun r=>some ([c] :: r)) (pH b) :)
theorem zM {b:List Nat} (h:b.length <= 8) (k:P (.str b) H):ik .join (.str []) [.ah (b.map fun c=>AV.str [c])] H P :=
 JI rfl (pH b) (by rw [pV,List.length_map]; exact ⟨Nat.le_trans h (by decide),Nat.le_trans h (by decide),by decide⟩) (by rw [pV]; exact k)
theorem G7 {c:Nat} (h:32 <= c /\ c < 127) (k:P (.str [c]) H):gV .chr (.int c) H P:=by with_unfolding_all exact ⟨⟨Int.ofNat_le.mpr h.1,Int.ofNat_lt.mpr h.2⟩,k⟩
theorem Cc {b:List Nat} (h:iI b):lH b [254,255] = false :=
 decide_eq_false fun q=>absurd (h.2 254 (List.mem_of_mem_take (q ▸ List.mem_cons_self))).2 (by decide)
noncomputable def LC:AV -> AV
 | .int c=>.str [c.toNat]
 | v=>v
noncomputable abbrev MP (b:List Nat):List AV:=b.map fun (c:Nat)=>AV.int (c:Int)
theorem vD (b:List Nat):(MP b).map LC = b.map fun c=>AV.str [c]:=by rw [List.map_map]; rfl
theorem uZ {b:List Nat} (h:b.length <= 8):(b.map fun c=>AV.str [c]).length <= lim:=by rw [List.length_map]; exact Nat.le_trans h (by decide)
theorem u6 {b:List Nat} (hb:iI b) (k:P (.str b) H):WF (n + 2) kP [.bytes b] H P E:=by
 refine wf By rfl ?_
 refine Qd ?_
 refine Ex ?_
 rw [Cc hb]
 refine NG ?_
 refine comp_map (hl:=few hb.1) (I:=fun H'=>H' = H) (f:=LC) (fun v hv H' K hH k=>?_) (aZ _) rfl fun H' hH=>?_
 ·obtain ⟨c,hc,rfl⟩:=List.mem_map.1 hv
  refine Kf (hb.2 c hc) ?_
  exact G7 (hb.2 c hc) (k _ hH)
 ·subst hH
  rw [vD]
  refine ⟨uZ hb.1,?_⟩
  exact zM hb.1 k
noncomputable def txt:AV -> AV
 | .inst c [(_,.bytes b),_]=>if c = bU then .str b else .none
 | _=>.none
noncomputable def GS (v:AV):Prop:=(∃ b,iI b /\ v = stI b) \/ (iU (.dz bU) v = false /\ txt v = .none /\ plain v = true /\ ∀ H,sound H v = true)
theorem fu {v:AV} (hv:GS v) (k:P (txt v) H):WF (n + 1) bC [v] H P E:=by
 refine wf vW rfl ?_
 rcases hv with ⟨b,hb,rfl⟩ | ⟨h1,h2,h3,h4⟩
 ·refine ⟨rfl,?_⟩
  refine NG ?_
  refine comp_map (hl:=few hb.1) (I:=fun H'=>H' = H) (f:=LC) (fun v hv H' K hH k=>?_) (aZ _) rfl fun H' hH=>?_
  ·obtain ⟨c,hc,rfl⟩:=List.mem_map.1 hv
   exact G7 (hb.2 c hc) (k _ hH)
  ·subst hH
   rw [vD]
   refine ⟨uZ hb.1,?_⟩
   exact zM hb.1 k
 ·refine ⟨h4 H,?_⟩
  rw [h1]; rw [h2] at k; exact k
theorem iC {t r v:AV} (hv:GS v) (k:P (txt v) H):WF (n + 3) dP [aR t r,v] H P E:=by
 refine wf BA rfl ?_
 refine cC ⟨rfl,rfl⟩ ?_
 rcases hv with ⟨b,hb,rfl⟩ | ⟨h1,h2,h3,h4⟩
 ·refine lL rfl rfl ⟨rfl,?_⟩
  exact u6 hb k
 ·refine lL h3 (h4 H) ⟨h4 H,?_⟩
  rw [h1]; rw [h2] at k; exact k
inductive Ob:AV -> Prop where
 | none:Ob .none
 | int (i:Int):Ob (.int i)
 | name (s:Nm):Ob (fH s)
 | str (b:List Nat):iI b -> Ob (stI b)
 | Jr (bs:List (List Nat)):(∀ b ∈ bs,iI b) -> bs.length <= 8 -> Ob (.ah (bs.map stI))
theorem Ob.plain {v:AV} (h:Ob v):plain v = true:=h.casesOn rfl (fun _=>rfl) (fun _=>rfl) (fun _ _=>rfl) fun _ _ _=>rfl
theorem Ob.sound {v:AV} (h:Ob v):sound H v = true:=h.casesOn rfl (fun _=>rfl) (fun _=>rfl) (fun _ _=>rfl) fun _ _ _=>rfl
theorem Ob.tx {v:AV} (h:Ob v):GS v:=h.casesOn (.inr ⟨rfl,rfl,rfl,fun _=>rfl⟩) (fun _=>.inr ⟨rfl,rfl,rfl,fun _=>rfl⟩) (fun _=>.inr ⟨rfl,rfl,rfl,fun _=>rfl⟩) (fun b hb=>.inl ⟨b,hb,rfl⟩) fun _ _ _=>.inr ⟨rfl,rfl,rfl,fun _=>rfl⟩
noncomputable def uR:AV -> AV
 | .inst c [(_,.str s)]=>if c = cO then .str s else .str gz
 | _=>.str gz
theorem k_state {v:AV} {σ:Loc} (hv:Ob v) (l:look σ ak = some v) (k:P (uR v) H):(TE.ite (.isin (.var ak) (.dz cO)) (.attr (.var ak) bY) (.lit (.str gz))) C σ H P E:=by
 refine vr l ⟨hv.sound,?_⟩
 revert l k
 refine hv.casesOn ?_ (fun _=>?_) (fun _=>?_) (fun _ _=>?_) fun _ _ _=>?_ <;> intro l k
 ·exact k
 ·exact k
 ·exact vr l k
 ·exact k
 ·exact k
theorem A9 {t r v:AV} (hv:Ob v) (k:P (uR v) H):WF (n + 2) lr [aR t r,v] H P E:=by
 refine wf ze rfl ?_
 refine cC ⟨rfl,rfl⟩ ?_
 refine lL hv.plain hv.sound ?_
 exact k_state (σ:=(ak,v) :: _) hv bV k
noncomputable def bits:AV -> List AV
 | .ah vs=>vs
 | _=>[]
noncomputable def g8 (a b kd:Nm):Bool:=decide (a = kd) || (decide (b = kd) || false)
noncomputable def bO (kd:Nm) (v:AV):AV :=
 if g8 fR cF kd then uR v
 else if (decide (kd = cz) && iU .eo v) then .ah ((bits v).map txt)
 else if g8 cz bY kd then txt v else .none
theorem ME {a b:Bool}:(a || (b || false)) = (b || (a || false)):=by cases a <;> cases b <;> rfl
theorem yT {bs:List (List Nat)} {x:Nm} {σ:Loc} {Q:List AV -> Hp -> Prop} (h:∀ b ∈ bs,iI b) (h2:bs.length <= 8) (k:Q ((bs.map stI).map txt) H) :
  ∃ k,k <= lim /\ cL (WF (n + 1)) σ (.call bC [.var x]) (.one x) [] k (.seq (bs.map stI)) H Q:=by
 refine comp_map (hl:=few h2) (I:=fun H'=>H' = H) (f:=txt) (fun v hv H' K hH k=>?_) (aZ _) rfl fun H' hH=>by rw [hH]; exact k
 obtain ⟨b,hb,rfl⟩:=List.mem_map.1 hv
 refine vr bV ?_
 exact fu (.inl ⟨b,h b hb,rfl⟩) (k _ hH)
theorem A8 {t r:AV} {bs:List (List Nat)} {σ:Loc} {Q:List AV -> Hp -> Prop} (l:look σ aa = some (aR t r)) (h:∀ b ∈ bs,iI b) (h2:bs.length <= 8) (k:Q ((bs.map stI).map txt) H) :
  ∃ k,k <= lim /\ cL (WF (n + 3)) σ (.call dP [.var aa,.var c9]) (.one c9) [] k (.seq (bs.map stI)) H Q:=by
 refine comp_map (hl:=few h2) (I:=fun H'=>H' = H) (f:=txt) (fun v hv H' K hH k=>?_) (aZ _) rfl fun H' hH=>by rw [hH]; exact k
 obtain ⟨b,hb,rfl⟩:=List.mem_map.1 hv
 refine vr (v:=aR t r) l ?_
 exact iC (.inl ⟨b,h b hb,rfl⟩) (k _ hH)
theorem Ob.list {v:AV} (h:Ob v) (hl:iU .eo v = true):∃ bs:List (List Nat),v = .ah (bs.map stI) /\ (∀ b ∈ bs,iI b) /\ bs.length <= 8:=by
 cases h with
 | Jr bs h h2=>exact ⟨bs,rfl,h,h2⟩
 | _=>cases hl
theorem wF {kd:Nm} {v:AV} (q:g8 fR cF kd = true):bO kd v = uR v:=if_pos q
theorem wD {kd:Nm} {v:AV} (q:g8 fR cF kd = false) (q':(decide (kd = cz) && iU .eo v) = true):bO kd v = .ah ((bits v).map txt):=(if_neg (Bool.eq_false_iff.mp q)).trans (if_pos q')
theorem nj {kd:Nm} {v:AV} {b:Bool} (q:g8 fR cF kd = false) (q':(decide (kd = cz) && iU .eo v) = false) (e:g8 cz bY kd = b):bO kd v = cond b (txt v) .none:=by
 subst e
 exact (if_neg (Bool.eq_false_iff.mp q)).trans ((if_neg (Bool.eq_false_iff.mp q')).trans (Bool.cond_eq_ite ..).symm)
theorem oE {t r h a b c d v:AV} {kvs:List (AK × AV)} {kd key:Nm} (hd:dictOf H h = some kvs) (hw:(getKey kvs (.s key)).getD .none = v) (hv:Ob v) (k:P (bO kd v) H) :
  WF (n + 4) cy [aR t r,fld a b c d h (.str kd),.str key] H P E:=by
 refine wf zb rfl ?_
 refine cJ (fun q=>?_) fun q=>?_
 ·rw [wF q] at k
  refine pQ hd ?_
  refine we (i:=.s key) hd ?_
  rw [hw]
  exact A9 hv k
 refine cC ⟨rfl,rfl⟩ ?_
 refine k_get hd hw hv.plain hv.sound ?_
 refine cJ (fun q1=>?_) fun q1=>?_
 ·refine ⟨hv.sound,?_⟩
  refine cJ (fun q2=>?_) fun q2=>?_
  ·rw [wD q (by rw [q1,q2]; rfl)] at k
   obtain ⟨bs,rfl,h1,h2⟩:=hv.list q2
   refine A8 rfl h1 h2 ⟨by rw [List.length_map,List.length_map]; exact Nat.le_trans h2 (by decide),k⟩
  ·refine cJ (fun e=>?_) fun e=>?_ <;> rw [nj q (by rw [q2,Bool.and_false]) e] at k
   ·exact iC hv.tx k
   ·exact k
 ·refine cJ (fun e=>?_) fun e=>?_ <;> rw [nj q (by rw [q1,Bool.false_and]) e] at k
  ·exact iC hv.tx k
  ·exact k
theorem s6 {a b kd:Nm}:g8 a b kd = g8 b a kd:=ME
theorem nh {h v:AV} {kvs:List (AK × AV)} {ft:Option Nm} {x:Option Nat} {key:Nm} (hd:dictOf H h = some kvs) (jQ:rZ kvs ft) (hs:ft ∈ sorts) (hf:ni kvs x) (hw:(getKey kvs (.s key)).getD .none = v) (hv:Ob v)
  (k:P (bO (oA ft (x.getD 0)) v) H):WF (n + 3) dc [h,.str key] H P E:=by
 refine wf vV rfl ?_
 refine sV hd jQ hs hf ?_
 generalize oA ft (x.getD 0) = kd at k ⊢
 refine pQ hd ?_
 refine we (i:=.s key) hd ?_
 rw [hw]
 refine cJ (fun q=>?_) fun q=>?_
 ·rw [wF q] at k
  exact k_state (C:=wY) (E:=E) (σ:=[(ak,v)]) hv rfl k
 refine cJ (fun q1=>?_) fun q1=>?_
 ·refine ⟨hv.sound,?_⟩
  refine cJ (fun q2=>?_) fun q2=>?_
  ·rw [wD q (by rw [q1,q2]; rfl)] at k
   obtain ⟨bs,rfl,h1,h2⟩:=hv.list q2
   refine yT h1 h2 ⟨by rw [List.length_map,List.length_map]; exact Nat.le_trans h2 (by decide),k⟩
  ·refine cJ (fun e=>?_) fun e=>?_ <;> rw [nj q (by rw [q2,Bool.and_false]) (s6.trans e)] at k
   ·exact fu hv.tx k
   ·exact k
 ·refine cJ (fun e=>?_) fun e=>?_ <;> rw [nj q (by rw [q1,Bool.false_and]) (s6.trans e)] at k
  ·exact fu hv.tx k
  ·exact k
end
end
end Mine
end
section
set_option maxRecDepth 10000
namespace Mine
noncomputable section
section
variable {n:Nat} {σ σ':Loc} {H:Hp} {P:AP} {E:EP} {C:CF}
theorem pS {t r h:AV} {kvs:List (AK × AV)} {key:Nm} (hd:dictOf H h = some kvs) (hw:(getKey kvs (.s key)).getD .none = .none) (k:P (.ah []) H):WF (n + 3) dC [aR t r,h,.str key] H P E:=by
 refine wf p7 rfl ?_
 refine cC ⟨rfl,rfl⟩ ?_
 refine k_get hd hw rfl rfl ?_
 exact k
theorem xq {t r h:AV} {vs:List AV} {kvs:List (AK × AV)} {key:Nm} (hd:dictOf H h = some kvs) (hw:(getKey kvs (.s key)).getD .none = .ah vs) (k:P (.ah vs) H):WF (n + 3) dC [aR t r,h,.str key] H P E:=by
 refine wf p7 rfl ?_
 refine cC ⟨rfl,rfl⟩ ?_
 refine k_get hd hw rfl rfl ⟨rfl,?_⟩
 exact k
theorem EV {t r h:AV} {i:Int} {kvs:List (AK × AV)} {key:Nm} (hd:dictOf H h = some kvs) (hw:(getKey kvs (.s key)).getD .none = .int i) (hk:key.length <= 100) (k:E cj H):WF (n + 3) dC [aR t r,h,.str key] H P E:=by
 refine wf p7 rfl ?_
 refine cC ⟨rfl,rfl⟩ ?_
 refine k_get hd hw rfl rfl ⟨rfl,?_⟩
 exact qJ (Nat.le_trans (Nat.add_le_add_right hk _) (by decide)) k
inductive pA:AV -> Prop where
 | one (b:List Nat):iI b -> pA (stI b)
 | two (b c:List Nat):iI b -> iI c -> pA (.ah [stI b,stI c])
noncomputable def mZ:AV -> AV
 | .ah [a,b]=>.tup [txt a,txt b]
 | v=>.tup [txt v,txt v]
end
namespace Z3
noncomputable def Gq (n:Nat) (H:Mine.Hp) (P:Mine.AP) (E:Mine.EP) (t:Mine.AV) (r:Mine.AV) (h:Mine.AV) (a:Mine.AV) (b:Mine.AV) (c:Mine.AV) (d:Mine.AV) (e:Mine.AV) (kvs:List (Mine.AK × Mine.AV)):Prop:=∀ (os:List AV) (hd:dictOf H h = some kvs) (hw:getKey kvs (.s bI) = none /\ os = [] \/ getKey kvs (.s bI) = some (.ah os)) (ho:∀ o ∈ os,pA o) (hl:os.length <= 8) (k:∀ l H',Ext H H' -> H'[l]? = some (.list (os.map mZ)) -> P (.lst l) H'),WF (n + 4) jw [aR t r,fld a b c d h e] H P E
noncomputable def kq:Nat × Mine.Hp × Mine.AP × Mine.EP × Mine.AV × Mine.AV × Mine.AV × Mine.AV × Mine.AV × Mine.AV × Mine.AV × Mine.AV × List (Mine.AK × Mine.AV):=cx fun p=>Gq p.1 p.2.1 p.2.2.1 p.2.2.2.1 p.2.2.2.2.1 p.2.2.2.2.2.1 p.2.2.2.2.2.2.1 p.2.2.2.2.2.2.2.1 p.2.2.2.2.2.2.2.2.1 p.2.2.2.2.2.2.2.2.2.1 p.2.2.2.2.2.2.2.2.2.2.1 p.2.2.2.2.2.2.2.2.2.2.2.1 p.2.2.2.2.2.2.2.2.2.2.2.2
noncomputable def n:=kq.1
noncomputable def H:=kq.2.1
noncomputable def P:=kq.2.2.1
noncomputable def E:=kq.2.2.2.1
noncomputable def t:=kq.2.2.2.2.1
noncomputable def r:=kq.2.2.2.2.2.1
noncomputable def h:=kq.2.2.2.2.2.2.1
noncomputable def a:=kq.2.2.2.2.2.2.2.1
noncomputable def b:=kq.2.2.2.2.2.2.2.2.1
noncomputable def c:=kq.2.2.2.2.2.2.2.2.2.1
noncomputable def d:=kq.2.2.2.2.2.2.2.2.2.2.1
noncomputable def e:=kq.2.2.2.2.2.2.2.2.2.2.2.1
noncomputable def kvs:=kq.2.2.2.2.2.2.2.2.2.2.2.2
theorem tq:Gq n H P E t r h a b c d e kvs:=by
 intro os hd hw ho hl k
 refine wf BC rfl ?_
 have main:∀ {P:AP} {E:EP},P (.ah os) (H ++ [.list []]) -> WF (n + 3) dC [aR t r,h,.str bI] (H ++ [.list []]) P E:=fun k=>hw.elim (fun h1=>pS (Ext.app.dict hd) (by rw [h1.1]; rfl) (h1.2 ▸ k)) fun h1=>xq (Ext.app.dict hd) (by rw [h1]; rfl) k
 refine main ⟨_,lN (I:=fun _=>True) (J:=fun rs σ H'=>look σ aa = some (aR t r) /\ look σ aw = some (.lst H.length) /\ Ext H H' /\ ∃ ds,os = ds ++ rs /\ H'[H.length]? = some (.list (ds.map mZ))) (fun _ _ _ _=>trivial)
  (fun v rs σ H' N hj k=>?_) (fun σ H' hj=>?_) os _ _ _ (aZ _) ⟨rfl,rfl,.app,[],rfl,getL⟩⟩
 ·obtain ⟨l1,l2,ex,ds,rfl,hL⟩:=hj
  have hlen:(ds.map mZ).length < lim:=by rw [List.length_map]; rw [List.length_append] at hl; exact Nat.lt_of_le_of_lt (Nat.le_trans (Nat.le_add_right ..) hl) (by decide)
  have done:∀ {σ'},look σ' aa = some (aR t r) -> look σ' aw = some (.lst H.length) -> N σ' (H'.set H.length (.list (ds.map mZ ++ [mZ v]))):=fun h1 h2=>
   k _ _ ⟨h1,h2,ex.set (Nat.le_refl _),ds ++ [v],(List.append_cons ..),by rw [get_set hL,List.map_append]; rfl⟩
  refine vr l1 ?_
  refine cC ⟨rfl,rfl⟩ ?_
  cases ho v (List.mem_append_right _ List.mem_cons_self) with
  | one b hb=>
   refine lL rfl rfl ⟨rfl,?_⟩
   refine vr l2 ?_
   refine sL hL ?_
   refine vr l1 ?_
   refine iC (.inl ⟨b,hb,rfl⟩) ?_
   refine vr l1 ?_
   refine iC (.inl ⟨b,hb,rfl⟩) ?_
   refine fj hL hlen ?_
   exact done l1 l2
  | two b c hb hc=>
   refine lL rfl rfl ⟨rfl,?_⟩
   refine kF rfl (Nat.le_of_ble_eq_true rfl) ?_
   refine vr l2 ?_
   refine sL hL ?_
   refine vr l1 ?_
   refine iC (.inl ⟨b,hb,rfl⟩) ?_
   refine vr l1 ?_
   refine iC (.inl ⟨c,hc,rfl⟩) ?_
   refine fj hL hlen ?_
   exact done l1 l2
 ·obtain ⟨l1,l2,ex,ds,rfl,hL⟩:=hj
  refine vr l2 ?_
  rw [List.append_nil] at k
  exact k _ _ ex hL
end Z3
section
variable {n:Nat} {σ σ':Loc} {H:Hp} {P:AP} {E:EP} {C:CF}
theorem C4 {t r h a b c d e:AV} {os:List AV} {kvs:List (AK × AV)} (hd:dictOf H h = some kvs) (hw:getKey kvs (.s bI) = none /\ os = [] \/ getKey kvs (.s bI) = some (.ah os)) (ho:∀ o ∈ os,pA o) (hl:os.length <= 8) (k:∀ l H',Ext H H' -> H'[l]? = some (.list (os.map mZ)) -> P (.lst l) H'):WF (n + 4) jw [aR t r,fld a b c d h e] H P E :=
 bD (p:=fun p=>Z3.Gq p.1 p.2.1 p.2.2.1 p.2.2.2.1 p.2.2.2.2.1 p.2.2.2.2.2.1 p.2.2.2.2.2.2.1 p.2.2.2.2.2.2.2.1 p.2.2.2.2.2.2.2.2.1 p.2.2.2.2.2.2.2.2.2.1 p.2.2.2.2.2.2.2.2.2.2.1 p.2.2.2.2.2.2.2.2.2.2.2.1 p.2.2.2.2.2.2.2.2.2.2.2.2) Z3.tq (n,H,P,E,t,r,h,a,b,c,d,e,kvs) os hd hw ho hl k
noncomputable def sj:AV -> AV
 | .ah [a,b]=>.tup [a,b]
 | v=>.tup [v,v]
theorem IM {os:List AV} {it:It} {σ:Loc} {I:Hp -> Prop} {Q:List AV -> Hp -> Prop} (hi:gU I it os) (hI:I H) (ho:∀ o ∈ os,pA o) (hn:os.length < lim) (k:∀ H',I H' -> Q (os.map sj) H') :
  ∃ k,k <= lim /\ cL C σ (.ite (.isin (.var bf) .eo) (.tup [(.sub (.var bf) (.lit (.int (0)))),(.sub (.var bf) (.lit (.int (1))))]) (.tup [(.var bf),(.var bf)])) (.one bf) [] k it H Q:=by
 refine comp_map (hl:=hn) (I:=I) (f:=sj) (fun v hv H' K hH k=>?_) hi hI k
 cases ho v hv with
 | one b hb=>exact ⟨rfl,k _ hH⟩
 | two b c hb hc=>exact ⟨rfl,k _ hH⟩
noncomputable def JK:AV -> AV
 | .tup [a,b]=>.tup [txt a,txt b]
 | v=>v
theorem MA {o:AV} (h:pA o):JK (sj o) = mZ o:=h.casesOn (fun _ _=>rfl) fun _ _ _ _=>rfl
theorem EW {os:List AV} {σ:Loc} {Q:List AV -> Hp -> Prop} (ho:∀ o ∈ os,pA o) (hn:os.length < lim) (k:Q (os.map mZ) H) :
  ∃ k,k <= lim /\ cL (WF (n + 1)) σ (.tup [(.call bC [(.var bf)]),(.call bC [(.var lJ)])]) (.many [bf,lJ]) [] k (.seq (os.map sj)) H Q:=by
 have e:os.map mZ = (os.map sj).map JK:=by
  rw [List.map_map]; exact List.map_congr_left fun o h=>(MA (ho o h)).symm
 rw [e] at k
 refine comp_map (hl:=(List.length_map sj).symm ▸ hn) (I:=fun H'=>H' = H) (f:=JK) (fun v hv H' K hH k=>?_) (aZ _) rfl fun H' hH=>by rw [hH]; exact k
 obtain ⟨o,ho',rfl⟩:=List.mem_map.1 hv
 clear hv
 revert k
 refine (ho o ho').casesOn (fun b hb k=>?_) fun b c hb hc k=>?_
 ·refine fu (.inl ⟨b,hb,rfl⟩) ?_
  refine fu (.inl ⟨b,hb,rfl⟩) ?_
  exact k _ hH
 ·refine fu (.inl ⟨b,hb,rfl⟩) ?_
  refine fu (.inl ⟨c,hc,rfl⟩) ?_
  exact k _ hH
noncomputable def sel (a b c:Bool):List Nm:=(if a then [gz] else []) ++ (if b then [nA] else []) ++ (if c then [ny] else [])
noncomputable def kZ (a b c:Bool):List (AK × AV):=(sel a b c).map fun s=>(.s s,.int 0)
noncomputable def uU (b c:Bool):List AV:=(if b then [.str nA] else []) ++ (if c then [.str ny] else [])
noncomputable def JO:AV -> Bool
 | .str s=>!decide (s = gz)
 | _=>false
noncomputable def NN (a b c:Bool):AV -> Bool
 | .str s=>(getKey (kZ a b c) (.s s)).isSome
 | _=>false
theorem nu (a b c:Bool):qA (kZ a b c) = some (sel a b c) /\ ((sel a b c).length <= 32 /\ rising (sel a b c) = true) /\ (((sel a b c).map AV.str).filter JO).map id = uU b c /\ ([AV.str nA,AV.str ny].filter (NN a b c)).map id = uU b c /\ (uU b c).length <= lim:=by
 cases a <;> cases b <;> cases c <;> exact ⟨rfl,⟨by decide,rfl⟩,rfl,rfl,by decide⟩
theorem Ie (a b c:Bool):(sel a b c).length <= 3:=by cases a <;> cases b <;> cases c <;> decide
theorem EA {a b c:Bool} (k:P (.ah ((sel a b c).map .str)) H):gV .sorted (.aj (kZ a b c)) H P:=by
 with_unfolding_all exact bN (nu a b c).1 ⟨(nu a b c).2.1,k⟩
noncomputable def jZ (H:Hp) (tab:List (AK × AV)) (w:Nat) (a b c:Bool):Prop:=∃ d dk,getKey tab (.i w) = some (.tup [.int 0,d]) /\ dictOf H d = some dk /\ plain d = true /\ getKey dk (.s df) = some (.aj [(.s sH,.aj (kZ a b c))])
end
namespace Z4
noncomputable def Gq (n:Nat) (H:Mine.Hp) (P:Mine.AP) (E:Mine.EP) (t:Mine.AV) (r:Mine.AV) (w:Nat) (a:Bool) (b:Bool) (c:Bool) (tab:List (Mine.AK × Mine.AV)):Prop:=∀ (ht:dictOf H t = some tab) (hw:jZ H tab w a b c) (k:P (.ah (uU b c)) H),WF (n + 3) gZ [aR t r,rf w] H P E
noncomputable def kq:Nat × Mine.Hp × Mine.AP × Mine.EP × Mine.AV × Mine.AV × Nat × Bool × Bool × Bool × List (Mine.AK × Mine.AV):=cx fun p=>Gq p.1 p.2.1 p.2.2.1 p.2.2.2.1 p.2.2.2.2.1 p.2.2.2.2.2.1 p.2.2.2.2.2.2.1 p.2.2.2.2.2.2.2.1 p.2.2.2.2.2.2.2.2.1 p.2.2.2.2.2.2.2.2.2.1 p.2.2.2.2.2.2.2.2.2.2
noncomputable def n:=kq.1
noncomputable def H:=kq.2.1
noncomputable def P:=kq.2.2.1
noncomputable def E:=kq.2.2.2.1
noncomputable def t:=kq.2.2.2.2.1
noncomputable def r:=kq.2.2.2.2.2.1
noncomputable def w:=kq.2.2.2.2.2.2.1
noncomputable def a:=kq.2.2.2.2.2.2.2.1
noncomputable def b:=kq.2.2.2.2.2.2.2.2.1
noncomputable def c:=kq.2.2.2.2.2.2.2.2.2.1
noncomputable def tab:=kq.2.2.2.2.2.2.2.2.2.2
theorem tq:Gq n H P E t r w a b c tab:=by
 intro ht hw k
 obtain ⟨d,dk,h1,h2,h3,h4⟩:=hw
 have sd:=iK h2
 refine wf xS rfl ?_
 refine cC ⟨rfl,rfl⟩ ?_
 refine cC ⟨rfl,rfl⟩ ?_
 refine lB ht h1 h3 sd ?_
 refine k_get (w:=.aj [(.s sH,.aj (kZ a b c))]) h2 (by rw [h4]; rfl) rfl rfl ⟨rfl,?_⟩
 refine cC ⟨rfl,rfl⟩ ?_
 refine k_get (kvs:=[(.s sH,.aj (kZ a b c))]) (w:=.aj (kZ a b c)) rfl rfl rfl rfl ⟨rfl,?_⟩
 refine EA ?_
 obtain ⟨_,_,e,_,e'⟩:=nu a b c
 refine jh (hl:=few (Nat.le_trans (Ie a b c) (by decide))) (I:=fun H'=>H' = H) (f:=id) (p:=JO) (fun v hv H' K L hH k k'=>?_) (aZ _) rfl fun H' hH=>?_
 ·obtain ⟨s,hs,rfl⟩:=List.mem_map.1 hv
  exact cJ (fun q=>k q _ hH) fun q=>k' q _ hH
 ·subst hH
  rw [e]
  exact ⟨e',k⟩
end Z4
section
variable {n:Nat} {σ σ':Loc} {H:Hp} {P:AP} {E:EP} {C:CF}
theorem yU {t r:AV} {w:Nat} {a b c:Bool} {tab:List (AK × AV)} (ht:dictOf H t = some tab) (hw:jZ H tab w a b c) (k:P (.ah (uU b c)) H):WF (n + 3) gZ [aR t r,rf w] H P E :=
 bD (p:=fun p=>Z4.Gq p.1 p.2.1 p.2.2.1 p.2.2.2.1 p.2.2.2.2.1 p.2.2.2.2.2.1 p.2.2.2.2.2.2.1 p.2.2.2.2.2.2.2.1 p.2.2.2.2.2.2.2.2.1 p.2.2.2.2.2.2.2.2.2.1 p.2.2.2.2.2.2.2.2.2.2) Z4.tq (n,H,P,E,t,r,w,a,b,c,tab) ht hw k
theorem ET {t r:AV} {w:Nat} {a b c:Bool} {tab:List (AK × AV)} {σ:Loc} {Q:List AV -> Hp -> Prop} (l1:look σ aa = some (aR t r)) (l2:look σ bw = some (rf w)) (ht:dictOf H t = some tab) (hw:jZ H tab w a b c) (k:Q (uU b c) H) :
  ∃ k,k <= lim /\ cL (WF (n + 1)) σ (.var av) (.one av) [.cmp .In (.var av) (.sub (.sub (.aF (.var aa) g7 [(.var bw)]) (.lit (.str df))) (.lit (.str sH)))] k (.seq [.str nA,.str ny]) H Q:=by
 obtain ⟨d,dk,h1,h2,h3,h4⟩:=hw
 refine jh (I:=fun H'=>H' = H) (f:=id) (p:=NN a b c) (fun v hv H' K L hH k k'=>?_) (aZ _) rfl fun H' hH=>by rw [hH,(nu a b c).2.2.2.1]; exact k
 subst hH
 obtain ⟨s,rfl⟩:∃ s,v = .str s:=by
  rcases List.mem_cons.1 hv with e | hv
  ·exact ⟨_,e⟩
  ·exact ⟨_,List.mem_singleton.1 hv⟩
 refine vr (v:=aR t r) l1 ?_
 refine cC ⟨rfl,rfl⟩ ?_
 refine vr (v:=rf w) l2 ?_
 refine lB ht h1 h3 (iK h2) ?_
 refine Cj (i:=.s df) h2 h4 ?_
 exact cJ (fun q=>k q _ rfl) fun q=>k' q _ rfl
end
end
end Mine
end
section
set_option maxRecDepth 10000
namespace Mine
noncomputable section
section
variable {n:Nat} {σ σ':Loc} {H:Hp} {P:AP} {E:EP} {C:CF} {N B:LP} {T:AP}
theorem oB {k:AK}:keyOf (bQ k) = some k:=by cases k <;> rfl
theorem HK {b:AV} {kvs:List (AK × AV)} {k:AK} (hd:dictOf H b = some kvs):contains H (bQ k) b = some (getKey kvs k).isSome:=by
 refine qG hd (fun l it e _=>?_) fun e=>?_
 ·subst e; unfold contains; rw [hd,oB]; rfl
 ·subst e; unfold contains; rw [oB]; rfl
theorem rS {b:AV} {kvs:List (AK × AV)} {k:AK} {Q:Bool -> Prop} (hd:dictOf H b = some kvs) (q:Q (getKey kvs k).isSome):Is (k7 H .In (bQ k) b) Q:=bN (HK hd) q
theorem wy {b:AV} {kvs:List (AK × AV)} {k:AK} {Q:Bool -> Prop} (hd:dictOf H b = some kvs) (q:Q (!(getKey kvs k).isSome)):Is (k7 H .NotIn (bQ k) b) Q:=bN (congrArg (Option.map (!·)) (HK hd)) q
noncomputable def jE:Option Nm -> AV
 | none=>.none
 | some x=>.str x
noncomputable def eB:Option Nat -> AV
 | none=>.none
 | some k=>rf k
noncomputable def gf (kvs:List (AK × AV)) (p:Option (List Nat)):Prop:=getKey kvs (.s gp) = p.map stI /\ ∀ b,p = some b -> iI b
theorem mU {d:AV} {dk:List (AK × AV)} (h:dictOf H d = some dk):iU .iJ d = true /\ plain d = true:=qG h (fun l it q _=>q ▸ ⟨rfl,rfl⟩) fun q=>q ▸ ⟨rfl,rfl⟩
theorem sQ {t r h:AV} {kvs:List (AK × AV)} {p:Option (List Nat)} (hd:dictOf H h = some kvs) (hp:gf kvs p) (k:P (jE p) H):WF (n + 3) iO [aR t r,h] H P E:=by
 refine wf zf rfl ?_
 refine cC ⟨rfl,rfl⟩ ?_
 cases p with
 | none=>
  refine k_get (w:=.none) hd (by rw [hp.1]; rfl) rfl rfl ⟨rfl,?_⟩
  exact k
 | some b=>
  refine k_get (w:=stI b) hd (by rw [hp.1]; rfl) rfl rfl ⟨rfl,?_⟩
  exact u6 (hp.2 b rfl) k
noncomputable def longer:Option Nm -> Option Nm -> Option Nm
 | nm,none=>nm
 | none,some p=>some p
 | some a,some p=>some (a ++ [46] ++ p)
theorem EX {nm p:Option Nm} (h1:∀ a,nm = some a -> a.length <= 100) (h2:∀ a,p = some a -> a.length <= 100) (k:P (jE (longer nm p)) H):WF (n + 1) gH [jE nm,jE p] H P E:=by
 refine wf uz rfl ?_
 cases p with
 | none=>exact k
 | some p=>cases nm with
  | none=>exact k
  | some a=>
   have:=h1 a rfl
   have:=h2 p rfl
   refine qJ (Nat.le_trans (Nat.add_le_add_right (h1 a rfl) _) (by decide)) ?_
   refine qJ ?_ k
   rw [List.length_append]
   exact Nat.le_trans (Nat.add_le_add (Nat.add_le_add_right (h1 a rfl) _) (h2 p rfl)) (by decide)
theorem Co {a:AV} {kvs:List (AK × AV)} (h:dictOf H a = some kvs) (hl:kvs.length <= lim) (k:P (.dct H.length) (H ++ [.dict false kvs])):gV (.dict false) a H P:=by
 unfold gV; rw [h]; exact ⟨hl,k⟩
theorem sS {h:AV} {wl:Nat} {Ab:Bool} {g kvs:List (AK × AV)} {it:It} {w:Nm} (hw:w ≠ av) (Ad:Walk H h kvs) (hne:h ≠ .dct wl) (hnd:Nd kvs) (hW:H[wl]? = some (.dict Ab g)) (hl:g.length <= 100 /\ kvs.length <= 100)
  (l1:look σ ai = some h) (l2:look σ w = some (.dct wl)) (hi:gU (fun H'=>Walk H' h kvs) it (kvs.map fun p=>bQ p.1))
  (k:∀ σ',(∀ x v,x ≠ av -> look σ x = some v -> look σ' x = some v) -> N σ' (H.set wl (.dict Ab (putAll g kvs)))) :
  ∃ k,forL C (.one av) [.store (.var w) (.var av) (.sub (.var ai) (.var av))] k it σ H N T E:=by
 have keep:∀ ds,Walk (H.set wl (.dict Ab (putAll g ds))) h kvs:=fun ds=>Ad.imp (fun ⟨l,e,q⟩=>⟨l,e,by
  rw [List.getElem?_set_ne fun w=>hne (e.trans (congrArg _ w.symm))]; exact q⟩) id
 refine ⟨_,lN (I:=fun H'=>Walk H' h kvs) (J:=fun rs σ' H'=>(∀ x v,x ≠ av -> look σ x = some v -> look σ' x = some v) /\ ∃ ds ts,kvs = ds ++ ts /\ rs = ts.map (fun p=>bQ p.1) /\ H' = H.set wl (.dict Ab (putAll g ds))) ?_
  (fun v rs σ' H' N' hj k'=>?_) (fun σ' H' hj=>?_) _ _ _ _ hi ⟨fun _ _ _ x=>x,[],kvs,rfl,rfl,(set_same hW).symm⟩⟩
 ·rintro rs σ' H' ⟨_,ds,ts,_,_,rfl⟩
  exact keep ds
 ·obtain ⟨hσ,ds,ts,e1,e2,rfl⟩:=hj
  cases ts with
  | nil=>cases e2
  | cons p ts=>
  obtain ⟨e2,e3⟩:=List.cons.inj e2
  subst e2
  have hget:getKey kvs p.1 = some p.2:=by rw [e1]; rw [e1] at hnd; exact get_mem hnd
  have hd':(putAll g ds).length < lim:=by
   refine Nat.lt_of_le_of_lt r9 ?_
   rw [e1,List.length_append] at hl
   exact Nat.lt_of_le_of_lt (Nat.add_le_add hl.1 (Nat.le_trans (Nat.le_add_right ..) hl.2)) (by decide)
  refine vr (b8 (by decide) (hσ _ _ (by decide) l1)) ?_
  refine Cj (keep ds).dict hget ?_
  refine vr (b8 hw (hσ _ _ hw l2)) ?_
  refine eF (get_set hW) hd' ?_
  refine k' _ _ ⟨fun x v hx hv=>b8 hx (hσ x v hx hv),ds ++ [p],ts,(by rw [e1]; exact List.append_cons ..),e3,?_⟩
  rw [List.set_set,oR]
 ·obtain ⟨hσ,ds,ts,e1,e2,rfl⟩:=hj
  cases ts with
  | cons p ts=>cases e2
  | nil=>
   rw [List.append_nil] at e1
   subst e1
   exact k σ' hσ
theorem Walk.ne {h:AV} {kvs:List (AK × AV)} (Ad:Walk H h kvs):h ≠ .dct H.length:=fun e=>Ad.elim (fun ⟨l,q,z⟩=>absurd (lt_of_get z) (by rw [AV.dct.inj (q.symm.trans e)]; exact Nat.lt_irrefl _)) fun q=>nomatch q.symm.trans e
theorem k_with {h:AV} {g kvs:List (AK × AV)} (Ad:Walk H h kvs) (hnd:Nd kvs) (hl:g.length <= 100 /\ kvs.length <= 100) (k:P (.dct H.length) (H ++ [.dict false (putAll g kvs)])):WF (n + 1) dY [h,.aj g] H P E:=by
 refine wf qM rfl ?_
 refine Co rfl (Nat.le_trans hl.1 (by decide)) ?_
 have Kz:Walk (H ++ [.dict false g]) h kvs:=Ad.ext .app
 obtain ⟨it,h1,h2⟩:=sX Kz
 refine j2 h1 ?_
 refine sS (w:=aw) (wl:=H.length) (Ab:=false) (g:=g) (kvs:=kvs) (h:=h) (by decide) Kz Ad.ne hnd getL hl rfl rfl h2 fun σ' hσ=>?_
 refine vr (hσ aw _ (by decide) bV) ?_
 rw [pI]
 exact k
noncomputable def cg (H:Hp) (tab:List (AK × AV)) (k:Nat) (d:AV) (dk:List (AK × AV)):Prop:=getKey tab (.i k) = some (.tup [.int 0,d]) /\ dictOf H d = some dk
theorem qU {t r d:AV} {i:Nat} {tab dk:List (AK × AV)} (ht:dictOf H t = some tab) (hi:cg H tab i d dk) (k:P d H):WF (n + 1) gO [aR t r,rf i] H P E :=
 lB ht hi.1 (mU hi.2).2 (iK hi.2) k
theorem Bc {t r d:AV} {i:Nat} {tab dk:List (AK × AV)} {p:Option (List Nat)} (ht:dictOf H t = some tab) (hi:cg H tab i d dk) (hp:gf dk p) (k:P (.bool p.isSome) H):WF (n + 4) jH [aR t r,rf i] H P E:=by
 refine wf zj rfl ?_
 refine cC ⟨rfl,rfl⟩ ?_
 refine qU ht hi ⟨iK hi.2,?_⟩
 rw [(mU hi.2).1]
 refine sQ hi.2 hp ?_
 cases p with
 | none=>exact k
 | some b=>exact k
theorem C7 {t r d:AV} {i:Nat} {tab dk:List (AK × AV)} (ht:dictOf H t = some tab) (hi:cg H tab i d dk) (k:∀ H',Ext H H' -> P (rf i) H'):WF (n + 1) mJ [aR t r,rf i] H P E:=by
 refine wf BD rfl ⟨1,rfl,?_⟩
 refine wy (k:=.i i) (kvs:=[]) (fg getL) ?_
 refine eF (i:=.i i) getL (by decide) ?_
 rw [pI]
 have ht':=Ext.app (X:=[.dict true (ae [] (.i i) (.bool true))]).dict ht
 refine pQ ht' ?_
 refine lR (i:=.i i) ht' ?_
 rw [hi.1]
 refine ⟨iK (Ext.app.dict hi.2),?_⟩
 rw [t9 (mU hi.2).2]
 exact k _ .app
noncomputable abbrev fK (fl nl sl:Nat):AV:=.inst n9 [(lV,.lst fl),(qy,.lst nl),(lU,.dct sl)]
theorem cg.ext {A:Hp} {tab kvs:List (AK × AV)} {m:Nat} {d:AV} (h:cg A tab m d kvs) (e:Ext A H):cg H tab m d kvs:=⟨h.1,e.dict h.2⟩
theorem u9 {t r d:AV} {i fl nl sl:Nat} {tab dk sk:List (AK × AV)} {it b:Bool} (ht:dictOf H t = some tab) (hi:cg H tab i d dk) (hs:H[sl]? = some (.dict it sk)) (hk:(getKey sk (.i i)).isSome = b) (hl:sk.length < lim)
  (k:∀ H',Ext H H' -> cond b (E cj H') (P (.tup [rf i,d]) (H'.set sl (.dict it (ae sk (.i i) (.bool true)))))):WF (n + 2) dK [aR t r,fK fl nl sl,rf i] H P E:=by
 refine wf zh rfl ?_
 refine C7 ht hi fun H' ex=>?_
 refine cC ⟨rfl,rfl⟩ ?_
 refine qU (ex.dict ht) (hi.ext ex) ?_
 refine rS (k:=.i i) (fg (ex _ _ hs)) ?_
 rw [hk]
 have k:=k H' ex
 cases b with
 | true=>exact k
 | false=>
  refine ⟨iK (hi.ext ex).2,?_⟩
  rw [(mU (hi.ext ex).2).1]
  refine eF (i:=.i i) (ex _ _ hs) hl ?_
  exact k
theorem Ba {t r d:AV} {i fl nl sl:Nat} {tab dk sk:List (AK × AV)} {it:Bool} (ht:dictOf H t = some tab) (hi:cg H tab i d dk) (hs:H[sl]? = some (.dict it sk)) (hk:getKey sk (.i i) = none) (hl:sk.length <= 1000)
  (k:∀ H',Ext H H' -> P (.tup [rf i,d]) (H'.set sl (.dict it (ae sk (.i i) (.bool true))))):WF (n + 2) dK [aR t r,fK fl nl sl,rf i] H P E:=u9 (b:=false) ht hi hs (congrArg Option.isSome hk) (Nat.lt_of_le_of_lt hl (by decide)) k
theorem yV {t r d:AV} {i fl nl sl:Nat} {tab dk sk:List (AK × AV)} {it:Bool} (ht:dictOf H t = some tab) (hi:cg H tab i d dk) (hs:H[sl]? = some (.dict it sk)) (hk:(getKey sk (.i i)).isSome = true) (hl:sk.length <= 1000)
  (k:∀ H',Ext H H' -> E cj H'):WF (n + 2) dK [aR t r,fK fl nl sl,rf i] H P E:=u9 ht hi hs hk (Nat.lt_of_le_of_lt hl (by decide)) k
end
end
end Mine
end
section
set_option maxRecDepth 10000
namespace Mine
noncomputable section
section
variable {n:Nat} {σ σ':Loc} {H:Hp} {P:AP} {E:EP} {C:CF} {N B:LP} {T:AP}
noncomputable def aL (p:Nat -> Prop) (H H':Hp):Prop:=∀ (l:Nat) (o:aO),p l -> H[l]? = some o -> H'[l]? = some o
theorem aL.refl {p:Nat -> Prop} (H:Hp):aL p H H:=fun _ _ _ h=>h
theorem aL.trans {p:Nat -> Prop} {A B C:Hp} (h:aL p A B) (k:aL p B C):aL p A C:=fun l o hp e=>k l o hp (h l o hp e)
theorem Ext.HH {p:Nat -> Prop} {A B:Hp} (h:Ext A B):aL p A B:=fun l o _ e=>h l o e
theorem aL.set {p:Nat -> Prop} {A H:Hp} {l:Nat} {o:aO} (h:aL p A H) (hl:¬ p l):aL p A (H.set l o):=fun i x hp e=>(List.getElem?_set_ne fun q:l = i=>hl (q ▸ hp)).trans (h i x hp e)
theorem aL.app {p:Nat -> Prop} {A H X:Hp} (h:aL p A H):aL p A (H ++ X):=h.trans Ext.app.HH
theorem aL.mono {p q:Nat -> Prop} {A B:Hp} (h:aL p A B) (hq:∀ l,q l -> p l):aL q A B:=fun l o hp e=>h l o (hq l hp) e
theorem Ext.Az {p:Nat -> Prop} {A B C:Hp} (h:Ext A B) (k:aL p B C) (hp:∀ l,l < A.length -> p l):Ext A C:=fun l o e=>k l o (hp l (lt_of_get e)) (h l o e)
noncomputable def vI (p:Nat -> Prop) (v:AV):Prop:=∀ l,v = .dct l \/ v = .lst l -> p l
theorem aL.dict {p:Nat -> Prop} {A H:Hp} (e:aL p A H) {v:AV} {kvs:List (AK × AV)} (hv:vI p v) (h:dictOf A v = some kvs):dictOf H v = some kvs:=qG h (fun l it q z=>q ▸ fg (e _ _ (hv l (.inl q)) z)) fun q=>q ▸ rfl
theorem aL.list {p:Nat -> Prop} {A H:Hp} (e:aL p A H) {v:AV} {vs:List AV} (hv:vI p v) (h:listOf A v = some vs):listOf H v = some vs:=listE h (fun l q z=>q ▸ dG (e _ _ (hv l (.inr q)) z)) fun q=>q ▸ rfl
structure Lf where
 name:Nm
 num:Nat
 above:Option Nat
 lP:List Nat
 ft:Option Nm
 x:Option Nat
 v:AV
 dv:AV
 os:List AV
noncomputable def mC (kvs:List (AK × AV)) (lf:Lf):Prop:=rZ kvs lf.ft /\ ni kvs lf.x /\ (getKey kvs (.s ie)).getD .none = lf.v /\ (getKey kvs (.s ia)).getD .none = lf.dv /\ (getKey kvs (.s bI) = none /\ lf.os = [] \/ getKey kvs (.s bI) = some (.ah lf.os))
structure dI (lf:Lf):Prop where
 ft:lf.ft ∈ sorts
 v:Ob lf.v
 dv:Ob lf.dv
 os:∀ o ∈ lf.os,pA o
 len:lf.os.length <= 8
 nm:100 ∉ lf.name
 nl:lf.name.length <= 100
 wl:lf.lP.length <= 8
noncomputable def kd (lf:Lf):Nm:=oA lf.ft (lf.x.getD 0)
inductive bL {α β:Type} (R:α -> β -> Prop):List α -> List β -> Prop where
 | nil:bL R [] []
 | cons {a:α} {b:β} {as:List α} {bs:List β}:R a b -> bL R as bs -> bL R (a :: as) (b :: bs)
theorem bL.imp {α β:Type} {R S:α -> β -> Prop} {as:List α} {bs:List β} (h:bL R as bs) (k:∀ a b,R a b -> S a b):bL S as bs:=by
 induction h with
 | nil=>exact .nil
 | cons x _ ih=>exact .cons (k _ _ x) ih
theorem bL.app {α β:Type} {R:α -> β -> Prop} {as as':List α} {bs bs':List β} (h:bL R as bs) (k:bL R as' bs'):bL R (as ++ as') (bs ++ bs'):=by
 induction h with
 | nil=>exact k
 | cons x _ ih=>exact .cons x ih
theorem bL.len {α β:Type} {R:α -> β -> Prop} {as:List α} {bs:List β} (h:bL R as bs):as.length = bs.length:=by
 induction h with
 | nil=>rfl
 | cons x _ ih=>simp [ih]
noncomputable def iV (H:Hp) (lf:Lf) (f:AV):Prop:=∃ ws w wk,f = fld (.str lf.name) (rf lf.num) (eB lf.above) ws w (.str (kd lf)) /\ listOf H ws = some (lf.lP.map rf) /\ dictOf H w = some wk /\ mC wk lf
noncomputable def jr (p:Nat -> Prop) (H:Hp) (lf:Lf) (f:AV):Prop:=∃ ws w wk,f = fld (.str lf.name) (rf lf.num) (eB lf.above) ws w (.str (kd lf)) /\ listOf H ws = some (lf.lP.map rf) /\ dictOf H w = some wk /\ mC wk lf /\ vI p ws /\ vI p w
theorem jr.ok {p:Nat -> Prop} {lf:Lf} {f:AV} (h:jr p H lf f):iV H lf f:=by
 obtain ⟨ws,w,wk,h1,h2,h3,h4,_⟩:=h
 exact ⟨ws,w,wk,h1,h2,h3,h4⟩
theorem jr.ext {p:Nat -> Prop} {A:Hp} {lf:Lf} {f:AV} (h:jr p A lf f) (e:aL p A H):jr p H lf f:=by
 obtain ⟨ws,w,wk,h1,h2,h3,h4,h5,h6⟩:=h
 exact ⟨ws,w,wk,h1,e.list h5 h2,e.dict h6 h3,h4,h5,h6⟩
theorem iV.ext {A:Hp} {lf:Lf} {f:AV} (h:iV A lf f) (e:Ext A H):iV H lf f:=by
 obtain ⟨ws,w,wk,h1,h2,h3,h4⟩:=h
 exact ⟨ws,w,wk,h1,e.list h2,e.dict h3,h4⟩
noncomputable def Head (H:Hp) (tab:List (AK × AV)) (m:Nat) (d:AV) (kvs:List (AK × AV)):Prop:=getKey tab (.i m) = some (.tup [.int 0,d]) /\ Walk H d kvs /\ Nd kvs /\ kvs.length <= 50
theorem Head.node {tab kvs:List (AK × AV)} {m:Nat} {d:AV} (h:Head H tab m d kvs):cg H tab m d kvs:=⟨h.1,h.2.1.dict⟩
inductive mz (H:Hp) (tab kvs:List (AK × AV)) (m:Nat):List Nat -> Nat -> Prop where
 | own:getKey kvs (.s aD) = none -> getKey kvs (.s aV) = some (fH cA) -> mz H tab kvs m [m] (m + 1)
 | bare:getKey kvs (.s aD) = none -> getKey kvs (.s aV) = none -> mz H tab kvs m [] (m + 1)
 | kids (w:Nat):0 < w -> w <= 8 -> getKey kvs (.s aD) = some (.ah ((List.range' (m + 1) w).map rf)) -> (∀ j,j ∈ List.range' (m + 1) w -> ∃ d dk,cg H tab j d dk /\ gf dk none) -> mz H tab kvs m (List.range' (m + 1) w) (m + 1 + w)
noncomputable abbrev jO (k:Nat) (ab:Option Nat) (nm:Option Nm) (g:List (AK × AV)):AV:=.tup [rf k,eB ab,jE nm,.aj g]
noncomputable def handed (kvs:List (AK × AV)):List (AK × AV):=hand fun k=>getKey kvs (.s k)
inductive Walks (H:Hp) (tab:List (AK × AV)):Nat -> List AV -> List Lf -> Nat -> Prop where
 | nil {m:Nat}:Walks H tab m [] [] m
 | leaf {m:Nat} {ab:Option Nat} {nm p:Option Nm} {g kvs:List (AK × AV)} {d:AV} {lf:Lf} {e1:Nat} {rest:List AV} {ls:List Lf} {e:Nat}:Head H tab m d kvs -> gf kvs p -> (∀ a,nm = some a -> a.length <= 100) -> g.length <= 50 ->
   mz H tab kvs m lf.lP e1 -> lf.name = (longer nm p).getD [] -> lf.num = m -> lf.above = ab -> mC (putAll g kvs) lf -> lf.ft ∈ sorts -> Walks H tab e1 rest ls e -> Walks H tab m (jO m ab nm g :: rest) (lf :: ls) e
 | node {m:Nat} {ab:Option Nat} {nm p:Option Nm} {g kvs:List (AK × AV)} {d:AV} {ks:List Nat} {rest:List AV} {ls:List Lf} {e:Nat}:Head H tab m d kvs -> gf kvs p -> (∀ a,nm = some a -> a.length <= 100) -> g.length <= 50 ->
   getKey kvs (.s aD) = some (.ah (ks.map rf)) -> ks ≠ [] -> ks.length <= 8 -> (∀ j,j ∈ ks -> ∃ d dk b,cg H tab j d dk /\ gf dk (some b)) ->
   Walks H tab (m + 1) (ks.map (fun k=>jO k (some m) (longer nm p) (handed (putAll g kvs))) ++ rest) ls e -> Walks H tab m (jO m ab nm g :: rest) ls e
theorem mz.le {tab kvs:List (AK × AV)} {m e:Nat} {ws:List Nat} (h:mz H tab kvs m ws e):m + 1 <= e /\ e <= m + 9:=by cases h <;> omega
theorem Walks.le {tab:List (AK × AV)} {m e:Nat} {items:List AV} {ls:List Lf} (h:Walks H tab m items ls e):m + items.length <= e:=by
 induction h with
 | nil=>simp
 | leaf _ _ _ _ hw _ _ _ _ _ _ ih=>have:=hw.le; simp only [List.length_cons]; omega
 | @node _ _ _ _ _ _ _ ks _ _ _ _ _ _ _ _ hne _ _ _ ih=>
  have:0 < ks.length:=List.length_pos_iff.2 hne
  simp only [List.length_append,List.length_map,List.length_cons] at ih ⊢; omega
noncomputable def Seen (H:Hp) (sl m:Nat):Prop:=∃ it sk,H[sl]? = some (.dict it sk) /\ (∀ j:Nat,m <= j -> getKey sk (.i j) = none) /\ (sk.length <= m /\ ∀ j:Nat,2 <= j -> j < m -> (getKey sk (.i j)).isSome = true)
theorem C5 {t r d:AV} {i fl nl sl:Nat} {tab dk:List (AK × AV)} (ht:dictOf H t = some tab) (hi:cg H tab i d dk) (hs:Seen H sl i) (hl:i <= 1000)
  (k:∀ H',aL (· ≠ sl) H H' -> Seen H' sl (i + 1) -> P (.tup [rf i,d]) H'):WF (n + 2) dK [aR t r,fK fl nl sl,rf i] H P E:=by
 obtain ⟨it,sk,h1,h2,h3,h4⟩:=hs
 refine Ba ht hi h1 (h2 i (Nat.le_refl _)) (Nat.le_trans h3 hl) fun H' ex=>k _ (ex.HH.set fun h=>h rfl) ⟨it,_,get_set (ex _ _ h1),fun j hj=>?_,Nat.le_trans gX (Nat.succ_le_succ h3),fun j a b=>?_⟩
 ·rw [lI,if_neg (by simp; omega)]; exact h2 j (Nat.le_of_succ_le hj)
 ·rw [lI]
  by_cases e:i = j
  ·subst e; rw [if_pos rfl]; rfl
  ·rw [if_neg (by simp; omega)]; exact h4 j a (by omega)
theorem Ha {vs:List AV} {p:Nat -> Prop}:∀ l,AV.ah vs = .dct l \/ AV.ah vs = .lst l -> p l:=fun l h=>h.elim (fun h=>nomatch h) fun h=>nomatch h
theorem zZ {a w:Nat} (h:w <= 8):((List.range' a w).map rf).length <= lim:=by rw [List.length_map,List.length_range']; exact Nat.le_trans h (by decide)
end
namespace Z5
noncomputable def Gq (n:Nat) (H:Mine.Hp) (P:Mine.AP) (E:Mine.EP) (H0:Mine.Hp) (t:Mine.AV) (r:Mine.AV) (d:Mine.AV) (m:Nat) (fl:Nat) (nl:Nat) (sl:Nat) (tab:List (Mine.AK × Mine.AV)) (kvs:List (Mine.AK × Mine.AV)):Prop:=∀ (e:Nat) (ws:List Nat) (ht:dictOf H0 t = some tab) (hd:dictOf H0 d = some kvs) (ex:Ext H0 H) (hsl:H0.length <= sl) (hw:mz H0 tab kvs m ws e) (hs:Seen H sl (m + 1)) (hl:e <= 900) (kids:List AV) (hk:kids = (match getKey kvs (.s aD) with | some (.ah vs)=>vs | _=>[])) (k:∀ H' v,aL (· ≠ sl) H H' -> Seen H' sl e -> listOf H' v = some (ws.map rf) -> (∀ l,v = .dct l \/ v = .lst l -> H.length <= l) -> P v H'),WF (n + 3) eK [aR t r,fK fl nl sl,rf m,d,.ah kids] H P E
noncomputable def kq:Nat × Mine.Hp × Mine.AP × Mine.EP × Mine.Hp × Mine.AV × Mine.AV × Mine.AV × Nat × Nat × Nat × Nat × List (Mine.AK × Mine.AV) × List (Mine.AK × Mine.AV):=cx fun p=>Gq p.1 p.2.1 p.2.2.1 p.2.2.2.1 p.2.2.2.2.1 p.2.2.2.2.2.1 p.2.2.2.2.2.2.1 p.2.2.2.2.2.2.2.1 p.2.2.2.2.2.2.2.2.1 p.2.2.2.2.2.2.2.2.2.1 p.2.2.2.2.2.2.2.2.2.2.1 p.2.2.2.2.2.2.2.2.2.2.2.1 p.2.2.2.2.2.2.2.2.2.2.2.2.1 p.2.2.2.2.2.2.2.2.2.2.2.2.2
noncomputable def n:=kq.1
noncomputable def H:=kq.2.1
noncomputable def P:=kq.2.2.1
noncomputable def E:=kq.2.2.2.1
noncomputable def H0:=kq.2.2.2.2.1
noncomputable def t:=kq.2.2.2.2.2.1
noncomputable def r:=kq.2.2.2.2.2.2.1
noncomputable def d:=kq.2.2.2.2.2.2.2.1
noncomputable def m:=kq.2.2.2.2.2.2.2.2.1
noncomputable def fl:=kq.2.2.2.2.2.2.2.2.2.1
noncomputable def nl:=kq.2.2.2.2.2.2.2.2.2.2.1
noncomputable def sl:=kq.2.2.2.2.2.2.2.2.2.2.2.1
noncomputable def tab:=kq.2.2.2.2.2.2.2.2.2.2.2.2.1
noncomputable def kvs:=kq.2.2.2.2.2.2.2.2.2.2.2.2.2
theorem tq:Gq n H P E H0 t r d m fl nl sl tab kvs:=by
 intro e ws ht hd ex hsl hw hs hl kids hk k
 refine wf uy rfl ?_
 cases hw with
 | own h1 h2=>
  rw [h1] at hk; subst hk
  refine kF rfl (by decide) ?_
  refine cC ⟨rfl,rfl⟩ ?_
  refine k_get (w:=fH cA) (ex.dict hd) (by rw [h2]; rfl) rfl rfl ⟨rfl,?_⟩
  exact k _ _ (.refl _) hs rfl Ha
 | bare h1 h2=>
  rw [h1] at hk; subst hk
  refine kF rfl (by decide) ?_
  refine cC ⟨rfl,rfl⟩ ?_
  refine k_get (w:=.none) (ex.dict hd) (by rw [h2]; rfl) rfl rfl ⟨rfl,?_⟩
  obtain ⟨it,sk,a,b,c⟩:=hs
  exact k _ _ (aL.refl _).app ⟨it,sk,Ext.app _ _ a,b,c⟩ (dG getL) (fun l h=>h.elim (fun h=>nomatch h) fun h=>Nat.le_of_eq (AV.lst.inj h))
 | kids w h0 h8 h1 h2=>
  rw [h1] at hk
  dsimp only at hk
  subst hk
  refine kF rfl (zZ h8) ?_
  refine dD (fun _=>?_) fun q=>(q (by rw [List.length_map,List.length_range']; exact Int.ofNat_lt.mpr h0)).elim
  refine ⟨_,few (f:=rf) (xs:=List.range' (m + 1) w) ((List.length_range' ..).symm ▸ h8),gC (I:=fun _=>True) (J:=fun rs acc H'=>aL (· ≠ sl) H H' /\ ∃ j c,rs = (List.range' j c).map rf /\ j + c = m + 1 + w /\ Seen H' sl j /\ acc ++ rs = (List.range' (m + 1) w).map rf /\ m + 1 <= j) (fun _ _ _ _=>trivial)
    (fun v rs acc H' K L hj kk _=>?_) _ _ [] _ _ (aZ _) ⟨.refl _,m + 1,w,rfl,rfl,hs,rfl,Nat.le_refl _⟩ fun vs H' hj=>?_⟩
  ·obtain ⟨e1,j,c,e2,e3,e4,e5,e6⟩:=hj
   cases c with
   | zero=>cases e2
   | succ c=>
    obtain ⟨e2,e7⟩:=List.cons.inj e2
    subst e2
    have jc:j + 1 + c = m + 1 + w:=by rw [← e3,Nat.add_right_comm]; rfl
    obtain ⟨d',dk,hd',_⟩:=h2 j (by rw [List.mem_range'_1]; omega)
    have Ou:Ext H0 H':=ex.Az e1 fun l hl=>Nat.ne_of_lt (Nat.lt_of_lt_of_le hl hsl)
    refine C5 (Ou.dict ht) (hd'.ext Ou) e4 (by omega) fun Av e8 e9=>?_
    exact kk _ _ ⟨e1.trans e8,j + 1,c,e7,by omega,e9,by rw [List.append_assoc]; exact e5,by omega⟩
  ·obtain ⟨e1,j,c,e2,e3,e4,e5,e6⟩:=hj
   have:c = 0:=by cases c with | zero=>rfl | succ c=>cases e2
   subst this
   rw [List.append_nil,List.nil_append] at e5
   subst e5
   exact ⟨zZ h8,k _ _ e1 (e3 ▸ e4) rfl Ha⟩
end Z5
section
variable {n:Nat} {σ σ':Loc} {H:Hp} {P:AP} {E:EP} {C:CF} {N B:LP} {T:AP}
theorem vN {H0:Hp} {t r d:AV} {m fl nl sl e:Nat} {ws:List Nat} {tab kvs:List (AK × AV)} (ht:dictOf H0 t = some tab) (hd:dictOf H0 d = some kvs) (ex:Ext H0 H) (hsl:H0.length <= sl) (hw:mz H0 tab kvs m ws e) (hs:Seen H sl (m + 1)) (hl:e <= 900) {kids:List AV} (hk:kids = (match getKey kvs (.s aD) with | some (.ah vs)=>vs | _=>[])) (k:∀ H' v,aL (· ≠ sl) H H' -> Seen H' sl e -> listOf H' v = some (ws.map rf) -> (∀ l,v = .dct l \/ v = .lst l -> H.length <= l) -> P v H'):WF (n + 3) eK [aR t r,fK fl nl sl,rf m,d,.ah kids] H P E :=
 bD (p:=fun p=>Z5.Gq p.1 p.2.1 p.2.2.1 p.2.2.2.1 p.2.2.2.2.1 p.2.2.2.2.2.1 p.2.2.2.2.2.2.1 p.2.2.2.2.2.2.2.1 p.2.2.2.2.2.2.2.2.1 p.2.2.2.2.2.2.2.2.2.1 p.2.2.2.2.2.2.2.2.2.2.1 p.2.2.2.2.2.2.2.2.2.2.2.1 p.2.2.2.2.2.2.2.2.2.2.2.2.1 p.2.2.2.2.2.2.2.2.2.2.2.2.2) Z5.tq (n,H,P,E,H0,t,r,d,m,fl,nl,sl,tab,kvs) e ws ht hd ex hsl hw hs hl kids hk k
end
end
end Mine
end
section
set_option maxRecDepth 10000
namespace Mine
noncomputable section
section
variable {n:Nat} {σ σ':Loc} {H:Hp} {P:AP} {E:EP} {C:CF} {N B:LP} {T:AP}
theorem s9 {r:Nm -> Option AV} {q:Nm} {v:AV} {ks:List Nm} (h:r q = some v):dN r (q :: ks) = (.s q,v) :: dN r ks:=by unfold dN; rw [List.filterMap_cons,h]; rfl
theorem xK {r:Nm -> Option AV} {q:Nm} {ks:List Nm} (h:r q = none):dN r (q :: ks) = dN r ks:=by unfold dN; rw [List.filterMap_cons,h]; rfl
theorem uo {wv:AV} {wk:List (AK × AV)} {Q:List (AK × AV) -> Hp -> Prop} (hd:dictOf H wv = some wk) (l:look σ ay = some wv) :
  ∀ (ks:List Nm) (acc:List (AK × AV)),ks.Nodup -> (∀ q ∈ ks,getKey acc (.s q) = none) -> Q (acc ++ dN (fun q=>getKey wk (.s q)) ks) H ->
   mq C σ (.var av) (.sub (.var ay) (.var av)) (.one av) [.cmp .In (.var av) (.var ay)] (ks.length + 1) (.seq (ks.map .str)) acc H Q
 | [],acc,_,_,h=>by rw [show dN (fun q=>getKey wk (.s q)) [] = [] from rfl,List.append_nil] at h; exact h
 | q :: ks,acc,hnd,ha,h=>by
  rw [List.nodup_cons] at hnd
  refine vr l ?_
  refine rS (k:=.s q) hd ?_
  cases hv:getKey wk (.s q) with
  | some v=>
   rw [s9 hv] at h
   refine vr l ?_
   refine Cj (i:=.s q) hd hv ?_
   show mq _ _ _ _ _ _ _ _ (ae acc (.s q) v) _ _
   rw [qx (ha q List.mem_cons_self)]
   refine uo hd l ks _ hnd.2 (fun q' hq'=>?_) (by rw [List.append_assoc]; exact h)
   rw [oG,ha q' (List.mem_cons_of_mem _ hq'),getKey_cons,if_neg fun x:AK.s q = AK.s q'=>hnd.1 (AK.s.inj x ▸ hq')]; rfl
  | none=>
   rw [xK hv] at h
   exact uo hd l ks _ hnd.2 (fun q' hq'=>ha q' (List.mem_cons_of_mem _ hq')) h
theorem k_handed {wv:AV} {wk:List (AK × AV)} {Q:List (AK × AV) -> Hp -> Prop} (hd:dictOf H wv = some wk) (l:look σ ay = some wv) (h:Q (handed wk) H) :
  ∃ k,k <= lim /\ mq C σ (.var av) (.sub (.var ay) (.var av)) (.one av) [.cmp .In (.var av) (.var ay)] k (.seq [.str cV,.str gA,.str ie,.str ia,.str d7,.str bI]) [] H Q :=
 ⟨dm.length + 1,by decide,uo hd l dm [] (by decide) (fun _ _=>rfl) h⟩
noncomputable def A2:TS:=.ite (.cmp .Gt (.bi .len (.var kj)) (.lit (.int (0)))) [.expr (.aF (.attr (.var bl) qy) bK [(.tup [(.var aE),(.var aJ)])]),.assign (.one cQ) (.wx (.var av) (.sub (.var ay) (.var av)) (.one av) (.ex (.lit (.tup [(.str cV),(.str gA),(.str ie),(.str ia),(.str d7),(.str bI)]))) [(.cmp .In (.var av) (.var ay))]),.expr (.aF (.var dE) rN [(.comp true (.tup [(.var jk),(.var aE),(.var bA),(.var cQ)]) (.one jk) (.rev (.var kj)) [])])] [.assign (.one cG) (.call eK [(.var aa),(.var bl),(.var aE),(.var ai),(.var i7)]),.expr (.aF (.attr (.var bl) lV) bK [(.new qz [(.ite (.cmp .Is (.var bA) (.lit .none)) (.lit (.str [])) (.var bA)),(.var aE),(.var aJ),(.var cG),(.var ay),(.call i6 [(.var aa),(.var ay)])])])]
noncomputable def jL:List TS:=[.assign (.many [ak,aJ,aK,bZ]) (.aF (.var dE) wh []),.assign (.many [aE,ai]) (.call dK [(.var aa),(.var bl),(.var ak)]),.assign (.one bA) (.call gH [(.var aK),(.call iO [(.var aa),(.var ai)])]),.assign (.one ay) (.call dY [(.var ai),(.var bZ)]),.assign (.one i7) (.call dC [(.var aa),(.var ai),(.lit (.str aD))]),.assign (.one kj) (.comp true (.var jk) (.one jk) (.ex (.var i7)) [(.call jH [(.var aa),(.var jk)])]),A2]
noncomputable def mO:TE:=.cmp .Gt (.bi .len (.var dE)) (.lit (.int (0)))
structure cX (H0 H:Hp) (m nb fl nl sl ll:Nat) (fs items:List AV):Prop where
 ext:Ext H0 H
 seen:Seen H sl m
 fields:H[fl]? = some (.list fs)
 Ai:fs.length <= m
 nodes:∃ ns,H[nl]? = some (.list ns) /\ ns.length <= nb
 line:H[ll]? = some (.list items.reverse)
structure Places (H0:Hp) (fl nl sl ll:Nat):Prop where
 f:H0.length <= fl
 n:H0.length <= nl
 s:H0.length <= sl
 l:H0.length <= ll
 fn:fl ≠ nl
 fs:fl ≠ sl
 fl:fl ≠ ll
 ns:nl ≠ sl
 nl:nl ≠ ll
 sl:sl ≠ ll
noncomputable abbrev eu (fl nl sl ll:Nat):Nat -> Prop:=fun l=>l ≠ fl /\ l ≠ nl /\ l ≠ sl /\ l ≠ ll /\ fl < l
theorem Iv {b:List Nat} (h:iI b):b.length <= 100:=Nat.le_trans h.1 (by decide)
theorem cX.new {H0:Hp} {m nb fl nl sl ll l:Nat} {fs items:List AV} (T:cX H0 H m nb fl nl sl ll fs items) (h:H.length <= l):eu fl nl sl ll l :=
 have lt:∀ {a o},H[a]? = some o -> a < l:=fun e=>Nat.lt_of_lt_of_le (lt_of_get e) h
 let ⟨_,_,q,_⟩:=T.seen
 let ⟨_,w,_⟩:=T.nodes
 ⟨Nat.ne_of_gt (lt T.fields),Nat.ne_of_gt (lt w),Nat.ne_of_gt (lt q),Nat.ne_of_gt (lt T.line),lt T.fields⟩
theorem cX.app {H0 X:Hp} {m nb fl nl sl ll:Nat} {fs items:List AV} (T:cX H0 H m nb fl nl sl ll fs items) (e:Ext H X):cX H0 X m nb fl nl sl ll fs items :=
 let ⟨it,sk,q,r⟩:=T.seen
 let ⟨ns,w,z⟩:=T.nodes
 ⟨T.ext.trans e,⟨it,sk,e _ _ q,r⟩,e _ _ T.fields,T.Ai,⟨ns,e _ _ w,z⟩,e _ _ T.line⟩
section
variable {H0:Hp} {t r:AV} {tab:List (AK × AV)} {fl nl sl ll:Nat}
theorem cX.pI {m nb:Nat} {fs items is':List AV} (T:cX H0 H m nb fl nl sl ll fs items) (pl:Places H0 fl nl sl ll):cX H0 (H.set ll (.list is'.reverse)) m nb fl nl sl ll fs is' :=
 let ⟨it,sk,q,r⟩:=T.seen
 let ⟨ns,w,z⟩:=T.nodes
 ⟨T.ext.set pl.l,⟨it,sk,(List.getElem?_set_ne (Ne.symm pl.sl)).trans q,r⟩,(List.getElem?_set_ne (Ne.symm pl.fl)).trans T.fields,T.Ai,⟨ns,(List.getElem?_set_ne (Ne.symm pl.nl)).trans w,z⟩,get_set T.line⟩
theorem cX.OW {m nb:Nat} {fs items ns':List AV} {o:aO} (T:cX H0 H m nb fl nl sl ll fs items) (pl:Places H0 fl nl sl ll) (h:H[nl]? = some o) {zQ:Nat} (hl:ns'.length <= zQ):cX H0 (H.set nl (.list ns')) m zQ fl nl sl ll fs items :=
 let ⟨it,sk,q,r⟩:=T.seen
 ⟨T.ext.set pl.n,⟨it,sk,(List.getElem?_set_ne pl.ns).trans q,r⟩,(List.getElem?_set_ne (Ne.symm pl.fn)).trans T.fields,T.Ai,⟨ns',get_set h,hl⟩,(List.getElem?_set_ne pl.nl).trans T.line⟩
theorem cX.OX {m nb:Nat} {fs items fs':List AV} (T:cX H0 H m nb fl nl sl ll fs items) (pl:Places H0 fl nl sl ll) (hl:fs'.length <= m):cX H0 (H.set fl (.list fs')) m nb fl nl sl ll fs' items :=
 let ⟨it,sk,q,r⟩:=T.seen
 let ⟨ns,w,z⟩:=T.nodes
 ⟨T.ext.set pl.f,⟨it,sk,(List.getElem?_set_ne pl.fs).trans q,r⟩,get_set T.fields,hl,⟨ns,(List.getElem?_set_ne pl.fn).trans w,z⟩,(List.getElem?_set_ne pl.fl).trans T.line⟩
theorem cX.G4 {X:Hp} {m m' nb:Nat} {fs items:List AV} (T:cX H0 H m nb fl nl sl ll fs items) (pl:Places H0 fl nl sl ll) (e:aL (· ≠ sl) H X) (s:Seen X sl m') (hm:m <= m') (hnb:nb <= zQ):cX H0 X m' zQ fl nl sl ll fs items :=
 let ⟨ns,w,z⟩:=T.nodes
 ⟨T.ext.Az e fun l h=>Nat.ne_of_lt (Nat.lt_of_lt_of_le h pl.s),s,e _ _ pl.fs T.fields,Nat.le_trans T.Ai hm,⟨ns,e _ _ pl.ns w,Nat.le_trans z hnb⟩,e _ _ (Ne.symm pl.sl) T.line⟩
noncomputable abbrev G1 (inner ks:List AV) (w full:AV) (nm:Option Nm) (d:AV) (m:Nat) (g:List (AK × AV)) (ab:Option Nat) (σ:Loc):Loc :=
 (kj,.ah inner) :: (i7,.ah ks) :: (ay,w) :: (bA,full) :: (ai,d) :: (aE,rf m) :: (bZ,.aj g) :: (aK,jE nm) :: (aJ,eB ab) :: (ak,rf m) :: σ
end
end
namespace Z6
noncomputable def Gq (n:Nat) (σ:Mine.Loc) (H:Mine.Hp) (E:Mine.EP) (N:Mine.LP) (B:Mine.LP) (T:Mine.AP) (H0:Mine.Hp) (t:Mine.AV) (r:Mine.AV) (tab:List (Mine.AK × Mine.AV)) (fl:Nat) (nl:Nat) (sl:Nat) (ll:Nat) (m:Nat) (nb:Nat) (ab:Option Nat) (nm:Option Mine.Nm) (p:Option Mine.Nm) (g:List (Mine.AK × Mine.AV)) (kvs:List (Mine.AK × Mine.AV)) (d:Mine.AV) (rest:List Mine.AV) (fs:List Mine.AV) (ks:List Mine.AV) (inner:List Mine.AV) (b:Bool):Prop:=∀ (pl:Places H0 fl nl sl ll) (ht:dictOf H0 t = some tab) (hh:Head H0 tab m d kvs) (hp:gf kvs p) (hnm:∀ a,nm = some a -> a.length <= 100) (hg:g.length <= 50) (hks:getKey kvs (.s aD) = none /\ ks = [] \/ getKey kvs (.s aD) = some (.ah ks)) (hin:∀ kid ∈ ks,∃ j d dk p,kid = rf j /\ cg H0 tab j d dk /\ gf dk p /\ p.isSome = b) (Bj:inner = cond b ks []) (j4:ks.length <= 8) (T0:cX H0 H m nb fl nl sl ll fs (jO m ab nm g :: rest)) (hm:m <= 900) (hrl:rest.length <= 1000) (l1:look σ aa = some (aR t r)) (l2:look σ bl = some (fK fl nl sl)) (l3:look σ dE = some (.lst ll)) (k:∀ H' w,cX H0 H' (m + 1) nb fl nl sl ll fs rest -> aL (eu fl nl sl ll) H H' -> dictOf H' w = some (putAll g kvs) -> vI (eu fl nl sl ll) w -> aH (WF (n + 5)) [A2] (G1 inner ks w (jE (longer nm p)) nm d m g ab σ) H' N B T E),aH (WF (n + 5)) jL σ H N B T E
noncomputable def kq:Nat × Mine.Loc × Mine.Hp × Mine.EP × Mine.LP × Mine.LP × Mine.AP × Mine.Hp × Mine.AV × Mine.AV × List (Mine.AK × Mine.AV) × Nat × Nat × Nat × Nat × Nat × Nat × Option Nat × Option Mine.Nm × Option Mine.Nm × List (Mine.AK × Mine.AV) × List (Mine.AK × Mine.AV) × Mine.AV × List Mine.AV × List Mine.AV × List Mine.AV × List Mine.AV × Bool:=cx fun p=>Gq p.1 p.2.1 p.2.2.1 p.2.2.2.1 p.2.2.2.2.1 p.2.2.2.2.2.1 p.2.2.2.2.2.2.1 p.2.2.2.2.2.2.2.1 p.2.2.2.2.2.2.2.2.1 p.2.2.2.2.2.2.2.2.2.1 p.2.2.2.2.2.2.2.2.2.2.1 p.2.2.2.2.2.2.2.2.2.2.2.1 p.2.2.2.2.2.2.2.2.2.2.2.2.1 p.2.2.2.2.2.2.2.2.2.2.2.2.2.1 p.2.2.2.2.2.2.2.2.2.2.2.2.2.2.1 p.2.2.2.2.2.2.2.2.2.2.2.2.2.2.2.1 p.2.2.2.2.2.2.2.2.2.2.2.2.2.2.2.2.1 p.2.2.2.2.2.2.2.2.2.2.2.2.2.2.2.2.2.1 p.2.2.2.2.2.2.2.2.2.2.2.2.2.2.2.2.2.2.1 p.2.2.2.2.2.2.2.2.2.2.2.2.2.2.2.2.2.2.2.1 p.2.2.2.2.2.2.2.2.2.2.2.2.2.2.2.2.2.2.2.2.1 p.2.2.2.2.2.2.2.2.2.2.2.2.2.2.2.2.2.2.2.2.2.1 p.2.2.2.2.2.2.2.2.2.2.2.2.2.2.2.2.2.2.2.2.2.2.1 p.2.2.2.2.2.2.2.2.2.2.2.2.2.2.2.2.2.2.2.2.2.2.2.1 p.2.2.2.2.2.2.2.2.2.2.2.2.2.2.2.2.2.2.2.2.2.2.2.2.1 p.2.2.2.2.2.2.2.2.2.2.2.2.2.2.2.2.2.2.2.2.2.2.2.2.2.1 p.2.2.2.2.2.2.2.2.2.2.2.2.2.2.2.2.2.2.2.2.2.2.2.2.2.2.1 p.2.2.2.2.2.2.2.2.2.2.2.2.2.2.2.2.2.2.2.2.2.2.2.2.2.2.2
noncomputable def n:=kq.1
noncomputable def σ:=kq.2.1
noncomputable def H:=kq.2.2.1
noncomputable def E:=kq.2.2.2.1
noncomputable def N:=kq.2.2.2.2.1
noncomputable def B:=kq.2.2.2.2.2.1
noncomputable def T:=kq.2.2.2.2.2.2.1
noncomputable def H0:=kq.2.2.2.2.2.2.2.1
noncomputable def t:=kq.2.2.2.2.2.2.2.2.1
noncomputable def r:=kq.2.2.2.2.2.2.2.2.2.1
noncomputable def tab:=kq.2.2.2.2.2.2.2.2.2.2.1
noncomputable def fl:=kq.2.2.2.2.2.2.2.2.2.2.2.1
noncomputable def nl:=kq.2.2.2.2.2.2.2.2.2.2.2.2.1
noncomputable def sl:=kq.2.2.2.2.2.2.2.2.2.2.2.2.2.1
noncomputable def ll:=kq.2.2.2.2.2.2.2.2.2.2.2.2.2.2.1
noncomputable def m:=kq.2.2.2.2.2.2.2.2.2.2.2.2.2.2.2.1
noncomputable def nb:=kq.2.2.2.2.2.2.2.2.2.2.2.2.2.2.2.2.1
noncomputable def ab:=kq.2.2.2.2.2.2.2.2.2.2.2.2.2.2.2.2.2.1
noncomputable def nm:=kq.2.2.2.2.2.2.2.2.2.2.2.2.2.2.2.2.2.2.1
noncomputable def p:=kq.2.2.2.2.2.2.2.2.2.2.2.2.2.2.2.2.2.2.2.1
noncomputable def g:=kq.2.2.2.2.2.2.2.2.2.2.2.2.2.2.2.2.2.2.2.2.1
noncomputable def kvs:=kq.2.2.2.2.2.2.2.2.2.2.2.2.2.2.2.2.2.2.2.2.2.1
noncomputable def d:=kq.2.2.2.2.2.2.2.2.2.2.2.2.2.2.2.2.2.2.2.2.2.2.1
noncomputable def rest:=kq.2.2.2.2.2.2.2.2.2.2.2.2.2.2.2.2.2.2.2.2.2.2.2.1
noncomputable def fs:=kq.2.2.2.2.2.2.2.2.2.2.2.2.2.2.2.2.2.2.2.2.2.2.2.2.1
noncomputable def ks:=kq.2.2.2.2.2.2.2.2.2.2.2.2.2.2.2.2.2.2.2.2.2.2.2.2.2.1
noncomputable def inner:=kq.2.2.2.2.2.2.2.2.2.2.2.2.2.2.2.2.2.2.2.2.2.2.2.2.2.2.1
noncomputable def b:=kq.2.2.2.2.2.2.2.2.2.2.2.2.2.2.2.2.2.2.2.2.2.2.2.2.2.2.2
theorem tq:Gq n σ H E N B T H0 t r tab fl nl sl ll m nb ab nm p g kvs d rest fs ks inner b:=by
 intro pl ht hh hp hnm hg hks hin Bj j4 T0 hm hrl l1 l2 l3 k
 refine vr l3 ?_
 refine J3 T0.line ?_
 have hl:=T0.line
 rw [List.reverse_cons] at hl
 refine G6 hl (by rw [List.length_reverse]; exact Nat.lt_of_le_of_lt hrl (by decide)) ?_
 have T1:=T0.pI (is':=rest) pl
 have u0:aL (eu fl nl sl ll) H (H.set ll (.list rest.reverse)):=(aL.refl _).set (fun h=>h.2.2.2.1 rfl)
 clear hl
 generalize H.set ll (.list rest.reverse) = H1 at *
 refine vr l1 ?_
 refine vr l2 ?_
 refine C5 (T1.ext.dict ht) (hh.node.ext T1.ext) T1.seen (Nat.le_trans hm (by decide)) fun H2 je Cg=>?_
 have T2:=T1.G4 pl je Cg (Nat.le_succ m) (Nat.le_refl nb)
 have mP:aL (eu fl nl sl ll) H H2:=u0.trans (je.mono fun l h=>h.2.2.1)
 clear u0 je T1 Cg T0
 refine vr l1 ?_
 refine sQ (T2.ext.dict hh.2.1.dict) hp ?_
 refine EX hnm (fun a ha=>Iv (hp.2 a ha)) ?_
 refine k_with (hh.2.1.ext T2.ext) hh.2.2.1 ⟨Nat.le_trans hg (by decide),Nat.le_trans hh.2.2.2 (by decide)⟩ ?_
 have T4:=T2.app (Ext.app (X:=[.dict false (putAll g kvs)]))
 have Qv:dictOf (H2 ++ [.dict false (putAll g kvs)]) (.dct H2.length) = some (putAll g kvs):=fg getL
 have xD:vI (eu fl nl sl ll) (.dct H2.length):=fun l h=>h.elim (fun h=>T2.new (Nat.le_of_eq (AV.dct.inj h))) fun h=>nomatch h
 have qS:aL (eu fl nl sl ll) H (H2 ++ [.dict false (putAll g kvs)]):=mP.app
 clear T2 mP
 generalize H2 ++ [.dict false (putAll g kvs)] = H4 at *
 generalize AV.dct H2.length = w at *
 refine vr l1 ?_
 have main:∀ {P:AP} {E:EP},P (.ah ks) H4 -> WF (n + 5) dC [aR t r,d,.str aD] H4 P E:=fun k=>hks.elim (fun h1=>pS (T4.ext.dict hh.2.1.dict) (by rw [h1.1]; rfl) (h1.2 ▸ k)) fun h1=>xq (T4.ext.dict hh.2.1.dict) (by rw [h1]; rfl) k
 refine main ?_
 refine jh (hl:=Nat.lt_of_le_of_lt j4 (by decide)) (I:=fun X=>X = H4) (f:=id) (p:=fun _=>b) (fun v hv X K L hH k1 k0=>?_) (aZ _) rfl fun X hH=>?_
 ·subst hH
  obtain ⟨j,d',dk,p',rfl,hd',QC,hb⟩:=hin v hv
  refine vr l1 ?_
  refine Bc (T4.ext.dict ht) (hd'.ext T4.ext) QC ?_
  rw [hb]
  exact cJ (fun q=>k1 q _ rfl) fun q=>k0 q _ rfl
 ·subst hH
  have e:(ks.filter fun _=>b).map id = inner:=by
   rw [Bj,List.map_id]; cases b
   ·exact List.filter_eq_nil_iff.2 fun _ _ h=>nomatch h
   ·exact List.filter_eq_self.2 fun _ _=>rfl
  rw [e]
  exact ⟨by rw [← e,List.map_id]; exact Nat.le_trans (List.length_filter_le ..) (Nat.le_trans j4 (by decide)),k _ w T4 qS Qv xD⟩
end Z6
section
variable {n:Nat} {σ σ':Loc} {H:Hp} {P:AP} {E:EP} {C:CF} {N B:LP} {T:AP}
section
variable {H0:Hp} {t r:AV} {tab:List (AK × AV)} {fl nl sl ll:Nat}
theorem C3 {m nb:Nat} {ab:Option Nat} {nm p:Option Nm} {g kvs:List (AK × AV)} {d:AV} {rest fs ks inner:List AV} {b:Bool} (pl:Places H0 fl nl sl ll) (ht:dictOf H0 t = some tab) (hh:Head H0 tab m d kvs) (hp:gf kvs p) (hnm:∀ a,nm = some a -> a.length <= 100) (hg:g.length <= 50) (hks:getKey kvs (.s aD) = none /\ ks = [] \/ getKey kvs (.s aD) = some (.ah ks)) (hin:∀ kid ∈ ks,∃ j d dk p,kid = rf j /\ cg H0 tab j d dk /\ gf dk p /\ p.isSome = b) (Bj:inner = cond b ks []) (j4:ks.length <= 8) (T0:cX H0 H m nb fl nl sl ll fs (jO m ab nm g :: rest)) (hm:m <= 900) (hrl:rest.length <= 1000) (l1:look σ aa = some (aR t r)) (l2:look σ bl = some (fK fl nl sl)) (l3:look σ dE = some (.lst ll)) (k:∀ H' w,cX H0 H' (m + 1) nb fl nl sl ll fs rest -> aL (eu fl nl sl ll) H H' -> dictOf H' w = some (putAll g kvs) -> vI (eu fl nl sl ll) w -> aH (WF (n + 5)) [A2] (G1 inner ks w (jE (longer nm p)) nm d m g ab σ) H' N B T E):aH (WF (n + 5)) jL σ H N B T E :=
 bD (p:=fun p=>Z6.Gq p.1 p.2.1 p.2.2.1 p.2.2.2.1 p.2.2.2.2.1 p.2.2.2.2.2.1 p.2.2.2.2.2.2.1 p.2.2.2.2.2.2.2.1 p.2.2.2.2.2.2.2.2.1 p.2.2.2.2.2.2.2.2.2.1 p.2.2.2.2.2.2.2.2.2.2.1 p.2.2.2.2.2.2.2.2.2.2.2.1 p.2.2.2.2.2.2.2.2.2.2.2.2.1 p.2.2.2.2.2.2.2.2.2.2.2.2.2.1 p.2.2.2.2.2.2.2.2.2.2.2.2.2.2.1 p.2.2.2.2.2.2.2.2.2.2.2.2.2.2.2.1 p.2.2.2.2.2.2.2.2.2.2.2.2.2.2.2.2.1 p.2.2.2.2.2.2.2.2.2.2.2.2.2.2.2.2.2.1 p.2.2.2.2.2.2.2.2.2.2.2.2.2.2.2.2.2.2.1 p.2.2.2.2.2.2.2.2.2.2.2.2.2.2.2.2.2.2.2.1 p.2.2.2.2.2.2.2.2.2.2.2.2.2.2.2.2.2.2.2.2.1 p.2.2.2.2.2.2.2.2.2.2.2.2.2.2.2.2.2.2.2.2.2.1 p.2.2.2.2.2.2.2.2.2.2.2.2.2.2.2.2.2.2.2.2.2.2.1 p.2.2.2.2.2.2.2.2.2.2.2.2.2.2.2.2.2.2.2.2.2.2.2.1 p.2.2.2.2.2.2.2.2.2.2.2.2.2.2.2.2.2.2.2.2.2.2.2.2.1 p.2.2.2.2.2.2.2.2.2.2.2.2.2.2.2.2.2.2.2.2.2.2.2.2.2.1 p.2.2.2.2.2.2.2.2.2.2.2.2.2.2.2.2.2.2.2.2.2.2.2.2.2.2.1 p.2.2.2.2.2.2.2.2.2.2.2.2.2.2.2.2.2.2.2.2.2.2.2.2.2.2.2) Z6.tq (n,σ,H,E,N,B,T,H0,t,r,tab,fl,nl,sl,ll,m,nb,ab,nm,p,g,kvs,d,rest,fs,ks,inner,b) pl ht hh hp hnm hg hks hin Bj j4 T0 hm hrl l1 l2 l3 k
noncomputable def dH (kvs:List (AK × AV)):List AV:=match getKey kvs (.s aD) with | some (.ah vs)=>vs | _=>[]
end
end
namespace Z7
noncomputable def Gq (H0:Mine.Hp) (tab:List (Mine.AK × Mine.AV)) (kvs:List (Mine.AK × Mine.AV)) (m:Nat):Prop:=∀ (e:Nat) (ws:List Nat) (h:mz H0 tab kvs m ws e),(getKey kvs (.s aD) = none /\ dH kvs = [] \/ getKey kvs (.s aD) = some (.ah (dH kvs))) /\
  (∀ kid ∈ dH kvs,∃ j d dk p,kid = rf j /\ cg H0 tab j d dk /\ gf dk p /\ p.isSome = false) /\ (dH kvs).length <= 8
noncomputable def kq:Mine.Hp × List (Mine.AK × Mine.AV) × List (Mine.AK × Mine.AV) × Nat:=cx fun p=>Gq p.1 p.2.1 p.2.2.1 p.2.2.2
noncomputable def H0:=kq.1
noncomputable def tab:=kq.2.1
noncomputable def kvs:=kq.2.2.1
noncomputable def m:=kq.2.2.2
theorem tq:Gq H0 tab kvs m:=by
 intro e ws h
 have no:getKey kvs (.s aD) = none -> dH kvs = []:=fun h=>by unfold dH; rw [h]
 have empty:getKey kvs (.s aD) = none -> (getKey kvs (.s aD) = none /\ dH kvs = [] \/ getKey kvs (.s aD) = some (.ah (dH kvs))) /\ (∀ kid ∈ dH kvs,∃ j d dk p,kid = rf j /\ cg H0 tab j d dk /\ gf dk p /\ p.isSome = false) /\ (dH kvs).length <= 8:=fun h1=>
  ⟨.inl ⟨h1,no h1⟩,fun kid h=>(nomatch (no h1 ▸ h:kid ∈ [])),by rw [no h1]; exact Nat.zero_le _⟩
 cases h with
 | own h1 h2=>exact empty h1
 | bare h1 h2=>exact empty h1
 | kids w h0 h8 h1 h2=>
  have e:dH kvs = (List.range' (m + 1) w).map rf:=by unfold dH; rw [h1]
  rw [e]
  refine ⟨.inr h1,fun kid hk=>?_,by rw [List.length_map,List.length_range']; exact h8⟩
  obtain ⟨j,hj,rfl⟩:=List.mem_map.1 hk
  obtain ⟨d,dk,h3,h4⟩:=h2 j hj
  exact ⟨j,d,dk,none,rfl,h3,h4,rfl⟩
end Z7
section
variable {n:Nat} {σ σ':Loc} {H:Hp} {P:AP} {E:EP} {C:CF} {N B:LP} {T:AP}
section
variable {H0:Hp} {t r:AV} {tab:List (AK × AV)} {fl nl sl ll:Nat}
theorem mz.Kd {kvs:List (AK × AV)} {m e:Nat} {ws:List Nat} (h:mz H0 tab kvs m ws e):(getKey kvs (.s aD) = none /\ dH kvs = [] \/ getKey kvs (.s aD) = some (.ah (dH kvs))) /\
  (∀ kid ∈ dH kvs,∃ j d dk p,kid = rf j /\ cg H0 tab j d dk /\ gf dk p /\ p.isSome = false) /\ (dH kvs).length <= 8 :=
 bD (p:=fun p=>Z7.Gq p.1 p.2.1 p.2.2.1 p.2.2.2) Z7.tq (H0,tab,kvs,m) e ws h
theorem ur {m nb k:Nat} {fs items:List AV} {x:AV} (T0:cX H0 H m nb fl nl sl ll fs (x :: items)) (hi:items.length <= 1000) (l3:look σ dE = some (.lst ll)) (h:aH C jL σ H (fun σ H=>gF C mO jL k σ H N T E) N T E):gF C mO jL (k + 1) σ H N T E:=by
 refine vr l3 ?_
 refine kF (dG T0.line) (by rw [List.length_reverse]; exact Nat.le_trans (Nat.succ_le_succ hi) (by decide)) ?_
 refine dD (fun _=>h) fun q=>(q ?_).elim
 rw [List.length_reverse]; exact Int.natCast_pos.mpr (Nat.succ_pos _)
theorem sR (pl:Places H0 fl nl sl ll) (ht:dictOf H0 t = some tab) {m f:Nat} {ab:Option Nat} {nm p:Option Nm} {g kvs:List (AK × AV)} {d:AV} {ks:List Nat} {rest fs:List AV} (hh:Head H0 tab m d kvs) (hp:gf kvs p) (hnm:∀ a,nm = some a -> a.length <= 100) (hg:g.length <= 50)
  (Bh:getKey kvs (.s aD) = some (.ah (ks.map rf))) (hne:ks ≠ []) (j4:ks.length <= 8) (hin:∀ j,j ∈ ks -> ∃ d dk b,cg H0 tab j d dk /\ gf dk (some b)) (hm:m <= 900) (hrl:rest.length <= 900) (T0:cX H0 H m m fl nl sl ll fs (jO m ab nm g :: rest))
  (l1:look σ aa = some (aR t r)) (l2:look σ bl = some (fK fl nl sl)) (l3:look σ dE = some (.lst ll))
  (k:∀ σ' H',cX H0 H' (m + 1) (m + 1) fl nl sl ll fs (ks.map (fun k=>jO k (some m) (longer nm p) (handed (putAll g kvs))) ++ rest) -> aL (eu fl nl sl ll) H H' -> look σ' aa = some (aR t r) -> look σ' bl = some (fK fl nl sl) -> look σ' dE = some (.lst ll) -> gF (WF (n + 5)) mO jL f σ' H' N T E) :
  gF (WF (n + 5)) mO jL (f + 1) σ H N T E:=by
 have E7:(ks.map rf).length <= 8:=by rw [List.length_map]; exact j4
 refine ur T0 (Nat.le_trans hrl (by decide)) l3 ?_
 refine C3 pl ht hh hp hnm hg (ks:=ks.map rf) (.inr Bh) (fun kid hk=>?_) (b:=true) (inner:=ks.map rf) rfl E7 T0 hm (Nat.le_trans hrl (by decide)) l1 l2 l3 fun H' w T1 u0 Di xD=>?_
 ·obtain ⟨j,hj,rfl⟩:=List.mem_map.1 hk
  obtain ⟨d,dk,b,h3,h4⟩:=hin j hj
  exact ⟨j,d,dk,some b,rfl,h3,h4,rfl⟩
 refine kF rfl (Nat.le_trans E7 (by decide)) ?_
 refine dD (fun _=>?_) fun q=>(q (by rw [List.length_map]; exact Int.natCast_pos.mpr (List.length_pos_iff.2 hne))).elim
 obtain ⟨ns,hns,hnl⟩:=T1.nodes
 refine vr l2 ?_
 refine sL hns ?_
 refine fj hns (Nat.lt_of_le_of_lt (Nat.le_trans hnl hm) (by decide)) ?_
 have T2:=T1.OW (ns':=ns ++ [.tup [rf m,eB ab]]) (zQ:=m + 1) pl hns (by rw [List.length_append]; exact Nat.succ_le_succ hnl)
 have je:aL (eu fl nl sl ll) H (H'.set nl (.list (ns ++ [.tup [rf m,eB ab]]))):=u0.set fun h=>h.2.1 rfl
 have Dh:dictOf (H'.set nl (.list (ns ++ [.tup [rf m,eB ab]]))) w = some (putAll g kvs):=((aL.refl H').set fun h=>h.2.1 rfl:aL (eu fl nl sl ll) H' _).dict xD Di
 clear u0 T1 hns Di
 generalize H'.set nl (.list (ns ++ [.tup [rf m,eB ab]])) = H2 at *
 refine k_handed Dh rfl ⟨Nat.le_trans xJ (by decide),?_⟩
 refine vr l3 ?_
 refine Qe T2.line ?_
 refine comp_map (hl:=by rw [List.length_reverse]; exact few j4) (I:=fun X=>X = H2) (f:=fun kid=>.tup [kid,rf m,jE (longer nm p),.aj (handed (putAll g kvs))]) (fun v hv X K hX k=>k _ hX) (aZ _) rfl fun X hX=>?_
 subst hX
 have e1:rest.reverse ++ (ks.map rf).reverse.map (fun kid=>AV.tup [kid,rf m,jE (longer nm p),.aj (handed (putAll g kvs))]) = (ks.map (fun k=>jO k (some m) (longer nm p) (handed (putAll g kvs))) ++ rest).reverse:=by
  rw [List.reverse_append,← List.map_reverse,← List.map_reverse,List.map_map]; rfl
 have e2:((ks.map rf).reverse.map (fun kid=>AV.tup [kid,rf m,jE (longer nm p),.aj (handed (putAll g kvs))])).length <= 8:=by rw [List.length_map,List.length_reverse]; exact E7
 refine ⟨Nat.le_trans e2 (by decide),?_⟩
 refine Ey T2.line (by rw [List.length_reverse]; exact Nat.le_trans (Nat.add_le_add hrl e2) (by decide)) ?_
 rw [e1]
 exact k _ _ (T2.pI pl) (je.set fun h=>h.2.2.2.1 rfl) l1 l2 l3
theorem OL {e m f e1 r:Nat} (hn:e - m <= f) (he:e <= 900) (h1:e1 + r <= e) (h2:m + 1 <= e1):(∃ f',f = f' + 1 /\ e - e1 <= f') /\ r <= 900 /\ m <= 900 /\ e1 <= 900 /\ m < 4096 :=
 have a:e1 <= e:=Nat.le_trans (Nat.le_add_right _ _) h1
 have b:m + 1 <= e:=Nat.le_trans h2 a
 ⟨⟨f - 1,(Nat.succ_pred_eq_of_pos (Nat.lt_of_lt_of_le (Nat.sub_pos_of_lt b) hn)).symm,Nat.le_trans (Nat.sub_le_sub_left h2 e) (Nat.sub_le_sub_right hn 1)⟩,
  Nat.le_trans (Nat.le_trans (Nat.le_add_left _ _) h1) he,Nat.le_trans (Nat.le_of_succ_le b) he,Nat.le_trans a he,Nat.lt_of_lt_of_le b (Nat.le_trans he (by decide))⟩
theorem Kl (pl:Places H0 fl nl sl ll) (ht:dictOf H0 t = some tab) {m e:Nat} {items:List AV} {ls:List Lf} (hw:Walks H0 tab m items ls e):∀ (f:Nat) (σ:Loc) (H:Hp) (fs:List AV),e - m <= f -> e <= 900 -> cX H0 H m m fl nl sl ll fs items ->
  look σ aa = some (aR t r) -> look σ bl = some (fK fl nl sl) -> look σ dE = some (.lst ll) ->
  (∀ σ' H' gs,look σ' bl = some (fK fl nl sl) -> Ext H0 H' -> aL (eu fl nl sl ll) H H' -> H'[fl]? = some (.list (fs ++ gs)) -> bL (jr (eu fl nl sl ll) H') ls gs -> N σ' H') -> gF (WF (n + 5)) mO jL (f + 1) σ H N T E:=by
 induction hw with
 | nil=>
  intro f σ H fs hn he T0 l1 l2 l3 k
  refine vr l3 ?_
  refine kF (dG T0.line) (by decide) ?_
  exact k σ H [] l2 T0.ext (.refl _) (by rw [List.append_nil]; exact T0.fields) .nil
 | @leaf m ab nm p g kvs d lf e1 rest ls e hh hp hnm hg E4 hname hnum hab oW jQ hrest ih=>
  intro f σ H fs hn he T0 l1 l2 l3 k
  have h1:=hrest.le
  have h2:=E4.le
  obtain ⟨hk1,hk2,QI⟩:=E4.Kd
  obtain ⟨⟨f,rfl,hf⟩,hr,hm,hm1,QG⟩:=OL hn he h1 h2.1
  refine ur T0 (Nat.le_trans hr (by decide)) l3 ?_
  refine C3 pl ht hh hp hnm hg hk1 hk2 (b:=false) (inner:=[]) rfl QI T0 hm (Nat.le_trans hr (by decide)) l1 l2 l3 fun H' w T1 u0 Di xD=>?_
  refine kF rfl (by decide) ?_
  refine vr l1 ?_
  refine vr l2 ?_
  refine vN ht hh.2.1.dict T1.ext pl.s E4 T1.seen hm1 rfl fun H2 v je Cg hv2 NY=>?_
  have T2:=T1.G4 (zQ:=e1) pl je Cg h2.1 (Nat.le_of_succ_le h2.1)
  have Dh:dictOf H2 w = some (putAll g kvs):=je.dict (fun l h=>(xD l h).2.2.1) Di
  have mP:aL (eu fl nl sl ll) H H2:=u0.trans (je.mono fun l h=>h.2.2.1)
  have KC:vI (eu fl nl sl ll) v:=fun l h=>T1.new (NY l h)
  have fin:∀ H3,Ext H2 H3 -> ∀ σ3,look σ3 aa = some (aR t r) -> look σ3 bl = some (fK fl nl sl) -> look σ3 dE = some (.lst ll) ->
    gF (WF (n + 5)) mO jL (f + 1) σ3 (H3.set fl (.list (fs ++ [fld (.str lf.name) (rf m) (eB ab) v w (.str (kd lf))]))) N T E:=by
   intro H3 ml σ3 b1 b2 b3
   have qS:aL (eu fl nl sl ll) H2 (H3.set fl (.list (fs ++ [fld (.str lf.name) (rf m) (eB ab) v w (.str (kd lf))]))):=ml.HH.set fun h=>h.1 rfl
   have Aj:jr (eu fl nl sl ll) (H3.set fl (.list (fs ++ [fld (.str lf.name) (rf m) (eB ab) v w (.str (kd lf))]))) lf (fld (.str lf.name) (rf m) (eB ab) v w (.str (kd lf))) :=
    ⟨v,w,_,by rw [hnum,hab],qS.list KC hv2,qS.dict xD Dh,oW,KC,xD⟩
   refine ih f σ3 _ _ hf he ((T2.app ml).OX pl (by rw [List.length_append]; exact Nat.le_trans (Nat.succ_le_succ T0.Ai) h2.1)) b1 b2 b3 fun σ' H' gs c1 c2 c3 c4 c5=>?_
   exact k σ' H' (_ :: gs) c1 c2 (mP.trans (qS.trans c3)) (by rw [c4,List.append_assoc]; rfl) (.cons (Aj.ext c3) c5)
  have hfl:fs.length < lim:=Nat.lt_of_le_of_lt T0.Ai QG
  clear u0 je T1 ih k Cg mP NY Di
  refine vr l2 ?_
  refine sL T2.fields ?_
  cases hL:longer nm p with
  | none=>
   rw [hname,hL] at fin
   refine vr l1 ?_
   refine qT Dh oW.1 jQ oW.2.1 fun H3 ml=>?_
   refine fj (ml _ _ T2.fields) hfl ?_
   exact fin H3 ml _ l1 l2 l3
  | some x=>
   rw [hname,hL] at fin
   refine vr l1 ?_
   refine qT Dh oW.1 jQ oW.2.1 fun H3 ml=>?_
   refine fj (ml _ _ T2.fields) hfl ?_
   exact fin H3 ml _ l1 l2 l3
 | @node m ab nm p g kvs d ks rest ls e hh hp hnm hg Bh hne j4 hin hrest ih=>
  intro f σ H fs hn he T0 l1 l2 l3 k
  have h1:=hrest.le
  have RJ:0 < ks.length:=List.length_pos_iff.2 hne
  rw [List.length_append,List.length_map] at h1
  obtain ⟨⟨f,rfl,hf⟩,hr,hm,_,_⟩:=OL hn he h1 (Nat.le_refl _)
  refine sR pl ht hh hp hnm hg Bh hne j4 hin hm (Nat.le_trans (Nat.le_add_left _ _) hr) T0 l1 l2 l3 fun σ' H' T1 kp a1 a2 a3=>?_
  exact ih f σ' H' fs hf he T1 a1 a2 a3 fun GX Av gs c1 c2 c3 c4 c5=>k GX Av gs c1 c2 (kp.trans c3) c4 c5
end
end
end
end Mine
end
section
set_option maxRecDepth 10000
namespace Mine
noncomputable section
section
variable {n:Nat} {σ σ':Loc} {H:Hp} {P:AP} {E:EP} {C:CF} {N B:LP} {T:AP}
structure j0 (H:Hp) (t r:AV) (tab fk:List (AK × AV)):Prop where
 t:dictOf H t = some tab
 r:∃ rk,dictOf H r = some rk /\ getKey rk (.s fT) = some (rf 1)
 root:∃ rt,getKey tab (.i 1) = some (.tup [.int 0,.aj rt]) /\ (getKey rt (.s a9) = some (.aj fk) \/ (∃ M:Nat,getKey rt (.s a9) = some (rf M) /\ getKey tab (.i M) = some (.tup [.int 0,.aj fk])) \/ (getKey rt (.s a9) = none /\ fk = []))
theorem j0.ext {A:Hp} {t r:AV} {tab fk:List (AK × AV)} (h:j0 A t r tab fk) (e:Ext A H):j0 H t r tab fk:=⟨e.dict h.t,let ⟨rk,h2,h3⟩:=h.r; ⟨rk,e.dict h2,h3⟩,h.root⟩
theorem Kg {t r:AV} {tab rk rt:List (AK × AV)} (ht:dictOf H t = some tab) (hr:dictOf H r = some rk) (h1:getKey rk (.s fT) = some (rf 1)) (h2:getKey tab (.i 1) = some (.tup [.int 0,.aj rt])) (k:P (.aj rt) H) :
  WF (n + 3) l6 [aR t r] H P E:=by
 refine wf vX rfl ?_
 refine cC ⟨rfl,rfl⟩ ?_
 refine xw hr h1 ht h2 rfl rfl ⟨rfl,?_⟩
 exact k
theorem vc {t r:AV} {tab fk:List (AK × AV)} (hf:j0 H t r tab fk) (k:P (.aj fk) H):WF (n + 4) mK [aR t r] H P E:=by
 obtain ⟨h1,⟨rk,h2,h3⟩,rt,h4,h5⟩:=hf
 refine wf BE rfl ?_
 refine cC ⟨rfl,rfl⟩ ?_
 refine cC ⟨rfl,rfl⟩ ?_
 refine Kg h1 h2 h3 h4 ?_
 rcases h5 with h5 | ⟨M,h5,h6⟩ | ⟨h5,rfl⟩
 ·refine k_get (kvs:=rt) (w:=.aj fk) rfl (by rw [h5]; rfl) rfl rfl ⟨rfl,k⟩
 ·refine xw (kvs:=rt) rfl h5 h1 h6 rfl rfl ⟨rfl,k⟩
 ·refine k_get (kvs:=rt) (w:=.none) rfl (by rw [h5]; rfl) rfl rfl ⟨rfl,k⟩
noncomputable abbrev rD (k:Nat):AV:=jO k none none []
theorem jr.imp {p q:Nat -> Prop} {lf:Lf} {f:AV} (h:jr p H lf f) (k:∀ l,p l -> q l):jr q H lf f:=let ⟨ws,w,wk,q1,q2,q3,q4,q5,q6⟩:=h; ⟨ws,w,wk,q1,q2,q3,q4,fun l h=>k l (q5 l h),fun l h=>k l (q6 l h)⟩
end
namespace Z8
noncomputable def Gq (n:Nat) (H:Mine.Hp) (P:Mine.AP) (E:Mine.EP) (t:Mine.AV) (r:Mine.AV) (tab:List (Mine.AK × Mine.AV)) (fk:List (Mine.AK × Mine.AV)) (ks:List Nat):Prop:=∀ (hf:j0 H t r tab fk) (hk:getKey fk (.s aN) = none /\ ks = [] \/ getKey fk (.s aN) = some (.ah (ks.map rf))) (j4:ks.length <= 98) (k:∀ σ H1 fl nl sl ll (N:LP),(∀ σ' H' v,look σ' bl = some v -> P v H' -> N σ' H') -> Places H fl nl sl ll -> H.length <= fl -> cX H H1 2 2 fl nl sl ll [] (ks.map rD) -> look σ aa = some (aR t r) -> look σ bl = some (fK fl nl sl) -> look σ dE = some (.lst ll) ->
   ∃ k,gF (WF (n + 5)) mO jL k σ H1 N P E),WF (n + 6) eG [aR t r] H P E
noncomputable def kq:Nat × Mine.Hp × Mine.AP × Mine.EP × Mine.AV × Mine.AV × List (Mine.AK × Mine.AV) × List (Mine.AK × Mine.AV) × List Nat:=cx fun p=>Gq p.1 p.2.1 p.2.2.1 p.2.2.2.1 p.2.2.2.2.1 p.2.2.2.2.2.1 p.2.2.2.2.2.2.1 p.2.2.2.2.2.2.2.1 p.2.2.2.2.2.2.2.2
noncomputable def n:=kq.1
noncomputable def H:=kq.2.1
noncomputable def P:=kq.2.2.1
noncomputable def E:=kq.2.2.2.1
noncomputable def t:=kq.2.2.2.2.1
noncomputable def r:=kq.2.2.2.2.2.1
noncomputable def tab:=kq.2.2.2.2.2.2.1
noncomputable def fk:=kq.2.2.2.2.2.2.2.1
noncomputable def ks:=kq.2.2.2.2.2.2.2.2
theorem tq:Gq n H P E t r tab fk ks:=by
 intro hf hk j4 k
 refine wf nG rfl ?_
 have vt:Ext H (H ++ [.list [],.list [],.dict true []]):=.app
 have e0:((H ++ [.list []]) ++ [.list []]) ++ [.dict true []] = H ++ [.list [],.list [],.dict true []]:=by rw [List.append_assoc,List.append_assoc]; rfl
 show runs _ _ _ (((H ++ [aO.list []]) ++ [aO.list []]) ++ [aO.dict true []]) _ _
 rw [e0,List.length_append (as:=H ++ [aO.list []]),List.length_append]
 refine vc (hf.ext vt) ?_
 have main:∀ {P:AP} {E:EP},P (.ah (ks.map rf)) (H ++ [.list [],.list [],.dict true []]) -> WF (n + 5) dC [aR t r,.aj fk,.str aN] (H ++ [.list [],.list [],.dict true []]) P E:=fun k=>hk.elim (fun h1=>pS rfl (by rw [h1.1]; rfl) (by rw [h1.2] at k; exact k)) fun h1=>xq rfl (by rw [h1]; rfl) k
 refine main ?_
 refine comp_map (hl:=by rw [List.length_reverse,List.length_map]; exact Nat.lt_of_le_of_lt j4 (by decide)) (I:=fun X=>X = H ++ [.list [],.list [],.dict true []]) (f:=fun v=>.tup [v,.none,.none,.aj []]) (fun v hv X K hX k=>k _ hX) (aZ _) rfl fun X hX=>?_
 subst hX
 have e1:(ks.map rf).reverse.map (fun v=>AV.tup [v,.none,.none,.aj []]) = (ks.map rD).reverse:=by
  rw [← List.map_reverse,← List.map_reverse,List.map_map]; rfl
 rw [e1]
 refine ⟨by rw [List.length_reverse,List.length_map]; exact Nat.le_trans j4 (by decide),?_⟩
 have Bw:∀ i o,[aO.list [],.list [],.dict true [],.list (ks.map rD).reverse][i]? = some o -> ((H ++ [.list [],.list [],.dict true []]) ++ [.list (ks.map rD).reverse])[H.length + i]? = some o:=fun i o e=>by
  rw [List.append_assoc,List.getElem?_append_right (Nat.le_add_right ..),Nat.add_sub_cancel_left]; exact e
 have KN:(H ++ [aO.list [],.list [],.dict true []]).length = H.length + 3:=List.length_append
 have ne:∀ {a b:Nat},a ≠ b -> H.length + a ≠ H.length + b:=fun h e=>h (Nat.add_left_cancel e)
 refine k _ _ (H.length + 0) (H.length + 1) (H.length + 2) (H.length + 3) _ (fun σ' H' v h1 h2=>vr h1 h2) ⟨Nat.le_add_right ..,Nat.le_add_right ..,Nat.le_add_right ..,Nat.le_add_right ..,ne (by decide),ne (by decide),ne (by decide),ne (by decide),ne (by decide),ne (by decide)⟩ (Nat.le_refl _)
   ⟨vt.BW,⟨true,[],Bw 2 _ rfl,fun _ _=>rfl,Nat.zero_le _,fun j a b=>absurd (Nat.lt_of_lt_of_le b a) (Nat.lt_irrefl _)⟩,Bw 0 _ rfl,Nat.zero_le _,⟨[],Bw 1 _ rfl,Nat.zero_le _⟩,Bw 3 _ rfl⟩ rfl rfl (congrArg (fun l=>some (AV.lst l)) KN)
end Z8
section
variable {n:Nat} {σ σ':Loc} {H:Hp} {P:AP} {E:EP} {C:CF} {N B:LP} {T:AP}
theorem z0 {t r:AV} {tab fk:List (AK × AV)} {ks:List Nat} (hf:j0 H t r tab fk) (hk:getKey fk (.s aN) = none /\ ks = [] \/ getKey fk (.s aN) = some (.ah (ks.map rf))) (j4:ks.length <= 98) (k:∀ σ H1 fl nl sl ll (N:LP),(∀ σ' H' v,look σ' bl = some v -> P v H' -> N σ' H') -> Places H fl nl sl ll -> H.length <= fl -> cX H H1 2 2 fl nl sl ll [] (ks.map rD) -> look σ aa = some (aR t r) -> look σ bl = some (fK fl nl sl) -> look σ dE = some (.lst ll) ->
   ∃ k,gF (WF (n + 5)) mO jL k σ H1 N P E):WF (n + 6) eG [aR t r] H P E :=
 bD (p:=fun p=>Z8.Gq p.1 p.2.1 p.2.2.1 p.2.2.2.1 p.2.2.2.2.1 p.2.2.2.2.2.1 p.2.2.2.2.2.2.1 p.2.2.2.2.2.2.2.1 p.2.2.2.2.2.2.2.2) Z8.tq (n,H,P,E,t,r,tab,fk,ks) hf hk j4 k
theorem ES {t r:AV} {tab fk:List (AK × AV)} {ks:List Nat} {ls:List Lf} {e:Nat} (he:e <= 100) (hf:j0 H t r tab fk) (hk:getKey fk (.s aN) = none /\ ks = [] \/ getKey fk (.s aN) = some (.ah (ks.map rf))) (hw:Walks H tab 2 (ks.map rD) ls e)
  (k:∀ H' l fs nl sl,Ext H H' -> H.length <= l -> H'[l]? = some (.list fs) -> bL (jr (fun l=>H.length < l) H') ls fs -> P (fK l nl sl) H'):WF (n + 6) eG [aR t r] H P E:=by
 have hle:=hw.le
 rw [List.length_map] at hle
 refine z0 hf hk (by omega) fun σ H1 fl nl sl ll N hN pl hfl T l1 l2 l3=>⟨_,Kl pl hf.t hw _ _ _ [] (Nat.le_refl _) (Nat.le_trans he (by decide)) T l1 l2 l3 fun σ' H' gs c1 c2 c3 c4 c5=>?_⟩
 refine hN _ _ _ c1 (k H' _ gs _ _ c2 hfl c4 (c5.imp fun lf f hp=>hp.imp fun l q=>?_))
 exact Nat.lt_of_le_of_lt hfl q.2.2.2.2
structure Form (H:Hp) (t r:AV) (tab:List (AK × AV)) (ls:List Lf) (e:Nat):Prop where
 ok:∃ fk ks,j0 H t r tab fk /\ (getKey fk (.s aN) = none /\ ks = [] \/ getKey fk (.s aN) = some (.ah (ks.map rf))) /\ Walks H tab 2 (ks.map rD) ls e
 good:∀ lf ∈ ls,dI lf
theorem Head.ext {A:Hp} {tab kvs:List (AK × AV)} {m:Nat} {d:AV} (h:Head A tab m d kvs) (e:Ext A H):Head H tab m d kvs:=⟨h.1,h.2.1.ext e,h.2.2⟩
theorem mz.ext {A:Hp} {tab kvs:List (AK × AV)} {m e:Nat} {ws:List Nat} (h:mz A tab kvs m ws e) (x:Ext A H):mz H tab kvs m ws e :=
 h.casesOn .own .bare fun w a b c d=>.kids w a b c fun j hj=>let ⟨d,dk,h1,h2⟩:=d j hj; ⟨d,dk,h1.ext x,h2⟩
theorem Walks.ext {A:Hp} {tab:List (AK × AV)} {m e:Nat} {items:List AV} {ls:List Lf} (h:Walks A tab m items ls e) (x:Ext A H):Walks H tab m items ls e :=
 h.rec .nil (fun a b c d w f g i j q _ ih=>.leaf (a.ext x) b c d (w.ext x) f g i j q ih) fun a b c d f g i j _ ih=>.node (a.ext x) b c d f g i (fun k hk=>let ⟨d,dk,b,h1,h2⟩:=j k hk; ⟨d,dk,b,h1.ext x,h2⟩) ih
theorem Form.ext {A:Hp} {t r:AV} {tab:List (AK × AV)} {ls:List Lf} {e:Nat} (h:Form A t r tab ls e) (x:Ext A H):Form H t r tab ls e:=⟨let ⟨fk,ks,h1,h2,h3⟩:=h.ok; ⟨fk,ks,h1.ext x,h2,h3.ext x⟩,h.good⟩
theorem jm {t r:AV} {tab:List (AK × AV)} {ls:List Lf} {e:Nat} (he:e <= 100) (hf:Form H t r tab ls e)
  (k:∀ H' l fs,Ext H H' -> H.length <= l -> H'[l]? = some (.list fs) -> bL (jr (fun l=>H.length < l) H') ls fs -> P (.lst l) H'):WF (n + 7) bB [aR t r] H P E:=by
 obtain ⟨⟨fk,ks,h1,h2,h3⟩,h4⟩:=hf
 refine wf ky rfl ?_
 refine ES he h1 h2 h3 fun H' l fs nl sl a b c d=>?_
 exact k H' l fs a b c d
noncomputable def isNm (x:Nm):AV -> Bool
 | .inst _ ((_,.str s) :: _)=>decide (s = x)
 | _=>false
theorem bL.filter {x:Nm} {ls:List Lf} {fs:List AV} (h:bL (iV H) ls fs):bL (iV H) (ls.filter fun lf=>decide (lf.name = x)) (fs.filter (isNm x)):=by
 induction h with
 | nil=>exact .nil
 | @cons a b as bs hab _ ih=>
  have e1:isNm x b = decide (a.name = x):=by obtain ⟨ws,w,wk,rfl,q⟩:=hab; rfl
  rw [List.filter_cons,List.filter_cons,e1]
  cases decide (a.name = x) with
  | true=>exact .cons hab ih
  | false=>exact ih
theorem bL.mem {α β:Type} {R:α -> β -> Prop} {as:List α} {bs:List β} (h:bL R as bs) {b:β} (hb:b ∈ bs):∃ a ∈ as,R a b:=by
 induction h with
 | nil=>cases hb
 | @cons x y _ _ hxy _ ih=>
  rcases List.mem_cons.1 hb with rfl | hb
  ·exact ⟨x,List.mem_cons_self,hxy⟩
  ·obtain ⟨a,h1,h2⟩:=ih hb; exact ⟨a,List.mem_cons_of_mem _ h1,h2⟩
end
namespace Z9
noncomputable def Gq (n:Nat) (H:Mine.Hp) (P:Mine.AP) (E:Mine.EP) (t:Mine.AV) (r:Mine.AV) (tab:List (Mine.AK × Mine.AV)) (ls:List Mine.Lf) (e:Nat) (x:Mine.Nm):Prop:=∀ (he:e <= 100) (hf:Form H t r tab ls e) (hx:x.length <= 1000) (hls:ls.length <= 100) (k:∀ H' f fs lf sN,Ext H H' -> ls.filter (fun lf=>decide (lf.name = x)) = lf :: sN -> iV H' lf f -> P (.ah (f :: fs)) H') (kE:∀ H',ls.filter (fun lf=>decide (lf.name = x)) = [] -> E iz H'),WF (n + 8) fQ [aR t r,.str x] H P E
noncomputable def kq:Nat × Mine.Hp × Mine.AP × Mine.EP × Mine.AV × Mine.AV × List (Mine.AK × Mine.AV) × List Mine.Lf × Nat × Mine.Nm:=cx fun p=>Gq p.1 p.2.1 p.2.2.1 p.2.2.2.1 p.2.2.2.2.1 p.2.2.2.2.2.1 p.2.2.2.2.2.2.1 p.2.2.2.2.2.2.2.1 p.2.2.2.2.2.2.2.2.1 p.2.2.2.2.2.2.2.2.2
noncomputable def n:=kq.1
noncomputable def H:=kq.2.1
noncomputable def P:=kq.2.2.1
noncomputable def E:=kq.2.2.2.1
noncomputable def t:=kq.2.2.2.2.1
noncomputable def r:=kq.2.2.2.2.2.1
noncomputable def tab:=kq.2.2.2.2.2.2.1
noncomputable def ls:=kq.2.2.2.2.2.2.2.1
noncomputable def e:=kq.2.2.2.2.2.2.2.2.1
noncomputable def x:=kq.2.2.2.2.2.2.2.2.2
theorem tq:Gq n H P E t r tab ls e x:=by
 intro he hf hx hls k kE
 refine wf tu rfl ?_
 refine jm he hf fun H' l fs ex hl hL hA=>?_
 have Ds:=(hA.imp fun _ _=>jr.ok).filter (x:=x)
 obtain ⟨it,i1,i2⟩:=l9 (I:=fun X=>X = H') hL (fun X e=>e ▸ hL)
 refine j2 i1 ?_
 refine jh (hl:=hA.len ▸ Nat.lt_of_le_of_lt hls (by decide)) (I:=fun X=>X = H') (f:=id) (p:=isNm x) (fun v hv X K L hX k1 k0=>?_) i2 rfl fun X hX=>?_
 ·subst hX
  obtain ⟨lf,_,hv⟩:=hA.mem hv
  obtain ⟨ws,w,wk,rfl,_⟩:=hv.ok
  exact cJ (fun q=>k1 q _ rfl) fun q=>k0 q _ rfl
 ·subst hX
  have hfl:(fs.filter (isNm x)).length <= lim:=Nat.le_trans (List.length_filter_le ..) (hA.len ▸ Nat.le_trans hls (by decide))
  rw [List.map_id]
  refine ⟨hfl,?_⟩
  refine kF rfl hfl ?_
  generalize fs.filter (isNm x) = F at *
  generalize ls.filter (fun lf=>decide (lf.name = x)) = G at *
  cases Ds with
  | nil=>exact qJ (Nat.le_trans (Nat.add_le_add_left hx _) (by decide)) (kE _ rfl)
  | cons a b=>exact k _ _ _ _ _ ex rfl a
end Z9
section
variable {n:Nat} {σ σ':Loc} {H:Hp} {P:AP} {E:EP} {C:CF} {N B:LP} {T:AP}
theorem uq {t r:AV} {tab:List (AK × AV)} {ls:List Lf} {e:Nat} {x:Nm} (he:e <= 100) (hf:Form H t r tab ls e) (hx:x.length <= 1000) (hls:ls.length <= 100) (k:∀ H' f fs lf sN,Ext H H' -> ls.filter (fun lf=>decide (lf.name = x)) = lf :: sN -> iV H' lf f -> P (.ah (f :: fs)) H') (kE:∀ H',ls.filter (fun lf=>decide (lf.name = x)) = [] -> E iz H'):WF (n + 8) fQ [aR t r,.str x] H P E :=
 bD (p:=fun p=>Z9.Gq p.1 p.2.1 p.2.2.1 p.2.2.2.1 p.2.2.2.2.1 p.2.2.2.2.2.1 p.2.2.2.2.2.2.1 p.2.2.2.2.2.2.2.1 p.2.2.2.2.2.2.2.2.1 p.2.2.2.2.2.2.2.2.2) Z9.tq (n,H,P,E,t,r,tab,ls,e,x) he hf hx hls k kE
theorem C0 {t r f:AV} {lf:Lf} (hf:iV H lf f) (hg:dI lf) (k:P (bO (kd lf) lf.v) H):WF (n + 4) cy [aR t r,f,.str ie] H P E :=
 let ⟨ws,w,wk,h0,h1,h2,h3⟩:=hf
 h0 ▸ oE h2 h3.2.2.1 hg.v k
theorem oS {t r:AV} {tab:List (AK × AV)} {ls:List Lf} {e:Nat} {x:Nm} (he:e <= 100) (hf:Form H t r tab ls e) (hx:x.length <= 1000) (hls:ls.length <= 100)
  (k:∀ H' lf sN,Ext H H' -> ls.filter (fun lf=>decide (lf.name = x)) = lf :: sN -> P (bO (kd lf) lf.v) H') (kE:∀ H',ls.filter (fun lf=>decide (lf.name = x)) = [] -> E iz H'):WF (n + 9) gJ [aR t r,.str x] H P E:=by
 refine wf uA rfl ?_
 refine uq he hf hx hls (fun H' f fs lf sN ex h1 h2=>?_) kE
 refine C0 h2 (hf.good lf ?_) (k H' lf sN ex h1)
 exact (List.mem_filter.1 (h1 ▸ List.mem_cons_self:lf ∈ ls.filter fun lf=>decide (lf.name = x))).1
noncomputable abbrev lq (v:AV):Bool:=!nE v
noncomputable def bF (acc:List (AK × AV)) (lf:Lf):List (AK × AV) :=
 cond (lq (bO (kd lf) lf.v) && (!(bit (lf.x.getD 0) 3) && !(getKey acc (.s lf.name)).isSome)) (ae acc (.s lf.name) (bO (kd lf) lf.v)) acc
theorem Ei:([110,111,32,101,120,112,111,114,116],3) ∈ words:=by decide
theorem qg {acc:List (AK × AV)} {lf:Lf}:(bF acc lf).length <= acc.length + 1:=by
 unfold bF
 cases (lq (bO (kd lf) lf.v) && (!(bit (lf.x.getD 0) 3) && !(getKey acc (.s lf.name)).isSome)) with
 | true=>exact gX
 | false=>exact Nat.le_succ _
theorem Bd {t r f:AV} {lf:Lf} {L:Nat} {acc:List (AK × AV)} (l1:look σ aa = some (aR t r)) (l2:look σ aw = some (.dct L)) (l3:look σ aB = some f) (hf:iV H lf f) (hg:dI lf) (hL:H[L]? = some (.dict true acc)) (hacc:acc.length <= 1000)
  (k:∀ σ' X,look σ' aa = some (aR t r) -> look σ' aw = some (.dct L) -> N σ' ((H ++ X).set L (.dict true (bF acc lf)))) :
  aH (WF (n + 5)) [.assign (.one ak) (.call cy [(.var aa),(.var aB),(.lit (.str ie))]),.ite (.d8 (.cmp .IsNot (.var ak) (.lit .none)) (.d8 (.j9 (.call gy [(.var aa),(.var aB),(.lit (.str [110,111,32,101,120,112,111,114,116]))])) (.cmp .NotIn (.attr (.var aB) aK) (.var aw)))) [.store (.var aw) (.attr (.var aB) aK) (.var ak)] []] σ H N B T E:=by
 refine vr l1 ?_
 refine vr l3 ?_
 refine C0 hf hg ?_
 have K4:∀ X,(H ++ X)[L]? = some (.dict true acc):=fun X=>Ext.app _ _ hL
 have NJ:look ((ak,bO (kd lf) lf.v) :: σ) aa = some (aR t r):=l1
 have NI:look ((ak,bO (kd lf) lf.v) :: σ) aw = some (.dct L):=l2
 have oK:∀ X,(lq (bO (kd lf) lf.v) && (!(bit (lf.x.getD 0) 3) && !(getKey acc (.s lf.name)).isSome)) = false -> N ((ak,bO (kd lf) lf.v) :: σ) (H ++ X):=fun X q=>by
  have:=k _ X NJ NI
  unfold bF at this
  rw [q] at this
  rw [← set_same (K4 X)]; exact this
 refine cJ (fun q1:lq (bO (kd lf) lf.v) = true=>?_) fun q1:lq (bO (kd lf) lf.v) = false=>?_
 ·refine vr l1 ?_
  refine vr l3 ?_
  obtain ⟨ws,w,wk,rfl,h1,h2,h3⟩:=hf
  refine sW h2 h3.2.1 Ei fun X=>?_
  refine cJ (fun q2=>?_) fun q2=>?_
  ·refine vr l3 ?_
   refine vr (x:=aw) l2 ?_
   refine wy (k:=.s lf.name) (fg (K4 X)) ?_
   refine cJ (fun q3=>?_) fun q3=>?_
   ·have kk:=k _ X NJ NI
    unfold bF at kk
    rw [q1,q2,q3] at kk
    refine vr l2 ?_
    refine vr l3 ?_
    refine eF (i:=.s lf.name) (K4 X) (Nat.lt_of_le_of_lt hacc (by decide)) ?_
    exact kk
   ·exact oK X (by rw [q1,q2,q3]; rfl)
  ·exact oK X (by rw [q1,q2]; rfl)
 ·have:=oK [] (by rw [q1]; rfl)
  rw [List.append_nil] at this
  exact this
end
namespace Mh
noncomputable def Gq (n:Nat) (H:Mine.Hp) (P:Mine.AP) (E:Mine.EP) (t:Mine.AV) (r:Mine.AV) (tab:List (Mine.AK × Mine.AV)) (e:Nat):Prop:=∀ (ls:List Lf) (he:e <= 100) (hf:Form H t r tab ls e) (hls:ls.length <= 60) (k:∀ H' L,Ext H H' -> H.length <= L -> H'[L]? = some (.dict true (ls.foldl bF [])) -> P (.dct L) H'),WF (n + 8) i8 [aR t r] H P E
noncomputable def kq:Nat × Mine.Hp × Mine.AP × Mine.EP × Mine.AV × Mine.AV × List (Mine.AK × Mine.AV) × Nat:=cx fun p=>Gq p.1 p.2.1 p.2.2.1 p.2.2.2.1 p.2.2.2.2.1 p.2.2.2.2.2.1 p.2.2.2.2.2.2.1 p.2.2.2.2.2.2.2
noncomputable def n:=kq.1
noncomputable def H:=kq.2.1
noncomputable def P:=kq.2.2.1
noncomputable def E:=kq.2.2.2.1
noncomputable def t:=kq.2.2.2.2.1
noncomputable def r:=kq.2.2.2.2.2.1
noncomputable def tab:=kq.2.2.2.2.2.2.1
noncomputable def e:=kq.2.2.2.2.2.2.2
theorem tq:Gq n H P E t r tab e:=by
 intro ls he hf hls k
 refine wf xU rfl ?_
 refine jm he (hf.ext .app) fun H' l fs ex hl hL hA=>?_
 have KN:H.length < l:=by rw [List.length_append] at hl; exact hl
 have hA:=hA.imp fun lf f h=>h.imp (q:=fun l=>l ≠ H.length) fun l h=>by rw [List.length_append] at h; exact Nat.ne_of_gt (Nat.lt_of_succ_lt h)
 obtain ⟨it,i1,i2⟩:=l9 (I:=fun X=>X[l]? = some (.list fs)) hL fun X h=>h
 refine j2 i1 ⟨_,lN (I:=fun X=>X[l]? = some (.list fs)) (J:=fun rs σ X=>look σ aa = some (aR t r) /\ look σ aw = some (.dct H.length) /\ aL (· ≠ H.length) H' X /\ ∃ ds ts,ls = ds ++ ts /\ bL (jr (fun l=>l ≠ H.length) H') ts rs /\ X[H.length]? = some (.dict true (ds.foldl bF [])) /\ (ds.foldl bF []).length <= ds.length)
  (fun rs σ X hj=>hj.2.2.1 _ _ (Nat.ne_of_gt KN) hL) (fun v rs σ X N' hj k'=>?_) (fun σ X hj=>?_) _ _ _ _ i2 ⟨rfl,rfl,.refl _,[],ls,rfl,hA,ex _ _ getL,Nat.le_refl _⟩⟩
 ·obtain ⟨l1,l2,ep,ds,ts,rfl,Ds,hX,hdl⟩:=hj
  cases Ds with
  | @cons lf _ ts' _ hv hr=>
  refine Bd (t:=t) (r:=r) (f:=v) l1 l2 bV (hv.ext ep).ok (hf.good lf (List.mem_append_right _ List.mem_cons_self)) hX (Nat.le_trans hdl (Nat.le_trans (Nat.le_trans (List.length_append ▸ Nat.le_add_right ..) hls) (by decide))) fun σ' Y b1 b2=>?_
  refine k' _ _ ⟨b1,b2,((ep.app).set fun h=>h rfl),ds ++ [lf],ts',List.append_cons ..,hr,?_,?_⟩
  ·rw [get_set (Ext.app (X:=Y) _ _ hX),List.foldl_append]; rfl
  ·rw [List.foldl_append,List.length_append]
   exact Nat.le_trans qg (Nat.succ_le_succ hdl)
 ·obtain ⟨l1,l2,ep,ds,ts,rfl,Ds,hX,hdl⟩:=hj
  cases Ds with
  | nil=>
  rw [List.append_nil] at k
  refine vr l2 ?_
  exact k X H.length ((Ext.app.trans ex).Az ep fun l h=>Nat.ne_of_lt h) (Nat.le_refl _) hX
end Mh
section
variable {n:Nat} {σ σ':Loc} {H:Hp} {P:AP} {E:EP} {C:CF} {N B:LP} {T:AP}
theorem yW {t r:AV} {tab:List (AK × AV)} {ls:List Lf} {e:Nat} (he:e <= 100) (hf:Form H t r tab ls e) (hls:ls.length <= 60) (k:∀ H' L,Ext H H' -> H.length <= L -> H'[L]? = some (.dict true (ls.foldl bF [])) -> P (.dct L) H'):WF (n + 8) i8 [aR t r] H P E :=
 bD (p:=fun p=>Mh.Gq p.1 p.2.1 p.2.2.1 p.2.2.2.1 p.2.2.2.2.1 p.2.2.2.2.2.1 p.2.2.2.2.2.2.1 p.2.2.2.2.2.2.2) Mh.tq (n,H,P,E,t,r,tab,e) ls he hf hls k
end
end
end Mine
end
section
set_option maxRecDepth 10000
namespace Mine
noncomputable section
section
variable {n:Nat} {σ σ':Loc} {H:Hp} {P:AP} {E:EP} {C:CF} {N B:LP} {T:AP}
noncomputable def bu (H:Hp):Prop:=∃ ps,H[0]? = some (.list (eQ ps)) /\ ps.length <= 64
theorem jz {many:Nat} (hp:bu H) (hm:0 < many) (oV:many < 2 ^ 60) (k:∀ (d:Nat) H',d < many -> aL (· ≠ 0) H H' -> bu H' -> H'.length = H.length -> P (.int d) H'):WF (n + 1) au [.lst 0,.int many] H P E :=
 let ⟨ps,h1,h2⟩:=hp
 Ke h1 hm oV h2 fun d hd ps' Ae=>k d _ hd ((aL.refl _).set fun h=>h rfl) ⟨ps',get_set h1,Nat.le_trans Ae h2⟩ (List.length_set ..)
theorem qi:iI [] /\ iI [97] /\ iI [97,98,99] /\ iI [97,98,99,100] /\ iI [76,111,110,103]:=by
 unfold iI; decide
theorem Ic {α:Type} {Q:α -> Prop} {l:List α} {d:Nat} (h:d < l.length) (q:∀ x ∈ l,Q x):∃ x,l[d]? = some x /\ Q x:=⟨l[d],List.getElem?_eq_getElem h,q _ (List.getElem_mem h)⟩
theorem r7 {l:List AV} {d:Nat} {Q:AV -> Prop} {k:AV -> Prop} (h:d < l.length) (hl:l.length <= 4096) (q:∀ x ∈ l,Q x) (r:∀ x,Q x -> k x):Is (nU H (.tup l) (.int d)) k :=
 let ⟨x,e,z⟩:=Ic h q
 PL (m:=d) (by rw [Int.toNat_natCast]; exact e) ⟨Int.natCast_nonneg _,Int.ofNat_le.mpr (Nat.le_trans (Nat.le_of_lt h) hl)⟩ (r x z)
theorem pU (hp:bu H) (k:∀ b H',iI b -> aL (· ≠ 0) H H' -> bu H' -> H'.length = H.length -> P (stI b) H'):WF (n + 2) eL [.lst 0] H P E:=by
 refine wf uB rfl ?_
 refine jz (many:=4) hp (by decide) (by decide) fun d H' hd e1 e2 e3=>?_
 refine r7 (l:=[AV.bytes [],AV.bytes [97],AV.bytes [97,98,99],AV.bytes [97,98,99,100]]) (Q:=fun v=>∃ b,v = .bytes b /\ iI b) hd (by decide) ?_ fun v hv=>?_
 ·simp only [List.forall_mem_cons]
  obtain ⟨h1,h2,h3,h4,_⟩:=qi
  exact ⟨⟨_,rfl,h1⟩,⟨_,rfl,h2⟩,⟨_,rfl,h3⟩,⟨_,rfl,h4⟩,fun _ h=>nomatch h⟩
 ·obtain ⟨b,rfl,hb⟩:=hv
  exact k b H' hb e1 e2 e3
theorem xu {s:Nm} (hp:bu H) (k:∀ v H',Ob v -> aL (· ≠ 0) H H' -> bu H' -> H'.length = H.length -> P v H'):WF (n + 3) gM [.lst 0,.str s] H P E:=by
 refine wf uC rfl ?_
 refine jz (many:=5) hp (by decide) (by decide) fun d H' hd e1 e2 e3=>?_
 refine dD (fun _=>k _ H' (.int 7) e1 e2 e3) fun hd0=>?_
 have hd1:1 <= d:=Nat.pos_of_ne_zero fun e=>hd0 (congrArg _ e)
 refine dD (fun _=>?_) fun _=>?_
 ·show Is (nU _ (.tup [AV.str gz,AV.str nA,AV.str ny,AV.str Nv]) (.int ((d:Int) - 1))) _
  rw [ju hd1]
  refine r7 (Q:=fun v=>∃ b,v = .str b) (show d - 1 < 4 by omega) (by decide) ?_ fun v hv=>?_
  ·simp only [List.forall_mem_cons]
   exact ⟨⟨_,rfl⟩,⟨_,rfl⟩,⟨_,rfl⟩,⟨_,rfl⟩,fun _ h=>nomatch h⟩
  ·obtain ⟨b,rfl⟩:=hv
   exact k _ H' (.name b) e1 e2 e3
 ·have one:WF (n + 2) eL [.lst 0] H' P E:=pU e2 fun b Av hb f1 f2 f3=>k _ Av (.str b hb) (e1.trans f1) f2 (f3.trans e3)
  refine dD (fun _=>?_) fun _=>one
  refine dD (fun _=>?_) fun _=>one
  show (0 <= (d:Int) - 1 /\ (d:Int) - 1 <= 1000) /\ _
  rw [ju hd1]
  refine ⟨⟨Int.natCast_nonneg _,by omega⟩,?_⟩
  refine ⟨_,few (by rw [List.length_range]; omega),gC (I:=fun _=>True) (J:=fun rs acc X=>(∃ bs:List (List Nat),acc = bs.map stI /\ (∀ b ∈ bs,iI b) /\ bs.length + rs.length <= 4) /\ aL (· ≠ 0) H X /\ bu X /\ X.length = H.length) (fun _ _ _ _=>trivial)
    (fun v rs acc X K L hj kk _=>?_) _ _ [] _ _ (aZ _) ⟨⟨[],rfl,fun _ h=>absurd h List.not_mem_nil,?_⟩,e1,e2,e3⟩ fun vs X hj=>?_⟩
  ·obtain ⟨⟨bs,rfl,h1,h2⟩,e1,e2,e3⟩:=hj
   refine pU e2 fun b Av hb f1 f2 f3=>?_
   refine kk _ _ ⟨⟨bs ++ [b],(List.map_append (f:=stI) (l₁:=bs) (l₂:=[b])).symm,fun c hc=>(List.mem_append.1 hc).elim (h1 c) fun hc=>(List.mem_singleton.1 hc).symm ▸ hb,?_⟩,e1.trans f1,f2,f3.trans e3⟩
   rw [List.length_append,Nat.add_assoc,Nat.add_comm [b].length]; exact h2
  ·rw [List.length_map,List.length_range]; show 0 + (d - 1) <= 4; omega
  ·show _ /\ _
   obtain ⟨⟨bs,e0,h1,h2⟩,e1,e2,e3⟩:=hj
   rw [List.nil_append] at e0
   subst e0
   have h3:bs.length <= 4:=h2
   exact ⟨by rw [List.length_map]; exact Nat.le_trans h3 (by decide),k _ X (.Jr bs h1 (Nat.le_trans h3 (by decide))) e1 e2 e3⟩
noncomputable def ed (tab:List (AK × AV)) (M:Nat):Prop:=tab.map Prod.fst = (List.range' 1 M).map fun (k:Nat)=>AK.i (k:Int)
theorem ed.none {tab:List (AK × AV)} {M j:Nat} (h:ed tab M):getKey tab (.i j) = .none ↔ ¬ (1 <= j /\ j <= M):=by
 rw [g9,h,List.mem_map]
 refine not_congr ⟨fun ⟨i,hi,e⟩=>?_,fun hj=>⟨j,by rw [List.mem_range'_1]; omega,rfl⟩⟩
 cases Int.ofNat_inj.1 (AK.i.inj e)
 rw [List.mem_range'_1] at hi; omega
theorem ed.has {tab:List (AK × AV)} {M j:Nat} (h:ed tab M):(getKey tab (.i j)).isSome = decide (1 <= j /\ j <= M):=by
 by_cases e:1 <= j /\ j <= M
 ·rw [decide_eq_true e,Option.isSome_iff_ne_none]; exact fun q=>h.none.1 q e
 ·rw [decide_eq_false e,h.none.2 e]; rfl
theorem ed.len {tab:List (AK × AV)} {M:Nat} (h:ed tab M):tab.length = M:=by
 have:=congrArg List.length h
 rwa [List.length_map,List.length_map,List.length_range'] at this
theorem ed.add {tab:List (AK × AV)} {M:Nat} {v:AV} (h:ed tab M):ae tab (.i ((M + 1:Nat):Int)) v = tab ++ [(.i ((M + 1:Nat):Int),v)] /\ ed (ae tab (.i ((M + 1:Nat):Int)) v) (M + 1):=by
 have e:getKey tab (.i ((M + 1:Nat):Int)) = .none:=h.none.2 fun q=>absurd q.2 (Nat.not_succ_le_self _)
 refine ⟨qx e,?_⟩
 unfold ed at *
 rw [qx e,List.map_append,h,List.range'_concat,List.map_append,Nat.add_comm 1]
 rw [Nat.one_mul]; rfl
theorem ed.put {tab:List (AK × AV)} {M j:Nat} {v:AV} (h:ed tab M) (hj:1 <= j /\ j <= M):ed (ae tab (.i j) v) M:=by
 unfold ed at *
 rw [rI,h,if_pos]
 rw [List.mem_map]; exact ⟨j,by rw [List.mem_range'_1]; omega,rfl⟩
theorem k_put {v:AV} {r:AV} {tl j:Nat} {tab:List (AK × AV)} {it:Bool} (ht:H[tl]? = some (.dict it tab)) (hl:tab.length <= 1000) (k:P .none (H.set tl (.dict it (ae tab (.i j) (.tup [.int 0,v]))))):WF (n + 1) m8 [aR (.dct tl) r,.int j,.int 0,v] H P E:=by
 refine wf x7 rfl ?_
 refine eF (i:=.i j) ht (Nat.lt_of_le_of_lt hl (by decide)) ?_
 exact k
theorem Be {v:AV} {r:AV} {tl M:Nat} {tab:List (AK × AV)} {it:Bool} (ht:H[tl]? = some (.dict it tab)) (hT:ed tab M) (c:Nat):∀ (j:Nat) (σ:Loc),1 <= j -> j + c = M + 1 -> look σ cN = some (aR (.dct tl) r) -> look σ aA = some (.int j) -> look σ ak = some v ->
  (∀ σ',look σ' cN = some (aR (.dct tl) r) -> look σ' aA = some (.int (M + 1:Nat)) -> look σ' ak = some v -> N σ' H) ->
  gF C (.cmp .In (.var aA) (.attr (.var cN) fP)) [.assign (.one aA) (.bin .Add (.var aA) (.lit (.int (1))))] (c + 1) σ H N T E:=by
 induction c with
 | zero=>
  intro j σ hj hc l1 l2 l3 k
  refine vr (x:=aA) l2 (vr (x:=cN) l1 (rS (k:=.i j) (fg ht) ?_))
  rw [hT.has]
  cases hc
  rw [decide_eq_false fun q=>absurd q.2 (Nat.not_succ_le_self _)]
  exact k σ l1 l2 l3
 | succ c ih=>
  intro j σ hj hc l1 l2 l3 k
  refine vr (x:=aA) l2 (vr (x:=cN) l1 (rS (k:=.i j) (fg ht) ?_))
  have hc:j + c = M:=Nat.succ.inj hc
  rw [hT.has,decide_eq_true ⟨hj,hc ▸ Nat.le_add_right j c⟩]
  refine vr (x:=aA) l2 ?_
  exact ih (j + 1) ((aA,.int ((j:Int) + 1)) :: σ) (Nat.le_succ_of_le hj) (by rw [Nat.add_right_comm,hc]) l1 rfl l3 k
theorem wi {v:AV} {r:AV} {tl M:Nat} {tab:List (AK × AV)} {it:Bool} (ht:H[tl]? = some (.dict it tab)) (hT:ed tab M) (hl:M <= 1000) (k:P (rf (M + 1)) (H.set tl (.dict it (ae tab (.i ((M + 1:Nat):Int)) (.tup [.int 0,v]))))):WF (n + 1) m9 [aR (.dct tl) r,v] H P E:=by
 refine wf x8 rfl ⟨_,Be ht hT M 1 _ (Nat.le_refl _) (Nat.add_comm ..) rfl rfl rfl fun σ' l1 l2 l3=>?_⟩
 refine vr (x:=ak) l3 ?_
 refine vr (x:=cN) l1 ?_
 refine vr (x:=aA) l2 ?_
 refine eF (i:=.i ((M + 1:Nat):Int)) ht (by rw [hT.len]; exact Nat.lt_of_le_of_lt hl (by decide)) ?_
 refine vr (x:=aA) l2 ?_
 exact k
end
end
end Mine
end
section
set_option maxRecDepth 10000
namespace Mine
noncomputable section
section
variable {n:Nat} {σ σ':Loc} {H:Hp} {P:AP} {E:EP} {C:CF} {N B:LP} {T:AP}
noncomputable def hdS:List TS -> TS
 | []=>.bad
 | a :: _=>a
theorem FJ (ss:List TS) (G:LP) (h:∀ N:LP,(∀ σ H,G σ H -> N σ H) -> hdS ss C σ H N B T E) (k:∀ σ H,G σ H -> aH C ss.tail σ H N B T E):aH C ss σ H N B T E :=
 ss.casesOn (motive:=fun ss=>(∀ N:LP,(∀ σ H,G σ H -> N σ H) -> hdS ss C σ H N B T E) -> (∀ σ H,G σ H -> aH C ss.tail σ H N B T E) -> aH C ss σ H N B T E) (fun h k=>(h _ k).elim) (fun _ _ h k=>h _ k) h k
noncomputable def Eb (k:Nm) (v:AV):Prop:=cond (decide (k = cV)) (∃ s,some s ∈ sorts /\ v = fH s) (cond (decide (k = gA)) (∃ x:Nat,v = .int x) (cond (decide (k = bI)) (∃ os,v = .ah os /\ (∀ o ∈ os,pA o) /\ os.length <= 8) (cond (decide (k = d7)) True (Ob v))))
noncomputable def cY (kvs:List (AK × AV)):Prop:=∀ k ∈ dm,∀ v,getKey kvs (.s k) = some v -> Eb k v
theorem cY.congr {a b:List (AK × AV)} (h:cY a) (e:∀ k ∈ dm,getKey a (.s k) = getKey b (.s k)):cY b:=fun k hk v q=>h k hk v ((e k hk).trans q)
theorem mC.congr {a b:List (AK × AV)} {lf:Lf} (h:mC a lf) (e:∀ k ∈ dm,getKey a (.s k) = getKey b (.s k)):mC b lf:=by
 unfold mC rZ ni at *
 rw [← e cV (by decide),← e gA (by decide),← e ie (by decide),← e ia (by decide),← e bI (by decide)]
 exact h
theorem cY.nil:cY []:=fun k _ v q=>nn q
theorem cY.merge {g kvs:List (AK × AV)} (h:cY kvs) (hg:cY g) (hn:Nd kvs):cY (putAll g kvs):=fun k hk v q=>by
 rw [iN hn] at q
 exact (Option.or_eq_some_iff.1 q).elim (h k hk v) fun q=>hg k hk v q.2
theorem Cq {α:Type} {C:Prop} (o:Option α) (h:o = none -> C) (k:∀ v,o = some v -> C):C:=o.casesOn (motive:=fun x=>(x = none -> C) -> (∀ v,x = some v -> C) -> C) (fun h _=>h rfl) (fun v _ k=>k v rfl) h k
theorem cY.ob {kvs:List (AK × AV)} (h:cY kvs) {k:Nm} (hk:k ∈ dm) (e:Eb k = Ob):Ob ((getKey kvs (.s k)).getD .none):=Cq (getKey kvs (.s k)) (fun q=>by rw [q]; exact .none) fun v q=>by rw [q]; exact e ▸ h k hk v q
theorem cY.ft {kvs:List (AK × AV)} (h:cY kvs):∃ ft ∈ sorts,rZ kvs ft:=Cq (getKey kvs (.s cV)) (fun q=>⟨none,by decide,q⟩) fun v q=>let ⟨s,h1,h2⟩:∃ s,some s ∈ sorts /\ v = fH s:=h cV (by decide) v q; ⟨some s,h1,q.trans (congrArg some h2)⟩
theorem cY.ff {kvs:List (AK × AV)} (h:cY kvs):∃ x,ni kvs x:=Cq (getKey kvs (.s gA)) (fun q=>⟨none,q⟩) fun v q=>let ⟨s,h2⟩:∃ x:Nat,v = .int x:=h gA (by decide) v q; ⟨some s,q.trans (congrArg some h2)⟩
theorem cY.os {kvs:List (AK × AV)} (h:cY kvs):∃ os,(getKey kvs (.s bI) = none /\ os = [] \/ getKey kvs (.s bI) = some (.ah os)) /\ (∀ o ∈ os,pA o) /\ os.length <= 8:=Cq (getKey kvs (.s bI)) (fun q=>⟨[],.inl ⟨q,rfl⟩,fun o h=>absurd h List.not_mem_nil,Nat.zero_le _⟩) fun v q=>let ⟨os,h2,h3⟩:∃ os,v = .ah os /\ (∀ o ∈ os,pA o) /\ os.length <= 8:=h bI (by decide) v q; ⟨os,.inr (h2 ▸ q),h3⟩
theorem cY.lf {kvs:List (AK × AV)} (h:cY kvs) (nm:Nm) (num:Nat) (ab:Option Nat) (ws:List Nat) (hn:100 ∉ nm) (hl:nm.length <= 100) (hw:ws.length <= 8):∃ ft x v dv os,mC kvs ⟨nm,num,ab,ws,ft,x,v,dv,os⟩ /\ dI ⟨nm,num,ab,ws,ft,x,v,dv,os⟩ :=
 h.ft.elim fun ft a=>h.ff.elim fun x b=>h.os.elim fun os e=>⟨ft,x,_,_,os,⟨a.2,b,rfl,rfl,e.1⟩,⟨a.1,h.ob (by decide) rfl,h.ob (by decide) rfl,e.2.1,e.2.2,hn,hl,hw⟩⟩
theorem cM {a:List (AK × AV)} {k k':Nm} {v:AV} (h:k ≠ k'):getKey (ae a (.s k) v) (.s k') = getKey a (.s k'):=by rw [lI,if_neg fun e=>h (AK.s.inj e)]
theorem dX {a:List (AK × AV)} {k:AK} {v:AV}:getKey (ae a k v) k = some v:=by rw [lI,if_pos rfl]
theorem cY.put {kvs:List (AK × AV)} {key:Nm} {v:AV} (h:cY kvs) (hv:Eb key v):cY (ae kvs (.s key) v):=fun k hk w q=>by
 by_cases e:key = k
 ·subst e; rw [dX] at q; exact Option.some.inj q ▸ hv
 ·rw [cM e] at q; exact h k hk w q
structure HS (base:List (AK × AV)) (c:Nat) (kvs:List (AK × AV)):Prop where
 ok:cY kvs
 nd:Nd kvs
 len:kvs.length <= c
 same:∀ k,k ∉ dm -> getKey kvs (.s k) = getKey base (.s k)
theorem HS.put {base kvs:List (AK × AV)} {c:Nat} {key:Nm} {v:AV} (h:HS base c kvs) (hk:key ∈ dm) (ho:Eb key v):HS base (c + 1) (ae kvs (.s key) v) :=
 ⟨h.ok.put ho,kO h.nd,Nat.le_trans gX (Nat.succ_le_succ h.len),fun k hkk=>(cM fun e:key = k=>hkk (e ▸ hk)).trans (h.same k hkk)⟩
theorem HS.more {base kvs:List (AK × AV)} {c:Nat} (h:HS base c kvs):HS base (c + 1) kvs:=⟨h.ok,h.nd,Nat.le_succ_of_le h.len,h.same⟩
theorem bu.set {l:Nat} {o:aO} (h:bu H) (h0:l ≠ 0):bu (H.set l o):=let ⟨ps,h1,h2⟩:=h; ⟨ps,(List.getElem?_set_ne h0).trans h1,h2⟩
theorem bu.app {X:Hp} (h:bu H):bu (H ++ X):=let ⟨ps,h1,h2⟩:=h; ⟨ps,Ext.app _ _ h1,h2⟩
structure mD (it:Bool) (H0 H:Hp) (hd:Nat) (kvs:List (AK × AV)):Prop where
 ext:aL (fun l=>l ≠ 0 /\ l ≠ hd) H0 H
 pool:bu H
 head:H[hd]? = some (.dict it kvs)
noncomputable abbrev HB (H0 H:Hp) (hd:Nat) (kvs:List (AK × AV)):Prop:=mD true H0 H hd kvs
theorem mD.step {it:Bool} {H0 H':Hp} {hd:Nat} {kvs:List (AK × AV)} (h:mD it H0 H hd kvs) (h0:hd ≠ 0) (e:aL (· ≠ 0) H H') (p:bu H'):mD it H0 H' hd kvs :=
 ⟨h.ext.trans (e.mono fun l h=>h.1),p,e _ _ h0 h.head⟩
theorem mD.put {it:Bool} {H0:Hp} {hd:Nat} {kvs kvs':List (AK × AV)} (h:mD it H0 H hd kvs) (h0:hd ≠ 0):mD it H0 (H.set hd (.dict it kvs')) hd kvs' :=
 ⟨h.ext.set fun q=>q.2 rfl,h.pool.set h0,get_set h.head⟩
theorem ig {it:Bool} {H0:Hp} {hd many:Nat} {kvs:List (AK × AV)} (h0:hd ≠ 0) (hb:mD it H0 H hd kvs) (hm:0 < many) (oV:many < 2 ^ 60) (k:∀ (d:Nat) H',d < many -> mD it H0 H' hd kvs -> H'.length = H.length -> P (.int d) H'):WF (n + 1) au [.lst 0,.int many] H P E :=
 jz hb.pool hm oV fun d H' hd' e1 e2 e3=>k d H' hd' (hb.step h0 e1 e2) e3
noncomputable def nats (ns:List Nat):List AV:=ns.map fun (x:Nat)=>AV.int (x:Int)
theorem vd:∀ ns:List Nat,intsOf (nats ns) = some (ns.map fun (x:Nat)=>(x:Int))
 | []=>rfl
 | x :: ns=>(congrArg (Option.bind · fun r=>some ((x:Int) :: r)) (vd ns) :)
theorem wI:∀ ns:List Nat,(ns.map fun (x:Nat)=>(x:Int)).sum = ((ns.sum:Nat):Int)
 | []=>rfl
 | x :: ns=>(congrArg ((x:Int) + ·) (wI ns)).trans (Int.natCast_add ..).symm
theorem MB {ns:List Nat} (hl:ns.length <= 32) (hb:∀ x ∈ ns,x < 2 ^ 32) (k:∀ x:Nat,P (.int x) H):gV .sum (.ah (nats ns)) H P:=by
 with_unfolding_all refine bN (vd ns) ⟨⟨(List.length_map ..).symm ▸ hl,List.all_eq_true.2 fun y hy=>?_⟩,?_⟩
 ·obtain ⟨x,hx,rfl⟩:=List.mem_map.1 hy
  have h:=Int.ofNat_lt.2 (hb x hx)
  rw [Int.natCast_pow,show ((2:Nat):Int) = 2 from rfl] at h
  rw [decide_eq_true (Int.natCast_nonneg x),decide_eq_true h]; rfl
 ·rw [wI]; exact k _
theorem Cp:∀ o ∈ [stI [97],.ah [stI [97,98,99],stI [76,111,110,103]],stI [97,98,99,100]],pA o:=by
 obtain ⟨h1,h2,h3,h4,h5⟩:=qi
 exact List.forall_mem_cons.2 ⟨.one _ h2,List.forall_mem_cons.2 ⟨.two _ _ h3 h5,List.forall_mem_cons.2 ⟨.one _ h4,fun _ h=>absurd h List.not_mem_nil⟩⟩⟩
noncomputable def B0 (H0:Hp) (hd:Nat) (base:List (AK × AV)) (c:Nat) (σ0:Loc):LP:=fun σ H=>σ = σ0 /\ ∃ kvs,HB H0 H hd kvs /\ HS base c kvs
theorem HB.lt {H0:Hp} {hd c:Nat} {base kvs:List (AK × AV)} (hs:HS base c kvs) (hc:c <= 100):kvs.length < lim:=Nat.lt_of_le_of_lt (Nat.le_trans hs.len hc) (by decide)
theorem xR {x:Nm} {b:List TS} {k:Nat} {v:AV} {vs:List AV} (h:aH C b ((x,v) :: σ) H (fun σ H=>forL C (.one x) b k (.seq vs) σ H N T E) N T E):forL C (.one x) b (k + 1) (.seq (v :: vs)) σ H N T E:=h
theorem M7 {s:Nm} {k:AV -> Prop} (h:k (.str s)):Is ((tU (fH s)).bind fun p=>p.2.lookup bY) k:=h
theorem bind1 {x:Nm} {v:AV} {k:Loc -> Prop} (h:k ((x,v) :: σ)):Is (bg (.one x) v σ) k:=h
theorem Bf {b:Bool} {k:Bool -> Prop} (h:k b):Is (truthy (.bool b)) k:=h
theorem HP {p q:Prop} (h:p):Br true p q:=h
theorem Fy {t:bq} {b:List TS} {k:Nat} {it:It} (h:aT H it = some none) (q:N σ H):forL C t b (k + 1) it σ H N T E:=bN h q
theorem C8 {H0:Hp} {hd c:Nat} {base kvs:List (AK × AV)} {key s:Nm} (h0:hd ≠ 0) (hk:key ∈ dm) (hkey:Eb key = Ob) (l1:look σ aq = some (.lst 0)) (l2:look σ ai = some (.dct hd)) (l3:look σ bG = some (.str s)) (l4:look σ av = some (.str key)) (hb:HB H0 H hd kvs) (hs:HS base c kvs) (hc:c <= 100)
  (k:∀ H' kvs',HB H0 H' hd kvs' -> HS base (c + 1) kvs' -> N σ H') :
  aH (WF (n + 3)) [.ite (.cmp .Eq (.call au [(.var aq),(.lit (.int (2)))]) (.lit (.int (1)))) [.store (.var ai) (.var av) (.call gM [(.var aq),(.var bG)])] []] σ H N B T E:=by
 refine vr l1 ?_
 refine ig (many:=2) h0 hb (by decide) (by decide) fun d H' hd' hb _=>?_
 refine dD (fun _=>?_) fun _=>k _ _ hb hs.more
 refine vr l1 ?_
 refine vr l3 ?_
 refine xu hb.pool fun v Av hv f1 f2 f3=>?_
 refine vr l2 ?_
 refine vr l4 ?_
 refine eF (i:=.s key) (hb.step h0 f1 f2).head (HB.lt (H0:=H0) (hd:=hd) hs hc) ?_
 exact k _ _ ((hb.step h0 f1 f2).put h0) (hs.put hk (hkey ▸ hv))
noncomputable abbrev qe (hd:Nat) (g:List (AK × AV)):Loc:=[(aq,.lst 0),(ai,.dct hd),(bZ,.aj g)]
theorem Kr {H0:Hp} {hd c:Nat} {base kvs g:List (AK × AV)} (h0:hd ≠ 0) (hb:HB H0 H hd kvs) (hs:HS base c kvs) (hc:c <= 100)
  (k:∀ σ H,B0 H0 hd base (c + 1) (qe hd g) σ H -> N σ H):hdS cW.body (WF (n + 1)) (qe hd g) H N B T E:=by
 have yes:∀ H1,HB H0 H1 hd kvs -> aH (WF (n + 1)) [.store (.var ai) (.lit (.str cV)) (.new cO [(.sub (.tup [(.lit (.str m7)),(.lit (.str jJ)),(.lit (.str iR)),(.lit (.str iR)),(.lit (.str jJ)),(.lit (.str kG))]) (.call au [(.var aq),(.lit (.int (6)))]))])] (qe hd g) H1 N B T E:=by
  intro H1 hb
  refine ig (many:=6) h0 hb (by decide) (by decide) fun d H' hd' hb _=>?_
  refine r7 (Q:=fun x=>∃ s,x = .str s /\ some s ∈ sorts) hd' (by decide) ?_ fun x ⟨s,e,hs'⟩=>?_
  ·have key:∀ l:List Nm,(∀ s ∈ l,some s ∈ sorts) -> ∀ x ∈ l.map AV.str,∃ s,x = .str s /\ some s ∈ sorts:=fun l h x hx=>let ⟨s,a,b⟩:=List.mem_map.1 hx; ⟨s,b.symm,h s a⟩
   exact key [m7,jJ,iR,iR,jJ,kG] (by decide)
  subst e
  refine eF (i:=.s cV) hb.head (HB.lt (H0:=H0) (hd:=hd) hs hc) ?_
  exact k _ _ ⟨rfl,_,hb.put h0,hs.put (by decide) ⟨s,hs',rfl⟩⟩
 refine ig (many:=3) h0 hb (by decide) (by decide) fun d H' hd' hb _=>?_
 refine dD (fun _=>Bf (HP (yes _ hb))) fun _=>?_
 refine cJ (fun _=>?_) fun _=>k _ _ ⟨rfl,_,hb,hs.more⟩
 refine ig (many:=6) h0 hb (by decide) (by decide) fun d H' hd' hb _=>?_
 exact dD (fun _=>yes _ hb) fun _=>k _ _ ⟨rfl,_,hb,hs.more⟩
theorem IW {H0:Hp} {hd c:Nat} {base kvs g:List (AK × AV)} {s:Nm} (h0:hd ≠ 0) (hb:HB H0 H hd kvs) (hs:HS base c kvs) (hc:c <= 100)
  (k:∀ σ H,B0 H0 hd base (c + 1) ((bG,.str s) :: qe hd g) σ H -> N σ H):hdS cW.body.tail.tail (WF (n + 1)) ((bG,.str s) :: qe hd g) H N B T E:=by
 refine ig (many:=2) h0 hb (by decide) (by decide) fun d H' hd' hb _=>?_
 refine dD (fun _=>?_) fun _=>k _ _ ⟨rfl,_,hb,hs.more⟩
 refine ⟨_,(by decide:(nats [0,2,14,15,16,17,18,21,25]).length < lim),gC (I:=fun _=>True) (J:=fun rs acc X=>(∃ ns:List Nat,acc = nats ns /\ (∀ x ∈ ns,x < 2 ^ 32) /\ ns.length + rs.length <= 9) /\ (∃ ps:List Nat,rs = nats ps /\ ∀ p ∈ ps,p <= 25) /\ HB H0 X hd kvs) (fun _ _ _ _=>trivial)
     (fun v rs acc X K L hj k1 k2=>?_) (nats [0,2,14,15,16,17,18,21,25]) _ [] _ _ (aZ _) ⟨⟨[],rfl,fun _ h=>absurd h List.not_mem_nil,Nat.le_refl _⟩,⟨_,rfl,by decide⟩,hb⟩ fun vs X hj=>?_⟩
 ·obtain ⟨⟨ns,rfl,h1,h2⟩,⟨ps,h3,h4⟩,hb⟩:=hj
  cases ps with
  | nil=>exact nomatch h3
  | cons p ps=>
  obtain ⟨rfl,rfl⟩:=List.cons.inj h3
  obtain ⟨hp,h4⟩:=List.forall_mem_cons.1 h4
  have h2':(ns ++ [2 ^ p]).length + (nats ps).length <= 9:=by rw [List.length_append,Nat.add_assoc,Nat.add_comm [_].length]; exact h2
  have h5:nats ns ++ [AV.int ((2 ^ p:Nat):Int)] = nats (ns ++ [2 ^ p]):=(List.map_append (f:=fun (x:Nat)=>AV.int (x:Int)) (l₁:=ns) (l₂:=[2 ^ p])).symm
  refine ig (many:=4) h0 hb (by decide) (by decide) fun d H' hd' hb _=>?_
  refine dD (fun _=>?_) fun _=>?_
  ·refine tS (q:=p) rfl (Nat.le_trans hp (by decide)) ?_
   refine k1 _ _ ⟨⟨_,h5,fun x hx=>(List.mem_append.1 hx).elim (h1 x) fun hx=>?_,h2'⟩,⟨_,rfl,h4⟩,hb⟩
   rw [List.mem_singleton.1 hx]; exact Nat.pow_lt_pow_right (by decide) (Nat.lt_of_le_of_lt hp (by decide))
  ·exact k2 _ ⟨⟨_,rfl,h1,Nat.le_of_succ_le h2⟩,⟨_,rfl,h4⟩,hb⟩
 ·obtain ⟨⟨ns,e0,h1,h2⟩,_,hb⟩:=hj
  rw [List.nil_append] at e0
  subst e0
  have h2:ns.length <= 9:=h2
  refine ⟨Nat.le_trans (Nat.le_of_eq (List.length_map ..)) (Nat.le_trans h2 (by decide)),?_⟩
  refine MB (Nat.le_trans h2 (by decide)) h1 fun x=>?_
  refine eF (i:=.s gA) hb.head (HB.lt (H0:=H0) (hd:=hd) hs hc) ?_
  exact k _ _ ⟨rfl,_,hb.put h0,hs.put (by decide) ⟨x,rfl⟩⟩
end
namespace Mg
noncomputable def Gq (n:Nat) (H:Mine.Hp) (P:Mine.AP) (E:Mine.EP) (H0:Mine.Hp) (hd:Nat) (g:List (Mine.AK × Mine.AV)) (kvs:List (Mine.AK × Mine.AV)):Prop:=∀ (h0:hd ≠ 0) (hb:HB H0 H hd kvs) (hk:cY kvs) (hnd:Nd kvs) (hl:kvs.length <= 50) (hg:cY g) (k:∀ H' kvs',HB H0 H' hd kvs' -> HS kvs (kvs.length + 6) kvs' -> P .none H'),WF (n + 4) fS [.lst 0,.dct hd,.aj g] H P E
noncomputable def kq:Nat × Mine.Hp × Mine.AP × Mine.EP × Mine.Hp × Nat × List (Mine.AK × Mine.AV) × List (Mine.AK × Mine.AV):=cx fun p=>Gq p.1 p.2.1 p.2.2.1 p.2.2.2.1 p.2.2.2.2.1 p.2.2.2.2.2.1 p.2.2.2.2.2.2.1 p.2.2.2.2.2.2.2
noncomputable def n:=kq.1
noncomputable def H:=kq.2.1
noncomputable def P:=kq.2.2.1
noncomputable def E:=kq.2.2.2.1
noncomputable def H0:=kq.2.2.2.2.1
noncomputable def hd:=kq.2.2.2.2.2.1
noncomputable def g:=kq.2.2.2.2.2.2.1
noncomputable def kvs:=kq.2.2.2.2.2.2.2
theorem tq:Gq n H P E H0 hd g kvs:=by
 intro h0 hb hk hnd hl hg k
 refine wf tB rfl ?_
 have hl':∀ j,j <= 50 -> kvs.length + j <= 100:=fun j hj=>Nat.add_le_add hl hj
 have hs:HS kvs kvs.length kvs:=⟨hk,hnd,Nat.le_refl _,fun _ _=>rfl⟩
 refine FJ cW.body _ (fun N k=>Kr h0 hb hs (hl' 0 (by decide)) k) fun σ H hh=>?_
 obtain ⟨rfl,ER,hb,hs⟩:=hh
 have sort:∃ s,((getKey ER (.s cV)).getD ((getKey g (.s cV)).getD (fH []))) = fH s:=by
  obtain ⟨ft,_,a⟩:=hs.ok.ft
  obtain ⟨Q9,_,a'⟩:=hg.ft
  rw [a,a']
  cases ft with
  | some s=>exact ⟨s,rfl⟩
  | none=>cases Q9 with
   | some s=>exact ⟨s,rfl⟩
   | none=>exact ⟨[],rfl⟩
 obtain ⟨s,sort⟩:=sort
 refine pQ (fg hb.head) ?_
 refine oh ?_
 refine iM (i:=.s cV) ?_
 refine lR (i:=.s cV) (fg hb.head) ?_
 rw [sort]
 clear sort
 refine M7 ?_
 refine bind1 ?_
 refine FJ cW.body.tail.tail _ (fun N k=>IW (s:=s) h0 hb hs (hl' 1 (by decide)) k) fun σ H hh=>?_
 clear hs hb
 clear ER
 obtain ⟨rfl,ER,hb,hs⟩:=hh
 refine ⟨3,?_⟩
 refine xR ?_
 refine C8 (key:=ie) (σ:=(av,.str ie) :: (bG,.str s) :: qe hd g) h0 (by decide) rfl rfl rfl rfl rfl hb hs (hl' 2 (by decide)) fun H2 RO hb hs=>?_
 refine xR ?_
 refine C8 (key:=ia) (σ:=(av,.str ia) :: (av,.str ie) :: (bG,.str s) :: qe hd g) h0 (by decide) rfl rfl rfl rfl rfl hb hs (hl' 3 (by decide)) fun H3 RN hb hs=>?_
 refine Fy rfl ?_
 refine FJ cW.body.tail.tail.tail.tail (B0 H0 hd kvs (kvs.length + 5) ((av,.str ia) :: (av,.str ie) :: (bG,.str s) :: qe hd g)) (fun N k=>?_) fun σ H hh=>?_
 ·refine ig (many:=3) h0 hb (by decide) (by decide) fun d H' hd' hb _=>?_
  refine dD (fun _=>?_) fun _=>k _ _ ⟨rfl,_,hb,hs.more⟩
  refine eF (i:=.s d7) hb.head (HB.lt (H0:=H0) (hd:=hd) hs (hl' 4 (by decide))) ?_
  exact k _ _ ⟨rfl,_,hb.put h0,hs.put (by decide) trivial⟩
 clear hs hb
 obtain ⟨rfl,RM,hb,hs⟩:=hh
 refine ig (many:=2) h0 hb (by decide) (by decide) fun d H' hd' hb _=>?_
 refine dD (fun _=>?_) fun _=>k _ _ hb hs.more
 refine ig (many:=3) h0 hb (by decide) (by decide) fun d H' hd' hb _=>?_
 refine ⟨⟨?_,?_,by decide⟩,?_⟩
 ·exact Int.add_nonneg (by decide) (Int.natCast_nonneg _)
 ·exact Int.le_trans (Int.add_le_add_left (Int.ofNat_le.2 (Nat.le_of_lt hd')) 1) (by decide)
 refine eF (i:=.s bI) hb.head (HB.lt (H0:=H0) (hd:=hd) hs (hl' 5 (by decide))) ?_
 exact k _ _ (hb.put h0) (hs.put (by decide) ⟨_,rfl,fun o ho=>Cp o (List.mem_of_mem_take ho),Nat.le_trans (List.length_take_le' ..) (by decide)⟩)
end Mg
section
variable {n:Nat} {σ σ':Loc} {H:Hp} {P:AP} {E:EP} {C:CF} {N B:LP} {T:AP}
theorem vP {H0:Hp} {hd:Nat} {g kvs:List (AK × AV)} (h0:hd ≠ 0) (hb:HB H0 H hd kvs) (hk:cY kvs) (hnd:Nd kvs) (hl:kvs.length <= 50) (hg:cY g) (k:∀ H' kvs',HB H0 H' hd kvs' -> HS kvs (kvs.length + 6) kvs' -> P .none H'):WF (n + 4) fS [.lst 0,.dct hd,.aj g] H P E :=
 bD (p:=fun p=>Mg.Gq p.1 p.2.1 p.2.2.1 p.2.2.2.1 p.2.2.2.2.1 p.2.2.2.2.2.1 p.2.2.2.2.2.2.1 p.2.2.2.2.2.2.2) Mg.tq (n,H,P,E,H0,hd,g,kvs) h0 hb hk hnd hl hg k
end
end
end Mine
end
section
set_option maxRecDepth 10000
namespace Mine
noncomputable section
section
variable {n:Nat} {σ σ':Loc} {H:Hp} {P:AP} {E:EP} {C:CF} {N B:LP} {T:AP}
theorem qO:∀ kvs:List (AK × AV),pairsOf (kvs.map fun p=>AV.tup [bQ p.1,p.2]) = some kvs
 | []=>rfl
 | p :: r=>by show ((keyOf (bQ p.1)).bind fun k=>(pairsOf _).bind fun r=>some ((k,p.2) :: r)) = _; rw [oB,qO r]; rfl
theorem Cn {kvs:List (AK × AV)} (hl:kvs.length <= lim) (hn:Nd kvs) (k:P (.aj kvs) H):gV (.dict true) (.ah (kvs.map fun p=>AV.tup [bQ p.1,p.2])) H P:=by
 with_unfolding_all exact bN (qO kvs) (by rw [se (a:=[]) hn]; exact ⟨hl,k⟩)
theorem qw {a b c:Bool}:Nd (kZ a b c) /\ (kZ a b c).length <= 3:=by
 unfold Nd; cases a <;> cases b <;> cases c <;> decide
noncomputable abbrev dg (a b c:Bool):AV:=.aj [(.s sH,.aj (kZ a b c))]
theorem Jz (a b c:Bool):cond a [AV.str gz] [] ++ (cond b [AV.str nA] [] ++ (cond c [AV.str ny] [] ++ [])) = (sel a b c).map AV.str:=by cases a <;> cases b <;> cases c <;> rfl
theorem DS {elt:TE} {t:bq} {cs:List TE} {k:Nat} {it:It} {Q:List AV -> Hp -> Prop} (h:aT H it = some none) (q:Q [] H):cL C σ elt t cs (k + 1) it H Q:=bN h q
theorem xo {it:Bool} {H0:Hp} {hd k:Nat} {kvs:List (AK × AV)} {v:Nm} {vs:List AV} {Q:List AV -> Hp -> Prop} (h0:hd ≠ 0) (hb:mD it H0 H hd kvs) (l:look σ aq = some (.lst 0))
  (q:∀ (b:Bool) H',mD it H0 H' hd kvs -> H'.length = H.length -> cL (WF (n + 1)) σ (.var gY) (.one gY) [(.cmp .Eq (.call au [(.var aq),(.lit (.int (2)))]) (.lit (.int (1))))] k (.seq vs) H' fun ws H=>Q (cond b [AV.str v] [] ++ ws) H) :
  cL (WF (n + 1)) σ (.var gY) (.one gY) [(.cmp .Eq (.call au [(.var aq),(.lit (.int (2)))]) (.lit (.int (1))))] (k + 1) (.seq (.str v :: vs)) H Q:=by
 refine vr (x:=aq) l ?_
 refine ig (many:=2) h0 hb (by decide) (by decide) fun d H' hd' hb e=>?_
 exact dD (fun _=>q true H' hb e) fun _=>q false H' hb e
theorem MK {it:Bool} {H0:Hp} {hd:Nat} {kvs:List (AK × AV)} {Q:List AV -> Hp -> Prop} (h0:hd ≠ 0) (hb:mD it H0 H hd kvs) (l:look σ aq = some (.lst 0)) (q:∀ a b c H',mD it H0 H' hd kvs -> H'.length = H.length -> Q ((sel a b c).map .str) H') :
  ∃ k,k <= lim /\ cL (WF (n + 1)) σ (.var gY) (.one gY) [(.cmp .Eq (.call au [(.var aq),(.lit (.int (2)))]) (.lit (.int (1))))] k (.seq [.str gz,.str nA,.str ny]) H Q :=
 ⟨4,by decide,xo h0 hb l fun a H1 hb e1=>xo h0 hb l fun b H2 hb e2=>xo h0 hb l fun c H3 hb e3=>DS rfl (by rw [Jz]; exact q a b c H3 hb (e3.trans (e2.trans e1)))⟩
theorem Ci (a b c:Bool):((sel a b c).map AV.str).map (fun v=>AV.tup [v,.int 0]) = (kZ a b c).map fun p=>AV.tup [bQ p.1,p.2]:=by
 unfold kZ; rw [List.map_map,List.map_map]; rfl
theorem sU {it:Bool} {H0:Hp} {hd:Nat} {kvs:List (AK × AV)} (h0:hd ≠ 0) (hb:mD it H0 H hd kvs) (hl:kvs.length <= 100)
  (k:∀ H' a b c s,mD it H0 H' hd (ae (ae kvs (.s df) (dg a b c)) (.s jK) (fH s)) -> H'.length = H.length -> P .none H'):WF (n + 2) fq [.lst 0,.dct hd] H P E:=by
 refine wf xX rfl ?_
 refine MK h0 hb rfl fun a b c X hb e1=>?_
 have hsl:∀ j,3 <= j -> (sel a b c).length <= j:=fun j hj=>Nat.le_trans (List.length_map (f:=fun s=>(AK.s s,AV.int 0)) .. ▸ qw.2) hj
 have kk:=fun H' s=>k H' a b c s
 clear k
 refine ⟨Nat.le_trans (Nat.le_of_eq (List.length_map ..)) (hsl _ (by decide)),?_⟩
 refine comp_map (hl:=few (hsl 8 (by decide))) (I:=fun Y=>Y = X) (f:=fun v=>.tup [v,.int 0]) (fun v hv Y K hY k=>k _ hY) (aZ _) rfl fun Y hY=>?_
 subst hY
 rw [Ci]
 refine ⟨Nat.le_trans (Nat.le_of_eq (List.length_map ..)) (Nat.le_trans qw.2 (by decide)),?_⟩
 refine Cn (Nat.le_trans qw.2 (by decide)) qw.1 ?_
 refine eF (i:=.s df) hb.head (Nat.lt_of_le_of_lt hl (by decide)) ?_
 have hb:=hb.put (kvs':=ae kvs (.s df) (dg a b c)) h0
 have hpl:(ae kvs (.s df) (dg a b c)).length < lim:=Nat.lt_of_le_of_lt (Nat.le_trans gX (Nat.succ_le_succ hl)) (by decide)
 refine ig (many:=3) h0 hb (by decide) (by decide) fun d H' hd' hb e2=>?_
 refine r7 (l:=[gz,nA,ny].map AV.str) (Q:=fun x=>∃ s,x = .str s) hd' (by decide) (fun x hx=>let ⟨s,_,e⟩:=List.mem_map.1 hx; ⟨s,e.symm⟩) fun x ⟨s,e⟩=>?_
 subst e
 refine eF (i:=.s jK) hb.head hpl ?_
 exact kk _ s (hb.put h0) ((List.length_set ..).trans (e2.trans ((List.length_set ..).trans e1)))
end
end
end Mine
end
section
set_option maxRecDepth 10000
namespace Mine
noncomputable section
section
variable {n:Nat} {σ σ':Loc} {H:Hp} {P:AP} {E:EP} {C:CF} {N B:LP} {T:AP}
noncomputable def j6:List Nm:=[aD,df,jK,aV]
structure uK (H H':Hp) (hd m:Nat) (kvs kvs' tab bS:List (AK × AV)) (ws:List Nat) (e:Nat) (v:AV):Prop where
 ext:aL (fun l=>l ≠ 0 /\ l ≠ 1 /\ l ≠ hd) H H'
 pool:bu H'
 head:H'[hd]? = some (.dict true kvs')
 nd:Nd kvs'
 len:kvs'.length <= kvs.length + 4
 same:∀ k,k ∉ j6 -> getKey kvs' (.s k) = getKey kvs (.s k)
 table:H'[1]? = some (.dict true bS)
 iX:ed bS (e - 1)
 le:m + 1 <= e /\ e <= m + 4
 old:∀ j:Nat,j <= m -> getKey bS (.i j) = getKey tab (.i j)
 PB:ws.length <= 8
 fut:∀ Hf a7,aL (fun l=>hd <= l) H' Hf -> (∀ j:Nat,m < j -> j < e -> getKey a7 (.i j) = getKey bS (.i j)) -> getKey a7 (.i m) = some (.tup [.int 0,.dct hd]) ->
  mz Hf a7 kvs' m ws e /\ (∀ w ∈ ws,∃ a b c,jZ Hf a7 w a b c) /\ listOf Hf v = some (ws.map rf)
noncomputable abbrev S0:AV:=aR (.dct 1) (.dct 2)
class inductive qK (X:Hp) (tab:List (AK × AV)) (fl i:Nat):Prop where
 | mk (wl:Nat) (it:Bool) (wk:List (AK × AV)) (a b c:Bool):getKey tab (.i i) = some (.tup [.int 0,.dct wl]) -> X[wl]? = some (.dict it wk) -> fl < wl -> getKey wk (.s df) = some (dg a b c) -> getKey wk (.s gp) = none -> qK X tab fl i
structure uL (H1 X:Hp) (fl m j:Nat) (tab fO:List (AK × AV)):Prop where
 ext:aL (fun l=>l ≠ 0 /\ l ≠ 1 /\ l ≠ fl) H1 X
 pool:bu X
 table:X[1]? = some (.dict true fO)
 iX:ed fO (m + j)
 old:∀ i:Nat,i <= m -> getKey fO (.i i) = getKey tab (.i i)
 found:X[fl]? = some (.list ((List.range' (m + 1) j).map rf))
 each:∀ i:Nat,i ∈ List.range' (m + 1) j -> qK X fO fl i
theorem gW {a:List (AK × AV)} {i j:Nat} {v:AV} (h:j ≠ i):getKey (ae a (.i (j:Int)) v) (.i (i:Int)) = getKey a (.i i):=by rw [lI,if_neg fun e=>h (Int.ofNat_inj.1 (AK.i.inj e))]
theorem qK.imp {X Y:Hp} {tab bS:List (AK × AV)} {fl i:Nat} (h:qK X tab fl i) (e:getKey bS (.i i) = getKey tab (.i i)) (k:∀ l o,fl < l -> X[l]? = some o -> Y[l]? = some o):qK Y bS fl i :=
 h.casesOn fun wl it wk a b c q1 q2 q3 q4 q5=>⟨wl,it,wk,a,b,c,e.trans q1,k _ _ q3 q2,q3,q4,q5⟩
theorem AL {m j:Nat}:(List.range' (m + 1) j).map rf ++ [rf (m + j + 1)] = (List.range' (m + 1) (j + 1)).map rf:=by
 rw [List.range'_concat,List.map_append,Nat.one_mul,Nat.add_right_comm]; rfl
theorem uL.next {H1 X Y:Hp} {fl m j:Nat} {tab fO wk:List (AK × AV)} {a b c it:Bool} (h:uL H1 X fl m j tab fO) (e:aL (fun l=>l ≠ 0 /\ l ≠ X.length) X Y) (hp:bu Y) (hw:Y[X.length]? = some (.dict it wk)) (h1:getKey wk (.s df) = some (dg a b c)) (h2:getKey wk (.s gp) = none) (hfl:1 < fl) :
  uL H1 ((Y.set 1 (.dict true (ae fO (.i ((m + j + 1:Nat):Int)) (.tup [.int 0,.dct X.length])))).set fl (.list ((List.range' (m + 1) j).map rf ++ [rf (m + j + 1)]))) fl m (j + 1) tab (ae fO (.i ((m + j + 1:Nat):Int)) (.tup [.int 0,.dct X.length])):=by
 have f0:fl ≠ 0:=Nat.ne_of_gt (Nat.lt_of_succ_lt hfl)
 have f1:fl ≠ 1:=Nat.ne_of_gt hfl
 have up:∀ l o,l ≠ 0 -> X[l]? = some o -> Y[l]? = some o:=fun l o a q=>e _ _ ⟨a,Nat.ne_of_lt (lt_of_get q)⟩ q
 have key:∀ l o,l ≠ fl -> l ≠ 1 -> Y[l]? = some o -> ((Y.set 1 (.dict true (ae fO (.i ((m + j + 1:Nat):Int)) (.tup [.int 0,.dct X.length])))).set fl (.list ((List.range' (m + 1) j).map rf ++ [rf (m + j + 1)])))[l]? = some o:=fun l o a b q=>(List.getElem?_set_ne (Ne.symm a)).trans ((List.getElem?_set_ne (Ne.symm b)).trans q)
 have g1:=up _ _ (by decide) h.table
 have g2:=up _ _ f0 h.found
 have big:∀ i,i <= m + j -> m + j + 1 ≠ i:=fun i hi=>Nat.ne_of_gt (Nat.lt_succ_of_le hi)
 refine ⟨fun l o hl hx=>key _ _ hl.2.2 hl.2.1 (up _ _ hl.1 (h.ext l o hl hx)),(hp.set (by decide)).set f0,(List.getElem?_set_ne f1).trans (get_set g1),h.iX.add.2,fun i hi=>(gW (big i (Nat.le_trans hi (Nat.le_add_right ..)))).trans (h.old i hi),?_,fun i hi=>?_⟩
 ·rw [← AL]; exact get_set ((List.getElem?_set_ne (Ne.symm f1)).trans g2)
 ·rw [List.range'_concat,List.mem_append,List.mem_singleton,Nat.one_mul] at hi
  refine hi.elim (fun hi=>(h.each i hi).imp (gW (big i ?_)) fun l o hl q=>key _ _ (Nat.ne_of_gt hl) (Nat.ne_of_gt (Nat.lt_trans hfl hl)) (up _ _ (Nat.ne_of_gt (Nat.lt_of_le_of_lt (Nat.zero_le _) hl)) q)) fun hi=>?_
  ·rw [List.mem_range'_1] at hi; exact Nat.le_of_lt_succ (Nat.lt_of_lt_of_eq hi.2 (Nat.add_right_comm m 1 j))
  ·rw [Nat.add_right_comm] at hi
   subst hi
   exact ⟨X.length,it,wk,a,b,c,dX,key _ _ (Nat.ne_of_gt (lt_of_get h.found)) (Nat.ne_of_gt (lt_of_get h.table)) hw,lt_of_get h.found,h1,h2⟩
structure GR (σ:Loc) (m hd fl:Nat):Prop where
 pool:look σ aq = some (.lst 0)
 fL:look σ aa = some S0
 home:look σ aE = some (rf m)
 head:look σ ai = some (.dct hd)
 found:look σ aw = some (.lst fl)
theorem nX {kvs:List (AK × AV)} {k k':Nm} {v:AV} (hk:k ∈ j6) (hk':k' ∉ j6):getKey (ae kvs (.s k) v) (.s k') = getKey kvs (.s k'):=cM fun e=>hk' (e ▸ hk)
theorem rH {c:Nat} {k:AK} {v:AV} {a:List (AK × AV)} (h:a.length <= c):(ae a k v).length <= c + 1:=Nat.le_trans gX (Nat.succ_le_succ h)
theorem A7 {hd m:Nat} {kvs tab:List (AK × AV)} (hm:m <= 500) (h5:5 <= hd) {H1:Hp} (vt:aL (fun l=>l ≠ 0 /\ l ≠ 1 /\ l ≠ hd) H H1) (hp:bu H1) (hh:H1[hd]? = some (.dict true kvs)) (hnd:Nd kvs) (hl:kvs.length <= 50) (ht:H1[1]? = some (.dict true tab)) (hT:ed tab m)
  (hx:∀ k,k ∈ j6 -> getKey kvs (.s k) = none) (l1:look σ aq = some (.lst 0)) (l3:look σ aE = some (rf m)) (l4:look σ ai = some (.dct hd))
  (k:∀ H' v kvs' ws e bS,uK H H' hd m kvs kvs' tab bS ws e v -> T v H'):aH (WF (n + 2)) [.expr (.call fq [(.var aq),(.var ai)]),.ite (.cmp .Eq (.call au [(.var aq),(.lit (.int (2)))]) (.lit (.int (0)))) [.store (.var ai) (.lit (.str aV)) (.new cO [(.lit (.str cA))])] [],.ret (.ite (.cmp .In (.lit (.str aV)) (.var ai)) (.list true [(.var aE)]) (.list false []))] σ H1 N B T E:=by
 have h0:hd ≠ 0:=Nat.ne_of_gt (Nat.lt_of_lt_of_le (by decide) h5)
 have h1:hd ≠ 1:=Nat.ne_of_gt (Nat.lt_of_lt_of_le (by decide) h5)
 refine vr l1 ?_
 refine vr l4 ?_
 refine sU h0 ⟨.refl _,hp,hh⟩ (Nat.le_trans hl (by decide)) fun H2 a b c s hb hlen=>?_
 refine vr l1 ?_
 refine ig (many:=2) h0 hb (by decide) (by decide) fun d2 H3 hd2 hb _=>?_
 have NV:=hb.ext _ _ ⟨by decide,Ne.symm h1⟩ ht
 have ml:aL (fun l=>l ≠ 0 /\ l ≠ 1 /\ l ≠ hd) H H3:=vt.trans (hb.ext.mono fun l h=>⟨h.1,h.2.2⟩)
 have Nt:Nd (ae (ae kvs (.s df) (dg a b c)) (.s jK) (fH s)):=kO (kO hnd)
 have Lb:getKey (ae (ae kvs (.s df) (dg a b c)) (.s jK) (fH s)) (.s df) = some (dg a b c):=(cM (by decide)).trans dX
 have gK:getKey (ae (ae kvs (.s df) (dg a b c)) (.s jK) (fH s)) (.s aD) = none:=(cM (by decide)).trans ((cM (by decide)).trans (hx _ (by decide)))
 have gS:getKey (ae (ae kvs (.s df) (dg a b c)) (.s jK) (fH s)) (.s aV) = none:=(cM (by decide)).trans ((cM (by decide)).trans (hx _ (by decide)))
 have gl:(ae (ae kvs (.s df) (dg a b c)) (.s jK) (fH s)).length <= kvs.length + 2:=rH gX
 have gs:∀ k,k ∉ j6 -> getKey (ae (ae kvs (.s df) (dg a b c)) (.s jK) (fH s)) (.s k) = getKey kvs (.s k):=fun k hk=>(nX (by decide) hk).trans (nX (by decide) hk)
 generalize ae (ae kvs (.s df) (dg a b c)) (.s jK) (fH s) = Kc at *
 have NH:m + 1 <= m + 1 /\ m + 1 <= m + 4:=⟨Nat.le_refl _,Nat.add_le_add_left (by decide) _⟩
 have old:∀ j:Nat,j <= m -> getKey tab (.i j) = getKey tab (.i j):=fun _ _=>rfl
 refine dD (fun _=>?_) fun _=>?_
 ·refine vr l4 ?_
  refine eF (i:=.s aV) hb.head (Nat.lt_of_le_of_lt (Nat.le_trans gl (Nat.add_le_add_right hl 2)) (by decide)) ?_
  have hb:=hb.put (kvs':=ae Kc (.s aV) (fH cA)) h0
  refine vr l4 ?_
  refine rS (k:=.s aV) (fg hb.head) ?_
  rw [dX]
  refine vr l3 ?_
  refine k _ _ _ [m] (m + 1) tab ⟨ml.set fun q=>q.2.2 rfl,hb.pool,hb.head,kO Nt,Nat.le_trans (rH gl) (Nat.le_succ _),fun k hk=>(nX (by decide) hk).trans (gs k hk),(List.getElem?_set_ne h1).trans NV,hT,NH,old,(by decide:1 <= 8),fun Hf a7 q1 q2 q3=>⟨.own ((cM (by decide)).trans gK) dX,fun w hw=>?_,rfl⟩⟩
  rw [List.mem_singleton.1 hw]
  exact ⟨a,b,c,.dct hd,ae Kc (.s aV) (fH cA),q3,fg (q1 _ _ (Nat.le_refl _) hb.head),rfl,(cM (by decide)).trans Lb⟩
 ·refine vr l4 ?_
  refine rS (k:=.s aV) (fg hb.head) ?_
  rw [gS]
  exact k _ _ Kc [] (m + 1) tab ⟨ml.app,hb.pool.app,Ext.app _ _ hb.head,Nt,Nat.le_trans gl (Nat.add_le_add_left (by decide) _),gs,Ext.app _ _ NV,hT,NH,old,Nat.zero_le _,fun Hf a7 q1 q2 q3=>⟨.bare gK gS,fun w hw=>absurd hw List.not_mem_nil,dG (q1 H3.length _ (Nat.le_of_lt (lt_of_get hb.head)) getL)⟩⟩
theorem CZ {hd m j:Nat} {tab fO:List (AK × AV)} {H1:Hp} {fl:Nat} (hm:m <= 500) (hj:j <= 3) (h1:1 < fl) (V:GR σ m hd fl) {X:Hp} (W:uL H1 X fl m j tab fO)
  (k:∀ σ' Y bS,GR σ' m hd fl -> uL H1 Y fl m (j + 1) tab bS -> N σ' Y):aH (WF (n + 2)) [.assign (.one bw) (.dict false [((.lit (.str aV)),(.new cO [(.lit (.str cA))])),((.lit (.str cU)),(.var aE))]),.expr (.call fq [(.var aq),(.var bw)]),.expr (.aF (.var aw) bK [(.aF (.var aa) sG [(.var bw)])])] σ X N B T E:=by
 have Dq:=lt_of_get W.table
 have QR:X.length ≠ 0:=Nat.ne_of_gt (Nat.lt_trans (by decide) Dq)
 refine vr V.home ?_
 refine vr (x:=aq) V.pool ?_
 refine sU (H0:=X ++ [.dict false [(.s aV,fH cA),(.s cU,rf m)]]) (hd:=X.length) (it:=false) (kvs:=[(.s aV,fH cA),(.s cU,rf m)]) QR ⟨.refl _,W.pool.app,getL⟩ (by decide:2 <= 100) fun Y a b c s hb hlen=>?_
 have Lb:getKey (ae (ae [(.s aV,fH cA),(.s cU,rf m)] (.s df) (dg a b c)) (.s jK) (fH s)) (.s df) = some (dg a b c):=(cM (by decide)).trans dX
 have gT:getKey (ae (ae [(.s aV,fH cA),(.s cU,rf m)] (.s df) (dg a b c)) (.s jK) (fH s)) (.s gp) = none:=(cM (by decide)).trans ((cM (by decide)).trans rfl)
 generalize ae (ae [(.s aV,fH cA),(.s cU,rf m)] (.s df) (dg a b c)) (.s jK) (fH s) = wk at *
 have Lu:aL (fun l=>l ≠ 0 /\ l ≠ X.length) X Y:=Ext.app.HH.trans hb.ext
 have Qy:=Lu _ _ ⟨by decide,Nat.ne_of_lt Dq⟩ W.table
 have N5:=Lu _ _ ⟨Nat.ne_of_gt (Nat.lt_trans (by decide) h1),Nat.ne_of_lt (lt_of_get W.found)⟩ W.found
 refine vr (x:=aw) V.found ?_
 refine sL N5 ?_
 refine vr (x:=aa) V.fL ?_
 refine cC ⟨rfl,rfl⟩ ?_
 refine wi Qy W.iX (Nat.le_trans (Nat.add_le_add hm hj) (by decide)) ?_
 refine fj ((List.getElem?_set_ne (Nat.ne_of_lt h1)).trans N5) (Nat.lt_of_le_of_lt (Nat.le_trans (Nat.le_of_eq ((List.length_map ..).trans List.length_range')) hj) (by decide)) ?_
 exact k _ _ _ ⟨V.pool,V.fL,V.home,V.head,V.found⟩ (W.next Lu hb.pool hb.head Lb gT h1)
theorem vO {hd m:Nat} {kvs tab:List (AK × AV)} (hm:m <= 500) (h5:5 <= hd) (hp:bu H) (hh:H[hd]? = some (.dict true kvs)) (hnd:Nd kvs) (hl:kvs.length <= 50) (ht:H[1]? = some (.dict true tab)) (hT:ed tab m) (h1:1 <= m)
  (hx:∀ k,k ∈ j6 -> getKey kvs (.s k) = none)
  (k:∀ H' v kvs' ws e bS,uK H H' hd m kvs kvs' tab bS ws e v -> P v H'):WF (n + 3) dW [.lst 0,S0,rf m,.dct hd] H P E:=by
 have h0:hd ≠ 0:=Nat.ne_of_gt (Nat.lt_of_lt_of_le (by decide) h5)
 refine wf tw rfl ?_
 refine jz (many:=4) hp (by decide) (by decide) fun d H1 hd' e1 e2 e3=>?_
 have ht1:=e1 _ _ (by decide) ht
 have KS:=e1 _ _ h0 hh
 have vt:aL (fun l=>l ≠ 0 /\ l ≠ 1 /\ l ≠ hd) H H1:=e1.mono fun l h=>h.1
 clear ht hh hp
 refine dD (fun _=>A7 hm h5 vt e2 KS hnd hl ht1 hT hx rfl rfl rfl k) fun hd0=>?_
 have hd1:1 <= d:=Nat.pos_of_ne_zero fun e=>hd0 (congrArg _ e)
 clear hd0
 have mi:d <= 3:=Nat.le_of_lt_succ hd'
 have Hv:=lt_of_get KS
 have hfl:1 < H1.length:=Nat.lt_of_lt_of_le (by decide) (Nat.le_trans h5 (Nat.le_of_lt Hv))
 refine ⟨⟨Int.natCast_nonneg _,Int.ofNat_le.2 (Nat.le_trans mi (by decide))⟩,?_⟩
 refine ⟨_,lN (I:=fun _=>True) (J:=fun rs σ X=>GR σ m hd H1.length /\ ∃ j fO,j + rs.length = d /\ uL (H1 ++ [.list []]) X H1.length m j tab fO) (fun _ _ _ _=>trivial)
   (fun v rs σ X N' hj k'=>?_) (fun σ X hj=>?_) _ _ _ _ (aZ _) ⟨⟨rfl,rfl,rfl,rfl,rfl⟩,0,tab,?_,.refl _,e2.app,Ext.app _ _ ht1,hT,fun _ _=>rfl,getL,fun i hi=>absurd hi List.not_mem_nil⟩⟩
 ·obtain ⟨V,j,fO,xF,W⟩:=hj
  have QJ:j <= 3:=Nat.le_trans (Nat.le_add_right j (v :: rs).length) (Nat.le_trans (Nat.le_of_eq xF) mi)
  have xF:j + 1 + rs.length = d:=(Nat.add_right_comm j 1 rs.length).trans xF
  refine bind1 ?_
  refine CZ (hd:=hd) hm QJ hfl ?_ W (fun σ' Y bS V' W'=>?_)
  ·exact ⟨V.pool,V.fL,V.home,V.head,V.found⟩
  ·exact k' _ _ ⟨V',j + 1,bS,xF,W'⟩
 ·obtain ⟨V,j,fO,xF,W⟩:=hj
  have hj:j = d:=xF
  subst hj
  clear xF
  have N3:=W.ext hd _ ⟨h0,Nat.ne_of_gt (Nat.lt_of_lt_of_le (by decide) h5),Nat.ne_of_lt Hv⟩ (Ext.app _ _ KS)
  have key:∀ l o,l ≠ hd -> X[l]? = some o -> (X.set hd (.dict true (ae kvs (.s aD) (.ah ((List.range' (m + 1) j).map rf)))))[l]? = some o:=fun l o a q=>(List.getElem?_set_ne (Ne.symm a)).trans q
  have len:((List.range' (m + 1) j).map rf).length <= 3:=Nat.le_trans (Nat.le_of_eq ((List.length_map ..).trans List.length_range')) mi
  refine vr V.found ?_
  refine JL (dG W.found) (Nat.le_trans len (by decide)) ?_
  refine vr V.head ?_
  refine eF (i:=.s aD) N3 (Nat.lt_of_le_of_lt hl (by decide)) ?_
  refine vr V.found ?_
  have Om:∀ Hf,aL (fun l=>hd <= l) (X.set hd (.dict true (ae kvs (.s aD) (.ah ((List.range' (m + 1) j).map rf))))) Hf -> ∀ l o,H1.length <= l -> X[l]? = some o -> Hf[l]? = some o:=fun Hf q1 l o hl q=>q1 _ _ (Nat.le_trans (Nat.le_of_lt Hv) hl) (key _ _ (Nat.ne_of_gt (Nat.lt_of_lt_of_le Hv hl)) q)
  have at_:∀ Hf a7,aL (fun l=>hd <= l) (X.set hd (.dict true (ae kvs (.s aD) (.ah ((List.range' (m + 1) j).map rf))))) Hf -> (∀ i:Nat,m < i -> i < m + 1 + j -> getKey a7 (.i i) = getKey fO (.i i)) -> ∀ i,i ∈ List.range' (m + 1) j -> qK Hf a7 H1.length i:=fun Hf a7 q1 q2 i hi=>by
   have hm:=List.mem_range'_1.1 hi
   exact (W.each i hi).imp (q2 i hm.1 hm.2) fun l o hl q=>Om Hf q1 l o (Nat.le_of_lt hl) q
  refine k _ _ (ae kvs (.s aD) (.ah ((List.range' (m + 1) j).map rf))) (List.range' (m + 1) j) (m + 1 + j) fO ⟨?_,W.pool.set h0,get_set N3,kO hnd,Nat.le_trans gX (Nat.add_le_add_left (by decide) _),fun k hk=>nX (by decide) hk,key _ _ (Nat.ne_of_lt (Nat.lt_of_lt_of_le (by decide) h5)) W.table,(Nat.add_right_comm m 1 j).symm ▸ W.iX,⟨Nat.le_add_right ..,Nat.add_le_add_left mi (m + 1)⟩,W.old,Nat.le_trans (Nat.le_of_eq List.length_range') (Nat.le_trans mi (by decide)),fun Hf a7 q1 q2 q3=>⟨.kids j hd1 (Nat.le_trans mi (by decide)) dX fun i hi=>?_,fun w hw=>?_,dG (Om Hf q1 _ _ (Nat.le_refl _) W.found)⟩⟩
  ·exact aL.set (fun l o hl hx=>W.ext _ _ ⟨hl.1,hl.2.1,Nat.ne_of_lt (lt_of_get (vt _ _ hl hx))⟩ (Ext.app _ _ (vt _ _ hl hx))) fun q=>q.2.2 rfl
  ·exact (at_ Hf a7 q1 q2 i hi).casesOn fun wl it wk a b c r1 r2 r3 r4 r5=>⟨.dct wl,wk,⟨r1,fg r2⟩,r5,fun _ h=>nomatch h⟩
  ·exact (at_ Hf a7 q1 q2 w hw).casesOn fun wl it wk a b c r1 r2 r3 r4 r5=>⟨a,b,c,.dct wl,wk,r1,fg r2,rfl,r4⟩
 ·exact (Nat.zero_add _).trans ((List.length_map ..).trans List.length_range)
end
end
end Mine
end
section
set_option maxRecDepth 10000
namespace Mine
noncomputable section
section
variable {n:Nat} {σ σ':Loc} {H:Hp} {P:AP} {E:EP} {C:CF} {N B:LP} {T:AP}
class inductive lF (H:Hp) (lf:Lf):AV -> Prop where
 | mk (w:AV) (wk:List (AK × AV)) (wv:AV):dictOf H w = some wk -> mC wk lf -> listOf H wv = some (lf.lP.map rf) -> lF H lf (.tup [.str lf.name,rf lf.num,eB lf.above,w,wv])
noncomputable def Px (H:Hp) (tab:List (AK × AV)) (M M':Nat) (items:List AV) (ls:List Lf):Prop:=∀ rest xm e,Walks H tab (M' + 1) rest xm e -> Walks H tab (M + 1) (items ++ rest) (ls ++ xm) e
noncomputable def nP (H:Hp) (tab:List (AK × AV)) (ls:List Lf):Prop:=∀ lf ∈ ls,∀ w ∈ lf.lP,∃ a b c,jZ H tab w a b c
noncomputable def Named (H:Hp) (tab:List (AK × AV)) (k:Nat):Prop:=∃ d dk b,cg H tab k d dk /\ gf dk (some b)
structure Mn (H:Hp) (tab:List (AK × AV)) (M M':Nat) (items:List AV) (ks:List Nat) (jP:Prop) (ls:List Lf) (rows:List AV):Prop where
 walk:Px H tab M M' items ls
 rows:bL (lF H) ls rows
 look:nP H tab ls
 named:jP -> ∀ k ∈ ks,Named H tab k
noncomputable def GU (tab bS:List (AK × AV)) (M M':Nat):Prop:=∀ j:Nat,M < j -> j <= M' -> getKey tab (.i j) = getKey bS (.i j)
structure Sub (c:Nat) (ab:Option Nat) (nm:Option Nm) (g:List (AK × AV)) (jP:Prop) (H':Hp) (bS:List (AK × AV)) (M M':Nat) (ks:List Nat) (ls:List Lf) (rows:List AV):Prop where
 good:∀ lf ∈ ls,dI lf
 out:∀ Hf a7,aL (fun l=>c <= l) H' Hf -> GU a7 bS M M' -> Mn Hf a7 M M' (ks.map fun k=>jO k ab nm g) ks jP ls rows
structure BS (H:Hp) (M:Nat) (tab:List (AK × AV)) (rws b9:List AV):Prop where
 pool:bu H
 table:H[1]? = some (.dict true tab)
 iX:ed tab M
 one:1 <= M
 rows:H[3]? = some (.list rws)
 groups:H[4]? = some (.list b9)
 rl:rws.length <= M
 gl:b9.length <= M
noncomputable abbrev sA:Nat -> Prop:=fun l=>l ≠ 0 /\ l ≠ 1 /\ l ≠ 3 /\ l ≠ 4
theorem iY {j:Nat} {l:Nat} (h:5 <= l) (hj:j < 5):l ≠ j:=Nat.ne_of_gt (Nat.lt_of_lt_of_le hj h)
theorem rK {l:Nat} (h:5 <= l):sA l:=⟨iY h (by decide),iY h (by decide),iY h (by decide),iY h (by decide)⟩
noncomputable def sz:Nat -> Nat
 | 0=>19
 | 1=>9
 | _=>4
noncomputable def lv:Nat -> Nat
 | 0=>4
 | 1=>2
 | _=>1
structure rW (deep:Nat) (ab:Option Nat) (nm:Option Nm) (g:List (AK × AV)) (H H':Hp) (M M':Nat) (tab bS:List (AK × AV)) (rws fU:List AV) (ls:List Lf) (rows:List AV):Prop where
 bs:BS H' M' bS (rws ++ rows) fU
 ext:aL sA H H'
 len:H.length <= H'.length
 cnt:rows.length <= lv deep
 le:M + 1 <= M' /\ M' <= M + sz deep
 old:∀ j:Nat,j <= M -> getKey bS (.i j) = getKey tab (.i j)
 sub:Sub H.length ab nm g (0 < deep) H' bS M M' [M + 1] ls rows
noncomputable def gR (deep:Nat) (nm:Option Nm):Prop:=∀ a,nm = some a -> a.length <= 2 * deep /\ 100 ∉ a
noncomputable def iH (deep f:Nat):Prop:=∀ (n:Nat) (H:Hp) (P:AP) (E:EP) (M:Nat) (ab:Option Nat) (nm:Option Nm) (g tab:List (AK × AV)) (rws b9:List AV),
 M + sz deep <= 100 -> BS H M tab rws b9 -> cY g -> g.length <= 6 -> gR deep nm ->
 (∀ H' M' bS fU ls rows,rW deep ab nm g H H' M M' tab bS rws fU ls rows -> P (rf (M + 1)) H') ->
 WF (n + f) dQ [.lst 0,S0,eB ab,jE nm,.aj g,.int deep,.lst 3,.lst 4] H P E
structure oQ (c:Nat) (jP:Prop) (deep:Nat) (ab:Option Nat) (nm:Option Nm) (g:List (AK × AV)) (H X:Hp) (M Mi:Nat) (tab cH:List (AK × AV)) (rws ib:List AV) (ks:List Nat) (ls:List Lf) (rows:List AV):Prop where
 bs:BS X Mi cH (rws ++ rows) ib
 ext:aL sA H X
 len:H.length <= X.length
 cnt:rows.length <= ks.length * lv deep
 le:M + ks.length <= Mi /\ Mi <= M + ks.length * sz deep
 old:∀ j:Nat,j <= M -> getKey cH (.i j) = getKey tab (.i j)
 sub:Sub c ab nm g jP X cH M Mi ks ls rows
theorem uJ {α:Type} {p:α -> Prop} {a b:List α} (h:∀ x ∈ a,p x) (k:∀ x ∈ b,p x):∀ x ∈ a ++ b,p x:=fun x hx=>(List.mem_append.1 hx).elim (h x) (k x)
theorem oQ.snoc {c deep:Nat} {jP:Prop} {ab:Option Nat} {nm:Option Nm} {g:List (AK × AV)} {H X Y:Hp} {M Mi Mj:Nat} {tab cH fO:List (AK × AV)} {rws ib K9:List AV} {ks:List Nat} {ls Hh:List Lf} {rows wd:List AV}
  (h:oQ c jP deep ab nm g H X M Mi tab cH rws ib ks ls rows) (p:rW deep ab nm g X Y Mi Mj cH fO (rws ++ rows) K9 Hh wd) (hc:c <= X.length) (hf:jP -> 0 < deep) (h5:5 <= c):oQ c jP deep ab nm g H Y M Mj tab fO rws K9 (ks ++ [Mi + 1]) (ls ++ Hh) (rows ++ wd):=by
 have hM:M <= Mi:=Nat.le_trans (Nat.le_add_right ..) h.le.1
 have QT:Mi <= Mj:=Nat.le_of_succ_le p.le.1
 refine ⟨by rw [← List.append_assoc]; exact p.bs,h.ext.trans p.ext,Nat.le_trans h.len p.len,?_,⟨?_,?_⟩,fun j hj=>(p.old j (Nat.le_trans hj hM)).trans (h.old j hj),uJ h.sub.good p.sub.good,fun Hf a7 q1 q2=>?_⟩
 ·rw [List.length_append,List.length_append,List.length_singleton,Nat.add_mul,Nat.one_mul]; exact Nat.add_le_add h.cnt p.cnt
 ·rw [List.length_append]; exact Nat.le_trans (Nat.succ_le_succ h.le.1) p.le.1
 ·rw [List.length_append,List.length_singleton,Nat.add_mul,Nat.one_mul,← Nat.add_assoc]; exact Nat.le_trans p.le.2 (Nat.add_le_add_right h.le.2 _)
 ·have a:=h.sub.out Hf a7 ((p.ext.mono fun l hl=>rK (Nat.le_trans h5 hl)).trans q1) fun j h1 h2=>(q2 j h1 (Nat.le_trans h2 QT)).trans (p.old j h2)
  have b:=p.sub.out Hf a7 (q1.mono fun l hl=>Nat.le_trans hc hl) fun j h1 h2=>q2 j (Nat.lt_of_le_of_lt hM h1) h2
  refine ⟨fun rest xm e hw=>?_,a.rows.app b.rows,uJ a.look b.look,fun hi=>uJ (a.named hi) (b.named (hf hi))⟩
  rw [List.map_append,List.append_assoc,List.append_assoc]
  exact a.walk _ _ e (b.walk _ _ e hw)
class inductive KJ (d c:Nat) (jP:Prop) (deep:Nat) (ab:Option Nat) (nm:Option Nm) (g:List (AK × AV)) (H:Hp) (M:Nat) (tab:List (AK × AV)) (rws:List AV) (rs:List AV):List AV -> Hp -> Prop where
 | mk (X:Hp) (Mi:Nat) (cH:List (AK × AV)) (ib:List AV) (ks:List Nat) (ls:List Lf) (rows:List AV):ks.length + rs.length = d -> oQ c jP deep ab nm g H X M Mi tab cH rws ib ks ls rows -> KJ d c jP deep ab nm g H M tab rws rs (ks.map rf) X
theorem C6 {f c deep:Nat} {jP:Prop} {ab:Option Nat} {nm:Option Nm} {g tab:List (AK × AV)} {M d:Nat} {rws b9:List AV} {elt:TE} {Q:List AV -> Hp -> Prop} (spec:iH deep f) (hb:BS H M tab rws b9) (hg:cY g) (k9:g.length <= 6) (hnm:gR deep nm) (hc:c = H.length) (h5:5 <= c) (hf:jP -> 0 < deep) (hd:d <= 2) (hM:M + 2 * sz deep <= 100)
  (hE:∀ v X (P:AP),WF (n + f) dQ [.lst 0,S0,eB ab,jE nm,.aj g,.int deep,.lst 3,.lst 4] X P ee -> elt C ((jF,v) :: σ) X P ee)
  (k:∀ X Mi cH ib ks ls rows,ks.length = d -> oQ c jP deep ab nm g H X M Mi tab cH rws ib ks ls rows -> Q (ks.map rf) X) :
  ∃ k,k <= lim /\ cL C σ elt (.one jF) [] k (.seq ((List.range d).map fun (k:Nat)=>AV.int (k:Int))) H Q:=by
 refine ⟨_,few (by rw [List.length_range]; omega),gC (I:=fun _=>True) (J:=fun rs=>KJ d c jP deep ab nm g H M tab rws rs) (fun _ _ _ _=>trivial)
  (fun v rs acc X K L hj kk _=>?_) _ _ [] _ _ (aZ _) ⟨_,M,tab,b9,[],[],[],?_,?_,.refl _,Nat.le_refl _,Nat.zero_le _,⟨Nat.le_refl _,Nat.le_add_right ..⟩,fun _ _=>rfl,fun lf h=>absurd h List.not_mem_nil,fun Hf a7 _ _=>⟨fun rest xm e hw=>hw,.nil,fun lf h=>absurd h List.not_mem_nil,fun _ k h=>absurd h List.not_mem_nil⟩⟩ fun vs X hj=>?_⟩
 ·refine hj.casesOn (motive:=fun acc X _=>(∀ w H',KJ d c jP deep ab nm g H M tab rws rs (acc ++ [w]) H' -> K w H') -> elt C ((jF,v) :: σ) X K ee) (fun X Mi cH ib ks ls rows h1 J kk=>?_) kk
  have hk1:ks.length + 1 <= 2:=Nat.le_trans (Nat.add_le_add_left (Nat.succ_le_succ (Nat.zero_le rs.length)) _) (Nat.le_trans (Nat.le_of_eq h1) hd)
  refine hE v X _ (spec _ _ _ _ Mi ab nm g cH _ ib ?_ J.bs hg k9 hnm fun H' M' bS fU Hh wd np=>kk _ _ ?_)
  ·refine Nat.le_trans (Nat.add_le_add_right J.le.2 _) (Nat.le_trans ?_ hM)
   rw [Nat.add_assoc,← Nat.succ_mul]; exact Nat.add_le_add_left (Nat.mul_le_mul_right _ hk1) _
  ·have e:ks.map rf ++ [rf (Mi + 1)] = (ks ++ [Mi + 1]).map rf:=(List.map_append (f:=rf) (l₁:=ks) (l₂:=[Mi + 1])).symm
   rw [e]
   exact ⟨_,M',bS,fU,_,ls ++ Hh,rows ++ wd,by rw [List.length_append,Nat.add_assoc,Nat.add_comm [_].length]; exact h1,J.snoc np (hc ▸ J.len) hf h5⟩
 ·exact (Nat.zero_add _).trans ((List.length_map ..).trans List.length_range)
 ·rw [List.append_nil]; exact hb
 ·rw [List.nil_append] at hj
  exact hj.casesOn (motive:=fun acc X _=>Q acc X) fun X Mi cH ib ks ls rows h1 J=>k X Mi cH ib ks ls rows h1 J
end
end
end Mine
end
section
set_option maxRecDepth 10000
namespace Mine
noncomputable section
section
variable {n:Nat} {σ σ':Loc} {H:Hp} {P:AP} {E:EP} {C:CF} {N B:LP} {T:AP}
structure NL (σ:Loc) (M c:Nat) (ab:Option Nat) (nm:Option Nm) (g:List (AK × AV)) (deep:Nat) (full:Option Nm):Prop where
 pool:look σ aq = some (.lst 0)
 fL:look σ aa = some S0
 above:look σ aJ = some (eB ab)
 given:look σ bZ = some (.aj g)
 deep:look σ iy = some (.int deep)
 rows:look σ aS = some (.lst 3)
 groups:look σ bM = some (.lst 4)
 home:look σ aE = some (rf (M + 1))
 head:look σ ai = some (.dct c)
 full:look σ bA = some (jE full)
structure NA (H H':Hp) (M c:Nat) (tab kvs:List (AK × AV)) (p:Option (List Nat)) (deep:Nat):Prop where
 at_:c = H.length
 ext:aL (fun l=>l ≠ 0 /\ l ≠ 1) H H'
 pool:bu H'
 table:H'[1]? = some (.dict true (ae tab (.i ((M + 1:Nat):Int)) (.tup [.int 0,.aj []])))
 head:H'[c]? = some (.dict true kvs)
 ok:cY kvs
 nd:Nd kvs
 len:kvs.length <= 20
 nm:gf kvs p
 part:∀ b,p = some b -> b = [97] \/ b = [98] \/ b = [99]
 deep:0 < deep -> p.isSome = true
 j6:∀ k,k ∈ j6 -> getKey kvs (.s k) = none
theorem MC {x:Nat} (k:P (.int x) H):gV .ord (.str [x]) H P:=by with_unfolding_all exact k
theorem EB {x:Nat} (h:x < 256) (k:P (.bytes [x]) H):gV .bytes (.ah [.int x]) H P:=by
 with_unfolding_all refine ⟨⟨(by decide:1 <= 4096),?_⟩,k⟩
 show ((decide (0 <= (x:Int)) && decide ((x:Int) < 256)) && true) = true
 rw [decide_eq_true (Int.natCast_nonneg x),decide_eq_true (show (x:Int) < 256 from Int.ofNat_lt.2 h)]; rfl
noncomputable def jo (p:Option (List Nat)):List (AK × AV):=p.elim [] fun b=>ae [] (.s gp) (stI b)
noncomputable def qI (p:Option (List Nat)) (ab:Option Nat):List (AK × AV):=ab.elim (jo p) fun a=>ae (jo p) (.s cU) (rf a)
theorem vG {p:Option (List Nat)} {ab:Option Nat} {k:Nm} (h1:k ≠ gp) (h2:k ≠ cU):getKey (qI p ab) (.s k) = none :=
 have h:getKey (jo p) (.s k) = none:=by cases p with
  | none=>rfl
  | some b=>exact cM (a:=[]) (Ne.symm h1)
 by cases ab with
 | none=>exact h
 | some a=>exact (cM (a:=jo p) (Ne.symm h2)).trans h
theorem uH {p:Option (List Nat)}:getKey (jo p) (.s gp) = p.map stI:=by cases p with
 | none=>rfl
 | some b=>exact dX (a:=[])
theorem Jf {p:Option (List Nat)} {ab:Option Nat}:getKey (qI p ab) (.s gp) = p.map stI:=by cases ab with
 | none=>exact uH
 | some a=>exact (cM (a:=jo p) (by decide)).trans uH
theorem mu {p:Option (List Nat)}:Nd (jo p) /\ (jo p).length <= 1:=by cases p with
 | none=>exact ⟨List.nodup_nil,Nat.zero_le _⟩
 | some b=>exact ⟨kO (a:=[]) List.nodup_nil,gX (a:=[])⟩
theorem rT {p:Option (List Nat)} {ab:Option Nat}:Nd (qI p ab) /\ (qI p ab).length <= 2:=by cases ab with
 | none=>exact ⟨mu.1,Nat.le_succ_of_le mu.2⟩
 | some a=>exact ⟨kO (a:=jo p) mu.1,rH (a:=jo p) mu.2⟩
theorem FZ {p:Option (List Nat)} {ab:Option Nat}:cY (qI p ab):=fun k hk v q=>nn ((vG (fun e=>absurd (e ▸ hk) (by decide:gp ∉ dm)) fun e=>absurd (e ▸ hk) (by decide:cU ∉ dm)).symm.trans q)
theorem IV {hd x deep:Nat} {kvs:List (AK × AV)} {p nm:Option Nm} (l1:look σ ai = some (.dct hd)) (l2:look σ aK = some (jE nm)) (l3:look σ c9 = some (.str [x])) (hh:H[hd]? = some (.dict true kvs)) (hT:getKey kvs (.s gp) = p.map stI) (hp:p = some [x] \/ p = none /\ deep = 0) (hnm:gR deep nm) (jR:deep <= 2)
  (k:N ((bA,jE (longer nm p)) :: σ) H):hdS bP.body.tail.tail.tail C σ H N B T E:=by
 refine vr l1 ?_
 refine wy (k:=.s gp) (fg hh) ?_
 rw [hT]
 rcases hp with rfl | ⟨rfl,_⟩
 ·refine vr l2 ?_
  cases nm with
  | none=>refine vr l3 ?_; exact k
  | some a=>
   have h:a.length <= 4:=Nat.le_trans (hnm a rfl).1 (Nat.mul_le_mul_left 2 jR)
   refine vr l2 ?_
   refine qJ (Nat.le_trans (Nat.add_le_add_right h _) (by decide)) ?_
   refine vr l3 ?_
   refine qJ (by rw [List.length_append]; exact Nat.le_trans (Nat.add_le_add_right (Nat.add_le_add_right h 1) 1) (by decide)) ?_
   exact k
 ·refine vr l2 ?_
  cases nm <;> exact k
theorem E1 {hd:Nat} {p:Option Nm} {ab:Option Nat} {H0:Hp} (h0:hd ≠ 0) (l1:look σ ai = some (.dct hd)) (l2:look σ aJ = some (eB ab)) (hb:HB H0 H hd (jo p)) (k:∀ H,HB H0 H hd (qI p ab) -> N σ H):hdS bP.body.tail.tail.tail.tail C σ H N B T E:=by
 refine vr l2 ?_
 cases ab with
 | none=>exact k H hb
 | some a=>
  refine vr l2 ?_
  refine vr l1 ?_
  refine eF (i:=.s cU) hb.head (Nat.lt_of_le_of_lt mu.2 (by decide)) ?_
  exact k _ (hb.put h0)
theorem IL {hd x deep:Nat} {H0:Hp} (h0:hd ≠ 0) (hx:x < 256) (l0:look σ aq = some (.lst 0)) (l1:look σ ai = some (.dct hd)) (l2:look σ c9 = some (.str [x])) (l3:look σ iy = some (.int deep)) (hb:HB H0 H hd []) (k:∀ H p,HB H0 H hd (jo p) -> (p = some [x] \/ p = none /\ deep = 0) -> N σ H):hdS bP.body.tail.tail (WF (n + 1)) σ H N B T E:=by
 have yes:∀ Y,HB H0 Y hd [] -> aH (WF (n + 1)) [.store (.var ai) (.lit (.str gp)) (.new bU [(.bi .bytes (.list true [(.bi .ord (.var c9))]))])] σ Y N B T E:=by
  intro Y hb
  refine vr l2 ?_
  refine MC ?_
  refine EB hx ?_
  refine vr l1 ?_
  refine eF (i:=.s gp) hb.head (by decide) ?_
  exact k _ (some [x]) (hb.put h0) (.inl rfl)
 refine vr l3 ?_
 refine dD (fun _=>Bf (HP (yes _ hb))) fun Bk=>?_
 have Bk:deep = 0:=Nat.eq_zero_of_not_pos fun h=>Bk (Int.natCast_pos.2 h)
 refine vr l0 ?_
 refine ig (many:=5) h0 hb (by decide) (by decide) fun d H3 hd hb _=>?_
 exact dD (fun _=>yes _ hb) fun _=>k _ none hb (.inr ⟨rfl,Bk⟩)
theorem Pu (h:P (.dct H.length) (H ++ [.dict true []])):TE.dict false [] C σ H P E:=h
end
namespace Mf
noncomputable def Gq (n:Nat) (H:Mine.Hp) (E:Mine.EP) (N:Mine.LP) (B:Mine.LP) (T:Mine.AP) (M:Nat) (deep:Nat) (ab:Option Nat) (nm:Option Mine.Nm) (g:List (Mine.AK × Mine.AV)) (tab:List (Mine.AK × Mine.AV)) (rws:List Mine.AV) (b9:List Mine.AV):Prop:=∀ (hM:M <= 100) (hb:BS H M tab rws b9) (hg:cY g) (hnm:gR deep nm) (jR:deep <= 2) (k:∀ σ' H' p kvs c,NL σ' M c ab nm g deep (longer nm p) -> NA H H' M c tab kvs p deep -> aH (WF (n + 4)) bP.body.tail.tail.tail.tail.tail.tail σ' H' N B T E),aH (WF (n + 4)) bP.body [(aq,.lst 0),(aa,S0),(aJ,eB ab),(aK,jE nm),(bZ,.aj g),(iy,.int deep),(aS,.lst 3),(bM,.lst 4)] H N B T E
noncomputable def kq:Nat × Mine.Hp × Mine.EP × Mine.LP × Mine.LP × Mine.AP × Nat × Nat × Option Nat × Option Mine.Nm × List (Mine.AK × Mine.AV) × List (Mine.AK × Mine.AV) × List Mine.AV × List Mine.AV:=cx fun p=>Gq p.1 p.2.1 p.2.2.1 p.2.2.2.1 p.2.2.2.2.1 p.2.2.2.2.2.1 p.2.2.2.2.2.2.1 p.2.2.2.2.2.2.2.1 p.2.2.2.2.2.2.2.2.1 p.2.2.2.2.2.2.2.2.2.1 p.2.2.2.2.2.2.2.2.2.2.1 p.2.2.2.2.2.2.2.2.2.2.2.1 p.2.2.2.2.2.2.2.2.2.2.2.2.1 p.2.2.2.2.2.2.2.2.2.2.2.2.2
noncomputable def n:=kq.1
noncomputable def H:=kq.2.1
noncomputable def E:=kq.2.2.1
noncomputable def N:=kq.2.2.2.1
noncomputable def B:=kq.2.2.2.2.1
noncomputable def T:=kq.2.2.2.2.2.1
noncomputable def M:=kq.2.2.2.2.2.2.1
noncomputable def deep:=kq.2.2.2.2.2.2.2.1
noncomputable def ab:=kq.2.2.2.2.2.2.2.2.1
noncomputable def nm:=kq.2.2.2.2.2.2.2.2.2.1
noncomputable def g:=kq.2.2.2.2.2.2.2.2.2.2.1
noncomputable def tab:=kq.2.2.2.2.2.2.2.2.2.2.2.1
noncomputable def rws:=kq.2.2.2.2.2.2.2.2.2.2.2.2.1
noncomputable def b9:=kq.2.2.2.2.2.2.2.2.2.2.2.2.2
theorem tq:Gq n H E N B T M deep ab nm g tab rws b9:=by
 intro hM hb hg hnm jR k
 refine cC ⟨rfl,rfl⟩ ?_
 refine wi hb.table hb.iX (Nat.le_trans hM (by decide)) ?_
 have ext1:aL (fun l=>l ≠ 0 /\ l ≠ 1) H (H.set 1 (.dict true (ae tab (.i ((M + 1:Nat):Int)) (.tup [.int 0,.aj []])))):=(aL.refl _).set fun q=>q.2 rfl
 have AA:(H.set 1 (.dict true (ae tab (.i ((M + 1:Nat):Int)) (.tup [.int 0,.aj []]))))[1]? = some (.dict true (ae tab (.i ((M + 1:Nat):Int)) (.tup [.int 0,.aj []]))):=get_set hb.table
 have AN:bu (H.set 1 (.dict true (ae tab (.i ((M + 1:Nat):Int)) (.tup [.int 0,.aj []])))):=hb.pool.set (by decide)
 have Ka:(H.set 1 (.dict true (ae tab (.i ((M + 1:Nat):Int)) (.tup [.int 0,.aj []])))).length = H.length:=List.length_set ..
 show runs _ _ [TE.dict false []] (H.set 1 (.dict true (ae tab (.i ((M + 1:Nat):Int)) (.tup [.int 0,.aj []])))) _ _
 generalize H.set 1 (.dict true (ae tab (.i ((M + 1:Nat):Int)) (.tup [.int 0,.aj []]))) = H1 at *
 have hb2:HB (H1 ++ [.dict true []]) (H1 ++ [.dict true []]) H1.length []:=⟨.refl _,AN.app,getL⟩
 have ext2:=ext1.app (X:=[.dict true []])
 have gx:=Ext.app (X:=[.dict true []]) _ _ AA
 have h0:H1.length ≠ 0:=Nat.ne_of_gt (lt_of_get (AN.choose_spec.1))
 clear ext1 AA AN
 refine Pu ?_
 generalize H1 ++ [.dict true []] = H2 at *
 generalize H1.length = c at *
 clear H1
 refine ig (many:=3) h0 hb2 (by decide) (by decide) fun d H3 hd Hz _=>?_
 refine r7 (Q:=fun v=>∃ x,v = .str [x] /\ (x = 97 \/ x = 98 \/ x = 99)) hd (by decide) ?_ fun v ⟨x,e,hx⟩=>?_
 ·exact List.forall_mem_cons.2 ⟨⟨_,rfl,.inl rfl⟩,List.forall_mem_cons.2 ⟨⟨_,rfl,.inr (.inl rfl)⟩,List.forall_mem_cons.2 ⟨⟨_,rfl,.inr (.inr rfl)⟩,fun _ h=>absurd h List.not_mem_nil⟩⟩⟩
 subst e
 refine IL h0 (hx.elim (fun e=>e ▸ (by decide)) fun h=>h.elim (fun e=>e ▸ (by decide)) fun e=>e ▸ (by decide)) rfl rfl rfl rfl Hz fun H4 p Oc hp=>?_
 refine IV rfl rfl rfl Oc.head uH hp hnm jR ?_
 refine E1 (p:=p) h0 rfl rfl Oc fun H5 QP=>?_
 refine vP h0 QP FZ rT.1 (Nat.le_trans rT.2 (by decide)) hg fun H6 kvs Hy Dk=>?_
 have hlt:∀ {l o},H[l]? = some o -> l ≠ c:=fun hx=>by rw [Ka]; exact Nat.ne_of_lt (lt_of_get hx)
 have Ht:∀ b,p = some b -> b = [97] \/ b = [98] \/ b = [99]:=fun b hb=>hp.elim (fun e=>by
  cases Option.some.inj (hb.symm.trans e)
  exact hx.imp (congrArg (fun x=>[x])) fun h=>h.imp (congrArg (fun x=>[x])) (congrArg (fun x=>[x]))) fun e=>nn (e.1.symm.trans hb)
 refine k _ H6 p kvs c ⟨rfl,rfl,rfl,rfl,rfl,rfl,rfl,rfl,rfl,rfl⟩ ⟨Ka,fun l o hl hx=>Hy.ext _ _ ⟨hl.1,hlt hx⟩ (ext2 _ _ hl hx),Hy.pool,Hy.ext _ _ ⟨by decide,hlt hb.table⟩ gx,Hy.head,Dk.ok,Dk.nd,Nat.le_trans Dk.len (Nat.le_trans (Nat.add_le_add_right rT.2 _) (by decide)),⟨(Dk.same gp (by decide)).trans Jf,fun b hb=>?_⟩,Ht,fun hd=>hp.elim (fun e=>e ▸ rfl) fun e=>absurd e.2 (Nat.ne_of_gt hd),fun q hq=>?_⟩
 ·rcases Ht b hb with rfl | rfl | rfl <;> (unfold iI; decide)
 ·exact (Dk.same q ((by decide:∀ q ∈ j6,q ∉ dm) q hq)).trans (vG ((by decide:∀ q ∈ j6,q ≠ gp) q hq) ((by decide:∀ q ∈ j6,q ≠ cU) q hq))
end Mf
section
variable {n:Nat} {σ σ':Loc} {H:Hp} {P:AP} {E:EP} {C:CF} {N B:LP} {T:AP}
theorem IP {M deep:Nat} {ab:Option Nat} {nm:Option Nm} {g tab:List (AK × AV)} {rws b9:List AV} (hM:M <= 100) (hb:BS H M tab rws b9) (hg:cY g) (hnm:gR deep nm) (jR:deep <= 2) (k:∀ σ' H' p kvs c,NL σ' M c ab nm g deep (longer nm p) -> NA H H' M c tab kvs p deep -> aH (WF (n + 4)) bP.body.tail.tail.tail.tail.tail.tail σ' H' N B T E):aH (WF (n + 4)) bP.body [(aq,.lst 0),(aa,S0),(aJ,eB ab),(aK,jE nm),(bZ,.aj g),(iy,.int deep),(aS,.lst 3),(bM,.lst 4)] H N B T E :=
 bD (p:=fun p=>Mf.Gq p.1 p.2.1 p.2.2.1 p.2.2.2.1 p.2.2.2.2.1 p.2.2.2.2.2.1 p.2.2.2.2.2.2.1 p.2.2.2.2.2.2.2.1 p.2.2.2.2.2.2.2.2.1 p.2.2.2.2.2.2.2.2.2.1 p.2.2.2.2.2.2.2.2.2.2.1 p.2.2.2.2.2.2.2.2.2.2.2.1 p.2.2.2.2.2.2.2.2.2.2.2.2.1 p.2.2.2.2.2.2.2.2.2.2.2.2.2) Mf.tq (n,H,E,N,B,T,M,deep,ab,nm,g,tab,rws,b9) hM hb hg hnm jR k
end
end
end Mine
end
section
set_option maxRecDepth 10000
namespace Mine
noncomputable section
section
variable {n:Nat} {σ σ':Loc} {H:Hp} {P:AP} {E:EP} {C:CF} {N B:LP} {T:AP}
noncomputable def Bm (wk:List (AK × AV)):AV -> Bool
 | .str s=>(getKey wk (.s s)).isSome
 | _=>false
noncomputable def AS (wk:List (AK × AV)):AV -> AV
 | .str s=>.tup [.str s,(getKey wk (.s s)).getD .none]
 | v=>v
theorem xN {wk:List (AK × AV)}:∀ ks:List Nm,((ks.map AV.str).filter (Bm wk)).map (AS wk) = (dN (fun q=>getKey wk (.s q)) ks).map fun p=>AV.tup [bQ p.1,p.2]
 | []=>rfl
 | q :: ks=>by
  have ih:=xN (wk:=wk) ks
  rw [List.map_cons,List.filter_cons]
  refine Cq (getKey wk (.s q)) (fun h=>?_) fun v h=>?_
  ·rw [show Bm wk (.str q) = false from congrArg Option.isSome h,if_neg Bool.false_ne_true,xK h]; exact ih
  ·rw [show Bm wk (.str q) = true from congrArg Option.isSome h,if_pos rfl,s9 h,List.map_cons,List.map_cons,ih]
   show AV.tup [.str q,(getKey wk (.s q)).getD .none] :: _ = _
   rw [h]; rfl
theorem IU {wv:AV} {wk:List (AK × AV)} {Q:List AV -> Hp -> Prop} (hd:dictOf H wv = some wk) (l:look σ ay = some wv) (h:Q ((handed wk).map fun p=>AV.tup [bQ p.1,p.2]) H) :
  ∃ k,k <= lim /\ cL C σ (.tup [.var av,.sub (.var ay) (.var av)]) (.one av) [.cmp .In (.var av) (.var ay)] k (.seq [.str cV,.str gA,.str ie,.str ia,.str d7,.str bI]) H Q:=by
 refine jh (I:=fun X=>X = H) (f:=AS wk) (p:=Bm wk) (vs:=dm.map .str) (fun v hv X K L hX k1 k2=>?_) (aZ _) rfl fun X hX=>?_
 ·subst hX
  obtain ⟨s,_,rfl⟩:=List.mem_map.1 hv
  refine vr (x:=ay) l ?_
  refine rS (k:=.s s) hd ?_
  refine cJ (fun q=>?_) fun q=>k2 q _ rfl
  obtain ⟨u,hu⟩:=Option.isSome_iff_exists.1 q
  refine vr (x:=ay) l ?_
  refine Cj (i:=.s s) hd hu ?_
  have e:AS wk (.str s) = .tup [.str s,u]:=congrArg (fun o:Option AV=>AV.tup [.str s,o.getD .none]) hu
  exact (e ▸ k1 q _ rfl:K (.tup [.str s,u]) _)
 ·subst hX
  rw [xN]
  exact h
structure NC (deep:Nat) (ab:Option Nat) (nm:Option Nm) (g:List (AK × AV)) (H X:Hp) (M M':Nat) (tab gx:List (AK × AV)) (rws fU:List AV) (ls:List Lf) (rows:List AV):Prop where
 bs:BS X M' gx (rws ++ rows) fU
 ext:aL sA H X
 len:H.length <= X.length
 cnt:rows.length <= lv deep
 le:M + 1 <= M' /\ M' <= M + sz deep
 old:∀ j:Nat,j <= M -> getKey gx (.i j) = getKey tab (.i j)
 good:∀ lf ∈ ls,dI lf
 fut:∀ Hf a7,aL (fun l=>H.length <= l) X Hf -> GU a7 gx (M + 1) M' -> getKey a7 (.i ((M + 1:Nat):Int)) = some (.tup [.int 0,.dct H.length]) -> Mn Hf a7 M M' [jO (M + 1) ab nm g] [M + 1] (0 < deep) ls rows
theorem JY {l j:Nat} (h:5 <= l) (hj:j < 5):¬ l <= j:=Nat.not_le_of_lt (Nat.lt_of_lt_of_le hj h)
theorem NC.post {deep:Nat} {ab:Option Nat} {nm:Option Nm} {g:List (AK × AV)} {H X:Hp} {M M':Nat} {tab gx:List (AK × AV)} {rws fU:List AV} {ls:List Lf} {rows:List AV} (h:NC deep ab nm g H X M M' tab gx rws fU ls rows) (hl:5 <= H.length) :
  rW deep ab nm g H (X.set 1 (.dict true (ae gx (.i ((M + 1:Nat):Int)) (.tup [.int 0,.dct H.length])))) M M' tab (ae gx (.i ((M + 1:Nat):Int)) (.tup [.int 0,.dct H.length])) rws fU ls rows :=
 ⟨⟨h.bs.pool.set (by decide),get_set h.bs.table,h.bs.iX.put ⟨Nat.succ_le_succ (Nat.zero_le _),h.le.1⟩,h.bs.one,(List.getElem?_set_ne (by decide)).trans h.bs.rows,(List.getElem?_set_ne (by decide)).trans h.bs.groups,h.bs.rl,h.bs.gl⟩,
  h.ext.set fun q=>q.2.1 rfl,Nat.le_trans h.len (Nat.le_of_eq (List.length_set ..).symm),h.cnt,h.le,fun j hj=>(gW (Nat.ne_of_gt (Nat.lt_succ_of_le hj))).trans (h.old j hj),
  h.good,fun Hf a7 q1 q2=>h.fut Hf a7 ((aL.set (.refl _) (JY hl (by decide))).trans q1) (fun j h1 h2=>(q2 j (Nat.lt_of_succ_lt h1) h2).trans (gW (Nat.ne_of_lt h1))) ((q2 (M + 1) (Nat.lt_succ_self _) h.le.1).trans dX)⟩
theorem uY {deep:Nat} {nm:Option Nm} {p:Option (List Nat)} (hnm:gR deep nm) (hp:∀ b,p = some b -> b = [97] \/ b = [98] \/ b = [99]):gR (deep + 1) (longer nm p):=by
 intro a ha
 cases p with
 | none=>
  have:nm = some a:=by cases nm <;> exact ha
  exact ⟨Nat.le_trans (hnm a this).1 (Nat.le_add_right ..),(hnm a this).2⟩
 | some b=>
  have hb:b.length = 1 /\ 100 ∉ b:=by rcases hp b rfl with rfl | rfl | rfl <;> decide
  cases nm with
  | none=>
   have:b = a:=Option.some.inj ha
   subst this
   exact ⟨Nat.le_trans (Nat.le_of_eq hb.1) (Nat.le_add_left 1 (2 * deep + 1)),hb.2⟩
  | some c=>
   have:c ++ [46] ++ b = a:=Option.some.inj ha
   subst this
   refine ⟨?_,fun h=>(List.mem_append.1 h).elim (fun h=>(List.mem_append.1 h).elim (hnm c rfl).2 (by decide:¬ 100 ∈ [46])) hb.2⟩
   rw [List.length_append,List.length_append,hb.1]
   exact Nat.add_le_add_right (Nat.add_le_add_right (hnm c rfl).1 1) 1
theorem gR.str {deep:Nat} {nm:Option Nm} (h:gR deep nm) (hd:deep <= 3):100 ∉ nm.getD [] /\ (nm.getD []).length <= 100:=by
 cases nm with
 | none=>exact ⟨List.not_mem_nil,Nat.zero_le _⟩
 | some a=>exact ⟨(h a rfl).2,Nat.le_trans (h a rfl).1 (Nat.le_trans (Nat.mul_le_mul_left 2 hd) (by decide))⟩
theorem G3:∀ d,4 <= sz d /\ 1 <= lv d
 | 0=>by decide
 | 1=>by decide
 | _ + 2=>⟨Nat.le_refl 4,Nat.le_refl 1⟩
theorem CW {deep M:Nat} {ab:Option Nat} {nm p:Option Nm} {g tab kvs kvs' bS:List (AK × AV)} {rws b9:List AV} {H H1 X Y:Hp} {ws:List Nat} {e wl:Nat} {v:AV} (hb:BS H M tab rws b9) (h5:5 <= H.length) (na:NA H H1 M H.length tab kvs p deep) (hg:cY g) (k9:g.length <= 6) (hnm:gR deep nm) (jR:deep <= 2)
  (e1:aL (fun l=>l ≠ 0 /\ l ≠ 1) H X) (hw:X[wl]? = some (.dict false (putAll g kvs))) (hwl:H.length < wl) (W:uK X Y H.length (M + 1) kvs kvs' (ae tab (.i ((M + 1:Nat):Int)) (.tup [.int 0,.aj []])) bS ws e v) :
  ∃ lf,NC deep ab nm g H (Y.set 3 (.list (rws ++ [.tup [.str ((longer nm p).getD []),rf (M + 1),eB ab,.dct wl,v]]))) M (e - 1) tab bS rws b9 [lf] [.tup [.str ((longer nm p).getD []),rf (M + 1),eB ab,.dct wl,v]]:=by
 have K8:=(uY hnm na.part).str (Nat.succ_le_succ jR)
 obtain ⟨ft,x,w,dw,os,a5,a6⟩:=(na.ok.merge hg na.nd).lf ((longer nm p).getD []) (M + 1) ab ws K8.1 K8.2 W.PB
 have he:e - 1 + 1 = e:=Nat.sub_add_cancel (Nat.le_trans (Nat.le_add_left ..) W.le.1)
 have Hk:M + 1 <= e - 1:=Nat.le_sub_one_of_lt W.le.1
 have Qk:e - 1 <= M + sz deep:=Nat.le_trans (Nat.sub_le_of_le_add (b:=1) (c:=M + 4) W.le.2) (Nat.add_le_add_left (G3 deep).1 M)
 have up:∀ {l o},sA l -> H[l]? = some o -> Y[l]? = some o:=fun hl hx=>W.ext _ _ ⟨hl.1,hl.2.1,Nat.ne_of_lt (lt_of_get hx)⟩ (e1 _ _ ⟨hl.1,hl.2.1⟩ hx)
 have up':∀ {l o},l ≠ 0 /\ l ≠ 1 -> H[l]? = some o -> Y[l]? = some o:=fun hl hx=>W.ext _ _ ⟨hl.1,hl.2,Nat.ne_of_lt (lt_of_get hx)⟩ (e1 _ _ hl hx)
 have h3:=up' (by decide) hb.rows
 have h4:=up' (by decide) hb.groups
 refine ⟨_,⟨W.pool.set (by decide),(List.getElem?_set_ne (by decide)).trans W.table,W.iX,Nat.le_trans (Nat.le_add_left ..) Hk,get_set h3,(List.getElem?_set_ne (by decide)).trans h4,?_,Nat.le_trans hb.gl (Nat.le_of_succ_le Hk)⟩,aL.set (fun l o=>up) fun q=>q.2.2.1 rfl,Nat.le_of_lt (Nat.lt_of_lt_of_eq (lt_of_get W.head) (List.length_set ..).symm),(G3 deep).2,⟨Hk,Qk⟩,
  fun j hj=>(W.old j (Nat.le_succ_of_le hj)).trans (gW (Nat.ne_of_gt (Nat.lt_succ_of_le hj))),List.forall_mem_singleton.2 a6,fun Hf a7 q1 q2 q3=>?_⟩
 ·rw [List.length_append]; exact Nat.le_trans (Nat.succ_le_succ hb.rl) Hk
 ·have ey:aL (fun l=>H.length <= l) Y Hf:=(aL.set (.refl _) (JY h5 (by decide))).trans q1
  obtain ⟨w1,w2,w3⟩:=W.fut Hf a7 ey (fun j h1 h2=>q2 j h1 (Nat.le_sub_one_of_lt h2)) q3
  have hT:gf kvs' p:=⟨(W.same gp (by decide)).trans na.nm.1,na.nm.2⟩
  have Dr:=ey _ _ (Nat.le_refl _) W.head
  have six:∀ k ∈ dm,getKey (putAll g kvs) (.s k) = getKey (putAll g kvs') (.s k):=fun k hk=>by
   rw [iN na.nd,iN W.nd,W.same k ((by decide:∀ k ∈ dm,k ∉ j6) k hk)]
  have NT:5 <= wl:=Nat.le_trans h5 (Nat.le_of_lt hwl)
  have hwf:=ey _ _ (Nat.le_of_lt hwl) (W.ext _ _ ⟨iY NT (by decide),iY NT (by decide),Nat.ne_of_gt hwl⟩ hw)
  refine ⟨fun rest xm e' hr=>?_,.cons ⟨.dct wl,_,v,fg hwf,a5,w3⟩ .nil,List.forall_mem_singleton.2 w2,fun hd=>List.forall_mem_singleton.2 ?_⟩
  ·rw [he] at hr
   exact .leaf (e1:=e) ⟨q3,.inl ⟨_,rfl,Dr⟩,W.nd,Nat.le_trans W.len (Nat.le_trans (Nat.add_le_add_right na.len 4) (by decide))⟩ hT (fun a ha=>Nat.le_trans (hnm a ha).1 (Nat.le_trans (Nat.mul_le_mul_left 2 jR) (by decide))) (Nat.le_trans k9 (by decide)) w1 rfl rfl rfl (a5.congr six) a6.ft hr
  ·obtain ⟨b,hb'⟩:=Option.isSome_iff_exists.1 (na.deep hd)
   exact ⟨.dct H.length,kvs',b,⟨q3,fg Dr⟩,hb' ▸ hT⟩
theorem Jw:∀ d,d < 2 -> 1 + 2 * sz (d + 1) <= sz d /\ 2 * lv (d + 1) <= lv d
 | 0,_=>by decide
 | 1,_=>by decide
 | _ + 2,h=>absurd h (Nat.not_lt.2 (Nat.le_add_left ..))
theorem CK {deep M Mi:Nat} {ab:Option Nat} {nm p:Option Nm} {g tab kvs cH:List (AK × AV)} {rws ib:List AV} {H H1 X Y:Hp} {ks:List Nat} {ls:List Lf} {rows:List AV} (h5:5 <= H.length) (na:NA H H1 M H.length tab kvs p deep) (k9:g.length <= 6) (hnm:gR deep nm) (jR:deep < 2)
  (e1:aL (fun l=>l ≠ 0 /\ l ≠ 1 /\ l ≠ 4) H X) (hX:X[H.length]? = some (.dict true kvs)) (J:oQ X.length True (deep + 1) (some (M + 1)) (longer nm p) (handed (putAll g kvs)) X Y (M + 1) Mi (ae tab (.i ((M + 1:Nat):Int)) (.tup [.int 0,.aj []])) cH rws ib ks ls rows) (hks:1 <= ks.length /\ ks.length <= 2) :
  NC deep ab nm g H (Y.set H.length (.dict true (ae kvs (.s aD) (.ah (ks.map rf))))) M Mi tab cH rws ib ls rows:=by
 have Dq:=lt_of_get hX
 have key:∀ {l o},l ≠ H.length -> Y[l]? = some o -> (Y.set H.length (.dict true (ae kvs (.s aD) (.ah (ks.map rf)))))[l]? = some o:=fun hl q=>(List.getElem?_set_ne (Ne.symm hl)).trans q
 have Od:=J.ext _ _ (rK h5) hX
 have b:=J.bs
 have low:∀ {j},j < 5 -> j ≠ H.length:=fun hj=>Ne.symm (iY h5 hj)
 refine ⟨⟨b.pool.set (iY h5 (by decide)),key (low (by decide)) b.table,b.iX,b.one,key (low (by decide)) b.rows,key (low (by decide)) b.groups,b.rl,b.gl⟩,fun l o hl hx=>key (Nat.ne_of_lt (lt_of_get hx)) (J.ext _ _ hl (e1 _ _ ⟨hl.1,hl.2.1,hl.2.2.2⟩ hx)),?_,Nat.le_trans J.cnt (Nat.le_trans (Nat.mul_le_mul_right _ hks.2) (Jw deep jR).2),⟨Nat.le_trans (Nat.le_add_right ..) J.le.1,?_⟩,fun j hj=>(J.old j (Nat.le_succ_of_le hj)).trans (gW (Nat.ne_of_gt (Nat.lt_succ_of_le hj))),J.sub.good,fun Hf a7 q1 q2 q3=>?_⟩
 ·exact Nat.le_of_lt (Nat.lt_of_lt_of_eq (lt_of_get Od) (List.length_set ..).symm)
 ·refine Nat.le_trans J.le.2 ?_
  rw [Nat.add_assoc]; exact Nat.add_le_add_left (Nat.le_trans (Nat.add_le_add_left (Nat.mul_le_mul_right _ hks.2) 1) (Jw deep jR).1) M
 ·have ey:aL (fun l=>X.length <= l) Y Hf:=(aL.set (.refl _) (Nat.not_le_of_lt Dq)).trans (q1.mono fun l hl=>Nat.le_trans (Nat.le_of_lt Dq) hl)
  have a:=J.sub.out Hf a7 ey q2
  have Dr:=q1 _ _ (Nat.le_refl _) (get_set Od)
  have hT:gf (ae kvs (.s aD) (.ah (ks.map rf))) p:=⟨(cM (by decide)).trans na.nm.1,na.nm.2⟩
  have hnd:Nd (ae kvs (.s aD) (.ah (ks.map rf))):=kO na.nd
  have six:handed (putAll g kvs) = handed (putAll g (ae kvs (.s aD) (.ah (ks.map rf)))):=by
   unfold handed hand
   refine yZ fun k hk=>?_
   rw [iN na.nd,iN hnd,cM fun e:aD = k=>absurd (e ▸ hk) (by decide:aD ∉ dm)]
  refine ⟨fun rest xm e hr=>?_,a.rows,a.look,fun hd=>List.forall_mem_singleton.2 ?_⟩
  ·refine .node (ks:=ks) ⟨q3,.inl ⟨_,rfl,Dr⟩,hnd,Nat.le_trans gX (Nat.le_trans (Nat.succ_le_succ na.len) (by decide))⟩ hT (fun a ha=>Nat.le_trans (hnm a ha).1 (Nat.le_trans (Nat.mul_le_mul_left 2 (Nat.le_of_lt jR)) (by decide))) (Nat.le_trans k9 (by decide)) dX (fun h=>absurd hks.1 (by rw [h]; decide)) (Nat.le_trans hks.2 (by decide)) (a.named trivial) ?_
   rw [← six]
   exact a.walk rest xm e hr
  ·obtain ⟨b',hb'⟩:=Option.isSome_iff_exists.1 (na.deep hd)
   exact ⟨.dct H.length,ae kvs (.s aD) (.ah (ks.map rf)),b',⟨q3,fg Dr⟩,hb' ▸ hT⟩
end
end
end Mine
end
section
set_option maxRecDepth 10000
namespace Mine
noncomputable section
section
variable {n:Nat} {σ σ':Loc} {H:Hp} {P:AP} {E:EP} {C:CF} {N B:LP} {T:AP}
structure ND (deep M wl:Nat) (ab:Option Nat) (nm p:Option Nm) (g tab kvs:List (AK × AV)) (rws b9:List AV) (H H1 X:Hp) (σ:Loc):Prop where
 hM:M + sz deep <= 100
 hb:BS H M tab rws b9
 hg:cY g
 k9:g.length <= 6
 hnm:gR deep nm
 jR:deep <= 2
 na:NA H H1 M H.length tab kvs p deep
 nl:NL σ M H.length ab nm g deep (longer nm p)
 wv:look σ ay = some (.dct wl)
 ext:aL (fun l=>l ≠ 0 /\ l ≠ 1) H X
 pool:bu X
 table:X[1]? = some (.dict true (ae tab (.i ((M + 1:Nat):Int)) (.tup [.int 0,.aj []])))
 head:X[H.length]? = some (.dict true kvs)
 whole:X[wl]? = some (.dict false (putAll g kvs))
 Jp:H.length < wl
section
variable {deep M wl:Nat} {ab:Option Nat} {nm p:Option Nm} {g tab kvs:List (AK × AV)} {rws b9:List AV} {H1 X Y:Hp}
theorem ND.h5 (h:ND deep M wl ab nm p g tab kvs rws b9 H H1 X σ):5 <= H.length:=lt_of_get h.hb.groups
theorem ND.step (h:ND deep M wl ab nm p g tab kvs rws b9 H H1 X σ) (e:aL (· ≠ 0) X Y) (hp:bu Y):ND deep M wl ab nm p g tab kvs rws b9 H H1 Y σ :=
 ⟨h.hM,h.hb,h.hg,h.k9,h.hnm,h.jR,h.na,h.nl,h.wv,h.ext.trans (e.mono fun l h=>h.1),hp,e _ _ (by decide) h.table,e _ _ (iY h.h5 (by decide)) h.head,e _ _ (iY (Nat.le_trans h.h5 (Nat.le_of_lt h.Jp)) (by decide)) h.whole,h.Jp⟩
theorem ND.m1 (h:ND deep M wl ab nm p g tab kvs rws b9 H H1 X σ):M + 1 <= 100:=Nat.le_trans (Nat.add_le_add_left (Nat.le_trans (by decide) (G3 deep).1) M) h.hM
theorem HQ {p q:Prop} (h:q):Br false p q:=h
theorem Fx {q:Option Nm} (l:look σ bA = some (jE q)) (k:P (.str (q.getD [])) H):(TE.ite (.cmp .IsNot (.var bA) (.lit .none)) (.var bA) (.lit (.str []))) C σ H P E:=by
 refine vr l ?_
 cases q with
 | none=>exact k
 | some a=>exact vr l k
theorem IS (h:ND deep M wl ab nm p g tab kvs rws b9 H H1 X σ) (k:∀ Y M' gx fU ls rows,NC deep ab nm g H Y M M' tab gx rws fU ls rows -> N σ Y) :
  aH (WF (n + 3)) [.expr (.aF (.var aS) bK [(.tup [(.ite (.cmp .IsNot (.var bA) (.lit .none)) (.var bA) (.lit (.str []))),(.var aE),(.var aJ),(.var ay),(.call dW [(.var aq),(.var aa),(.var aE),(.var ai)])])])] σ X N B T E:=by
 have xr:=h.ext _ _ (by decide) h.hb.rows
 have hle:=h.m1
 refine vr h.nl.rows ?_
 refine sL xr ?_
 refine Fx h.nl.full ?_
 refine vr h.nl.home ?_
 refine vr h.nl.above ?_
 refine vr h.wv ?_
 refine vr h.nl.pool ?_
 refine vr h.nl.fL ?_
 refine vr h.nl.home ?_
 refine vr h.nl.head ?_
 refine vO (m:=M + 1) (Nat.le_trans hle (by decide)) h.h5 h.pool h.head h.na.nd (Nat.le_trans h.na.len (by decide)) h.table h.hb.iX.add.2 (Nat.le_add_left ..) h.na.j6 fun Y v kvs' ws e bS W=>?_
 obtain ⟨lf,nc⟩:=CW h.hb h.h5 h.na h.hg h.k9 h.hnm h.jR h.ext h.whole h.Jp W
 refine fj (W.ext _ _ ⟨by decide,by decide,Ne.symm (iY h.h5 (by decide))⟩ xr) (Nat.lt_of_le_of_lt h.hb.rl (Nat.lt_of_lt_of_le (Nat.lt_of_succ_le hle) (by decide))) ?_
 exact k _ _ _ _ _ _ nc
end
end
namespace Me
noncomputable def Gq (n:Nat) (σ:Mine.Loc) (H:Mine.Hp) (E:Mine.EP) (N:Mine.LP) (B:Mine.LP) (T:Mine.AP) (deep:Nat) (M:Nat) (wl:Nat) (ab:Option Nat) (nm:Option Mine.Nm) (p:Option Mine.Nm) (g:List (Mine.AK × Mine.AV)) (tab:List (Mine.AK × Mine.AV)) (kvs:List (Mine.AK × Mine.AV)) (rws:List Mine.AV) (b9:List Mine.AV) (H1:Mine.Hp) (X:Mine.Hp) (f:Nat):Prop:=∀ (spec:iH (deep + 1) (f + 1)) (hd2:deep < 2) (h:ND deep M wl ab nm p g tab kvs rws b9 H H1 X σ) (k:∀ σ' Y M' gx fU ls rows,(∀ x v,x ≠ cQ -> look σ x = some v -> look σ' x = some v) -> NC deep ab nm g H Y M M' tab gx rws fU ls rows -> N σ' Y),aH (WF (n + (f + 1))) [.assign (.one cQ) (.bi (.dict true) (.comp true (.tup [(.var av),(.sub (.var ay) (.var av))]) (.one av) (.ex (.tup [(.lit (.str cV)),(.lit (.str gA)),(.lit (.str ie)),(.lit (.str ia)),(.lit (.str d7)),(.lit (.str bI))])) [(.cmp .In (.var av) (.var ay))])),.expr (.aF (.var bM) bK [(.tup [(.var aE),(.var aJ)])]),.store (.var ai) (.lit (.str aD)) (.comp true (.call dQ [(.var aq),(.var aa),(.var aE),(.var bA),(.var cQ),(.bin .Add (.var iy) (.lit (.int (1)))),(.var aS),(.var bM)]) (.one jF) (.range (.bin .Add (.lit (.int (1))) (.call au [(.var aq),(.lit (.int (2)))]))) [])] σ X N B T E
noncomputable def kq:Nat × Mine.Loc × Mine.Hp × Mine.EP × Mine.LP × Mine.LP × Mine.AP × Nat × Nat × Nat × Option Nat × Option Mine.Nm × Option Mine.Nm × List (Mine.AK × Mine.AV) × List (Mine.AK × Mine.AV) × List (Mine.AK × Mine.AV) × List Mine.AV × List Mine.AV × Mine.Hp × Mine.Hp × Nat:=cx fun p=>Gq p.1 p.2.1 p.2.2.1 p.2.2.2.1 p.2.2.2.2.1 p.2.2.2.2.2.1 p.2.2.2.2.2.2.1 p.2.2.2.2.2.2.2.1 p.2.2.2.2.2.2.2.2.1 p.2.2.2.2.2.2.2.2.2.1 p.2.2.2.2.2.2.2.2.2.2.1 p.2.2.2.2.2.2.2.2.2.2.2.1 p.2.2.2.2.2.2.2.2.2.2.2.2.1 p.2.2.2.2.2.2.2.2.2.2.2.2.2.1 p.2.2.2.2.2.2.2.2.2.2.2.2.2.2.1 p.2.2.2.2.2.2.2.2.2.2.2.2.2.2.2.1 p.2.2.2.2.2.2.2.2.2.2.2.2.2.2.2.2.1 p.2.2.2.2.2.2.2.2.2.2.2.2.2.2.2.2.2.1 p.2.2.2.2.2.2.2.2.2.2.2.2.2.2.2.2.2.2.1 p.2.2.2.2.2.2.2.2.2.2.2.2.2.2.2.2.2.2.2.1 p.2.2.2.2.2.2.2.2.2.2.2.2.2.2.2.2.2.2.2.2
noncomputable def n:=kq.1
noncomputable def σ:=kq.2.1
noncomputable def H:=kq.2.2.1
noncomputable def E:=kq.2.2.2.1
noncomputable def N:=kq.2.2.2.2.1
noncomputable def B:=kq.2.2.2.2.2.1
noncomputable def T:=kq.2.2.2.2.2.2.1
noncomputable def deep:=kq.2.2.2.2.2.2.2.1
noncomputable def M:=kq.2.2.2.2.2.2.2.2.1
noncomputable def wl:=kq.2.2.2.2.2.2.2.2.2.1
noncomputable def ab:=kq.2.2.2.2.2.2.2.2.2.2.1
noncomputable def nm:=kq.2.2.2.2.2.2.2.2.2.2.2.1
noncomputable def p:=kq.2.2.2.2.2.2.2.2.2.2.2.2.1
noncomputable def g:=kq.2.2.2.2.2.2.2.2.2.2.2.2.2.1
noncomputable def tab:=kq.2.2.2.2.2.2.2.2.2.2.2.2.2.2.1
noncomputable def kvs:=kq.2.2.2.2.2.2.2.2.2.2.2.2.2.2.2.1
noncomputable def rws:=kq.2.2.2.2.2.2.2.2.2.2.2.2.2.2.2.2.1
noncomputable def b9:=kq.2.2.2.2.2.2.2.2.2.2.2.2.2.2.2.2.2.1
noncomputable def H1:=kq.2.2.2.2.2.2.2.2.2.2.2.2.2.2.2.2.2.2.1
noncomputable def X:=kq.2.2.2.2.2.2.2.2.2.2.2.2.2.2.2.2.2.2.2.1
noncomputable def f:=kq.2.2.2.2.2.2.2.2.2.2.2.2.2.2.2.2.2.2.2.2
theorem tq:Gq n σ H E N B T deep M wl ab nm p g tab kvs rws b9 H1 X f:=by
 intro spec hd2 h k
 have xg:=h.ext _ _ (by decide) h.hb.groups
 have hle:=h.m1
 have hsz:M + 1 + 2 * sz (deep + 1) <= 100:=Nat.le_trans (by rw [Nat.add_assoc]; exact Nat.add_le_add_left (Jw deep hd2).1 M) h.hM
 have KR:(handed (putAll g kvs)).length <= 6:=xJ
 refine IU (fg h.whole) h.wv ?_
 refine ⟨Nat.le_trans (Nat.le_of_eq (List.length_map ..)) (Nat.le_trans KR (by decide)),?_⟩
 refine Cn (Nat.le_trans KR (by decide)) I1 ?_
 refine vr (x:=bM) h.nl.groups ?_
 refine sL xg ?_
 refine vr (x:=aE) h.nl.home ?_
 refine vr (x:=aJ) h.nl.above ?_
 refine fj xg (Nat.lt_of_le_of_lt h.hb.gl (Nat.lt_of_lt_of_le (Nat.lt_of_succ_le hle) (by decide))) ?_
 have key:∀ {l o},l ≠ 4 -> X[l]? = some o -> (X.set 4 (.list (b9 ++ [.tup [rf (M + 1),eB ab]])))[l]? = some o:=fun hl q=>(List.getElem?_set_ne (Ne.symm hl)).trans q
 have zp:=h.pool.set (l:=4) (o:=.list (b9 ++ [.tup [rf (M + 1),eB ab]])) (by decide)
 have zr:=key (by decide) (h.ext _ _ (by decide) h.hb.rows)
 have zt:=key (by decide) h.table
 have zd:=key (iY h.h5 (by decide)) h.head
 have zg:=get_set (q:=.list (b9 ++ [.tup [rf (M + 1),eB ab]])) xg
 have ez:aL (fun l=>l ≠ 0 /\ l ≠ 1 /\ l ≠ 4) H (X.set 4 (.list (b9 ++ [.tup [rf (M + 1),eB ab]]))):=(h.ext.mono fun l h=>⟨h.1,h.2.1⟩).set fun q=>q.2.2 rfl
 generalize X.set 4 (.list (b9 ++ [.tup [rf (M + 1),eB ab]])) = Z at *
 clear key xg
 refine vr (x:=aq) h.nl.pool ?_
 refine jz (many:=2) zp (by decide) (by decide) fun d3 Y mi eY pY lY=>?_
 have Bl:1 + d3 <= 2:=Nat.add_le_add_left (Nat.le_of_lt_succ mi) 1
 refine ⟨⟨Int.natCast_nonneg (1 + d3),Int.ofNat_le.2 (Nat.le_trans Bl (by decide))⟩,?_⟩
 have yd:=eY _ _ (iY h.h5 (by decide)) zd
 have QQ:5 <= Y.length:=Nat.le_trans h.h5 (Nat.le_of_lt (lt_of_get yd))
 refine C6 (n:=n) (c:=Y.length) (jP:=True) (ab:=some (M + 1)) (nm:=longer nm p) (g:=handed (putAll g kvs)) (M:=M + 1) (b9:=b9 ++ [.tup [rf (M + 1),eB ab]]) (d:=1 + d3) spec ⟨pY,eY _ _ (by decide) zt,h.hb.iX.add.2,Nat.le_add_left ..,eY _ _ (by decide) zr,eY _ _ (by decide) zg,Nat.le_succ_of_le h.hb.rl,by rw [List.length_append]; exact Nat.succ_le_succ h.hb.gl⟩
  ((h.na.ok.merge h.hg h.na.nd).congr fun k hk=>(Fb (r:=fun k=>getKey (putAll g kvs) (.s k)) k hk).symm) KR (uY h.hnm h.na.part) rfl QQ (fun _=>Nat.succ_pos _) Bl hsz (fun v X P q=>?_) fun X Mi cH ib ks ls rows hks J=>?_
 ·refine vr (x:=aq) h.nl.pool ?_
  refine vr (x:=aa) h.nl.fL ?_
  refine vr (x:=aE) h.nl.home ?_
  refine vr (x:=bA) h.nl.full ?_
  refine vr (x:=iy) h.nl.deep ?_
  refine vr (x:=aS) h.nl.rows ?_
  refine vr (x:=bM) h.nl.groups ?_
  exact q
 ·refine ⟨Nat.le_trans (Nat.le_of_eq ((List.length_map ..).trans hks)) (Nat.le_trans Bl (by decide)),?_⟩
  refine vr (x:=ai) h.nl.head ?_
  refine eF (i:=.s aD) (J.ext _ _ (rK h.h5) yd) (Nat.lt_of_le_of_lt h.na.len (by decide)) ?_
  exact k _ _ _ _ _ _ _ (fun x v hx hv=>b8 hx hv) (CK h.h5 h.na h.k9 h.hnm hd2 (ez.trans (eY.mono fun l h=>h.1)) yd J ⟨Nat.le_trans (Nat.le_add_right 1 d3) (Nat.le_of_eq hks.symm),Nat.le_trans (Nat.le_of_eq hks) Bl⟩)
end Me
section
variable {n:Nat} {σ σ':Loc} {H:Hp} {P:AP} {E:EP} {C:CF} {N B:LP} {T:AP}
section
variable {deep M wl:Nat} {ab:Option Nat} {nm p:Option Nm} {g tab kvs:List (AK × AV)} {rws b9:List AV} {H1 X Y:Hp}
theorem EZ {f:Nat} (spec:iH (deep + 1) (f + 1)) (hd2:deep < 2) (h:ND deep M wl ab nm p g tab kvs rws b9 H H1 X σ) (k:∀ σ' Y M' gx fU ls rows,(∀ x v,x ≠ cQ -> look σ x = some v -> look σ' x = some v) -> NC deep ab nm g H Y M M' tab gx rws fU ls rows -> N σ' Y):aH (WF (n + (f + 1))) [.assign (.one cQ) (.bi (.dict true) (.comp true (.tup [(.var av),(.sub (.var ay) (.var av))]) (.one av) (.ex (.tup [(.lit (.str cV)),(.lit (.str gA)),(.lit (.str ie)),(.lit (.str ia)),(.lit (.str d7)),(.lit (.str bI))])) [(.cmp .In (.var av) (.var ay))])),.expr (.aF (.var bM) bK [(.tup [(.var aE),(.var aJ)])]),.store (.var ai) (.lit (.str aD)) (.comp true (.call dQ [(.var aq),(.var aa),(.var aE),(.var bA),(.var cQ),(.bin .Add (.var iy) (.lit (.int (1)))),(.var aS),(.var bM)]) (.one jF) (.range (.bin .Add (.lit (.int (1))) (.call au [(.var aq),(.lit (.int (2)))]))) [])] σ X N B T E :=
 bD (p:=fun p=>Me.Gq p.1 p.2.1 p.2.2.1 p.2.2.2.1 p.2.2.2.2.1 p.2.2.2.2.2.1 p.2.2.2.2.2.2.1 p.2.2.2.2.2.2.2.1 p.2.2.2.2.2.2.2.2.1 p.2.2.2.2.2.2.2.2.2.1 p.2.2.2.2.2.2.2.2.2.2.1 p.2.2.2.2.2.2.2.2.2.2.2.1 p.2.2.2.2.2.2.2.2.2.2.2.2.1 p.2.2.2.2.2.2.2.2.2.2.2.2.2.1 p.2.2.2.2.2.2.2.2.2.2.2.2.2.2.1 p.2.2.2.2.2.2.2.2.2.2.2.2.2.2.2.1 p.2.2.2.2.2.2.2.2.2.2.2.2.2.2.2.2.1 p.2.2.2.2.2.2.2.2.2.2.2.2.2.2.2.2.2.1 p.2.2.2.2.2.2.2.2.2.2.2.2.2.2.2.2.2.2.1 p.2.2.2.2.2.2.2.2.2.2.2.2.2.2.2.2.2.2.2.1 p.2.2.2.2.2.2.2.2.2.2.2.2.2.2.2.2.2.2.2.2) Me.tq (n,σ,H,E,N,B,T,deep,M,wl,ab,nm,p,g,tab,kvs,rws,b9,H1,X,f) spec hd2 h k
end
theorem pN {deep f:Nat} (jR:deep <= 2) (next:deep < 2 -> iH (deep + 1) (f + 4)):iH deep (f + 5):=by
 intro n H P E M ab nm g tab rws b9 hM hb hg k9 hnm k
 have QU:M + 1 <= 100:=Nat.le_trans (Nat.add_le_add_left (Nat.le_trans (by decide) (G3 deep).1) M) hM
 refine wf xW rfl ?_
 refine IP (n:=n + f) (Nat.le_of_succ_le QU) hb hg hnm jR fun σ H1 p kvs c nl na=>?_
 obtain rfl:=na.at_
 refine vr nl.given ?_
 refine Co rfl (Nat.le_trans k9 (by decide)) ?_
 have KY:Walk (H1 ++ [.dict false g]) (.dct H.length) kvs:=.inl ⟨_,rfl,Ext.app _ _ na.head⟩
 obtain ⟨it,i1,i2⟩:=sX KY
 refine vr (x:=ai) nl.head ?_
 refine j2 i1 ?_
 have N2:=lt_of_get na.head
 refine sS (w:=ay) (wl:=H1.length) (Ab:=false) (g:=g) (kvs:=kvs) (h:=.dct H.length) (by decide) KY (fun e=>Nat.ne_of_lt N2 (AV.dct.inj e)) na.nd getL ⟨Nat.le_trans k9 (by decide),Nat.le_trans na.len (by decide)⟩ nl.head bV i2 fun σ2 Kv=>?_
 rw [pI]
 have l:∀ {x v},look σ x = some v -> (x ≠ av /\ x ≠ ay) -> look σ2 x = some v:=fun h q=>Kv _ _ q.1 (b8 q.2 h)
 have D:ND deep M H1.length ab nm p g tab kvs rws b9 H H1 (H1 ++ [.dict false (putAll g kvs)]) σ2:=⟨hM,hb,hg,k9,hnm,jR,na,⟨l nl.pool (by decide),l nl.fL (by decide),l nl.above (by decide),l nl.given (by decide),l nl.deep (by decide),l nl.rows (by decide),l nl.groups (by decide),l nl.home (by decide),l nl.head (by decide),l nl.full (by decide)⟩,Kv _ _ (by decide) bV,na.ext.app,na.pool.app,Ext.app _ _ na.table,Ext.app _ _ na.head,getL,N2⟩
 clear Kv l nl i1 i2 KY it
 clear σ
 generalize H1 ++ [.dict false (putAll g kvs)] = X at *
 generalize H1.length = wl at *
 have fin:∀ σ' Y M' gx fU ls rows,(∀ x v,x ≠ cQ -> look σ2 x = some v -> look σ' x = some v) -> NC deep ab nm g H Y M M' tab gx rws fU ls rows -> aH (WF (n + f + 4)) bP.body.tail.tail.tail.tail.tail.tail.tail.tail.tail σ' Y (fun _ H=>P .none H) (fun _ _=>False) P E:=fun σ' Y M' gx fU ls rows hσ nc=>by
  have lh:=hσ _ _ (by decide) D.nl.home
  refine vr (hσ _ _ (by decide) D.nl.fL) ?_
  refine cC ⟨rfl,rfl⟩ ?_
  refine vr (x:=aE) lh ?_
  refine vr (x:=ai) (hσ _ _ (by decide) D.nl.head) ?_
  refine k_put nc.bs.table (Nat.le_trans (Nat.le_of_eq nc.bs.iX.len) (Nat.le_trans nc.le.2 (Nat.le_trans hM (by decide)))) ?_
  refine vr (x:=aE) lh ?_
  exact k _ _ _ _ _ _ (nc.post D.h5)
 refine vr D.nl.deep ?_
 have leaf:∀ X',aL (· ≠ 0) X X' -> bu X' -> aH (WF (n + f + 4)) [.expr (.aF (.var aS) bK [(.tup [(.ite (.cmp .IsNot (.var bA) (.lit .none)) (.var bA) (.lit (.str []))),(.var aE),(.var aJ),(.var ay),(.call dW [(.var aq),(.var aa),(.var aE),(.var ai)])])])] σ2 X' (fun σ H=>aH (WF (n + f + 4)) bP.body.tail.tail.tail.tail.tail.tail.tail.tail.tail σ H (fun _ H=>P .none H) (fun _ _=>False) P E) (fun _ _=>False) P E :=
  fun X' eX pX=>IS (D.step eX pX) fun Y M' gx fU ls rows nc=>fin σ2 Y _ _ _ _ _ (fun _ _ _ h=>h) nc
 refine dD (fun hd=>?_) fun _=>Bf (HQ (leaf X (.refl _) D.pool))
 have hd2:deep < 2:=Int.ofNat_lt.1 hd
 refine vr D.nl.pool ?_
 refine jz (many:=3) D.pool (by decide) (by decide) fun dd X' N9 eX pX lX=>?_
 exact dD (fun _=>EZ (n:=n) (f:=f + 3) (next hd2) hd2 (D.step eX pX) fin) fun _=>leaf X' eX pX
theorem node2:iH 2 5:=pN (f:=0) (by decide) fun h=>absurd h (by decide)
theorem node1:iH 1 6:=pN (f:=1) (by decide) fun _=>node2
theorem MG:iH 0 7:=pN (f:=2) (by decide) fun _=>node1
end
end
end Mine
end
section
set_option maxRecDepth 10000
namespace Mine
noncomputable section
section
variable {n:Nat} {σ σ':Loc} {H:Hp} {P:AP} {E:EP} {C:CF} {N B:LP} {T:AP}
structure Built (H:Hp) (tab:List (AK × AV)) (ls:List Lf) (rows:List AV) (e:Nat):Prop where
 form:Form H (.dct 1) (.dct 2) tab ls e
 iL:H[3]? = some (.list rows)
 ok:bL (lF H) ls rows
 looks:nP H tab ls
 le:e <= 40
 len:ls.length <= 8
noncomputable def Ms (tab rt fk:List (AK × AV)):Prop:=getKey rt (.s a9) = some (.aj fk) \/ (∃ M:Nat,getKey rt (.s a9) = some (rf M) /\ getKey tab (.i M) = some (.tup [.int 0,.aj fk]))
theorem sO {X Hf:Hp} {Mi:Nat} {cH a7:List (AK × AV)} {ib:List AV} {ks:List Nat} {ls:List Lf} {rows:List AV} {H0:Hp} {OU:List (AK × AV)} {rt rk:List (AK × AV)} (J:oQ 5 False 0 none none [] H0 X 1 Mi OU cH [] ib ks ls rows) (hks:ks.length <= 2)
  (ex:aL (fun l=>5 <= l) X Hf) (h3:Hf[3]? = some (.list rows)) (ht:Hf[1]? = some (.dict true a7)) (hr:Hf[2]? = some (.dict true rk)) (hrk:getKey rk (.s fT) = some (rf 1)) (same:GU a7 cH 1 Mi)
  (h1:getKey a7 (.i 1) = some (.tup [.int 0,.aj rt])) (hf:Ms a7 rt [(.s aN,.ah (ks.map rf))]):Built Hf a7 ls rows (Mi + 1):=by
 have a:=J.sub.out Hf a7 ex same
 refine ⟨⟨⟨[(.s aN,.ah (ks.map rf))],ks,⟨fg ht,⟨rk,fg hr,hrk⟩,rt,h1,hf.imp id .inl⟩,.inr rfl,?_⟩,J.sub.good⟩,h3,a.rows,a.look,Nat.succ_le_succ (Nat.le_trans J.le.2 (Nat.le_trans (Nat.add_le_add_left (Nat.mul_le_mul_right (sz 0) hks) 1) (by decide))),Nat.le_trans (Nat.le_of_eq a.rows.len) (Nat.le_trans J.cnt (Nat.mul_le_mul_right (lv 0) hks))⟩
 have:=a.walk [] [] (Mi + 1) .nil
 rw [List.append_nil,List.append_nil] at this
 exact this
theorem EU {o:aO} {x:Nm} {r:List TS} (h:aH C r ((x,S0) :: σ) [o,.dict true [],.dict true []] N B T E):aH C (.assign (.one x) (.new iQ []) :: r) σ [o] N B T E:=h
theorem Na {K:List AV -> Hp -> Prop} (h:H.length = 3) (k:K [.lst 3,.lst 4] (H ++ [.list []] ++ [.list []])):runs C σ [.list false [],.list false []] H K E:=by
 show K [.lst H.length,.lst (H ++ [aO.list []]).length] _
 rw [List.length_append,h]; exact k
theorem x9 {Z:Hp} {cH a7 rk zK:List (AK × AV)} (z1:Z[1]? = some (.dict true cH)) (z2:Z[2]? = some (.dict true rk)):((Z.set 1 (.dict true a7)).set 2 (.dict true zK))[1]? = some (.dict true a7) /\ ((Z.set 1 (.dict true a7)).set 2 (.dict true zK))[2]? = some (.dict true zK) /\ ∀ l o,l ≠ 1 -> l ≠ 2 -> Z[l]? = some o -> ((Z.set 1 (.dict true a7)).set 2 (.dict true zK))[l]? = some o :=
 ⟨(List.getElem?_set_ne (by decide)).trans (get_set z1),get_set ((List.getElem?_set_ne (by decide)).trans z2),fun l o a b q=>(List.getElem?_set_ne (Ne.symm b)).trans ((List.getElem?_set_ne (Ne.symm a)).trans q)⟩
theorem FW {ps:List Nat} {H0:Hp} (hp:ps.length <= 64) (e:H0 = [aO.list (eQ ps),.dict true (ae [] (.i ((0 + 1:Nat):Int)) (.tup [.int 0,.aj []])),.dict true [],.list [],.list []]):BS H0 1 (ae [] (.i ((0 + 1:Nat):Int)) (.tup [.int 0,.aj []])) [] [] /\ H0.length = 5 /\ H0[2]? = some (.dict true []):=by
 subst e
 exact ⟨⟨⟨ps,rfl,hp⟩,rfl,(ed.add (M:=0) (tab:=[]) (show ed [] 0 from rfl)).2,Nat.le_refl _,rfl,rfl,Nat.zero_le _,Nat.zero_le _⟩,rfl,rfl⟩
end
namespace Mc
noncomputable def Gq (n:Nat) (P:Mine.AP) (E:Mine.EP) (ps:List Nat):Prop:=∀ (hp:ps.length <= 64) (k:∀ H' tab ls rows e,Built H' tab ls rows e -> P (.tup [S0,.lst 3,.lst 4]) H'),WF (n + 8) ja [.lst 0] [.list (eQ ps)] P E
noncomputable def kq:Nat × Mine.AP × Mine.EP × List Nat:=cx fun p=>Gq p.1 p.2.1 p.2.2.1 p.2.2.2
noncomputable def n:=kq.1
noncomputable def P:=kq.2.1
noncomputable def E:=kq.2.2.1
noncomputable def ps:=kq.2.2.2
theorem tq:Gq n P E ps:=by
 intro hp k
 refine wf xZ rfl ?_
 refine EU ?_
 refine cC ⟨rfl,rfl⟩ ?_
 refine wi (tl:=1) (M:=0) (tab:=[]) (it:=true) rfl rfl (by decide) ?_
 show runs _ _ [TE.list false [],TE.list false []] ([aO.list (eQ ps),aO.dict true [],aO.dict true []].set 1 (.dict true (ae [] (.i ((0 + 1:Nat):Int)) (.tup [.int 0,.aj []])))) _ _
 refine Na rfl ?_
 obtain ⟨b5,l5,r5⟩:=FW hp (H0:=[aO.list (eQ ps),aO.dict true [],aO.dict true []].set 1 (.dict true (ae [] (.i ((0 + 1:Nat):Int)) (.tup [.int 0,.aj []]))) ++ [.list []] ++ [.list []]) rfl
 generalize [aO.list (eQ ps),aO.dict true [],aO.dict true []].set 1 (.dict true (ae [] (.i ((0 + 1:Nat):Int)) (.tup [.int 0,.aj []]))) ++ [.list []] ++ [.list []] = H5 at *
 generalize ae [] (.i ((0 + 1:Nat):Int)) (.tup [.int 0,.aj []]) = AA at *
 refine jz (many:=2) b5.pool (by decide) (by decide) fun d X hd eX pX lX=>?_
 have bX:BS X 1 AA [] []:=⟨pX,eX _ _ (by decide) b5.table,b5.iX,b5.one,eX _ _ (by decide) b5.rows,eX _ _ (by decide) b5.groups,b5.rl,b5.gl⟩
 have rX:=eX _ _ (by decide) r5
 have Ql:X.length = 5:=lX.trans l5
 clear b5 l5 r5 eX pX lX
 have hd':1 + d <= 2:=Nat.add_le_add_left (Nat.le_of_lt_succ hd) 1
 refine ⟨⟨Int.natCast_nonneg (1 + d),Int.ofNat_le.2 (Nat.le_trans hd' (by decide))⟩,?_⟩
 refine C6 (n:=n) (c:=5) (jP:=False) (deep:=0) (ab:=none) (nm:=none) (g:=[]) (M:=1) (d:=1 + d) MG bX cY.nil (Nat.zero_le _) (fun a h=>nn h) Ql.symm (Nat.le_refl _) (fun h=>h.elim) hd' (by decide) (fun v X P h=>h) fun Y Mi cH ib ks ls rows hks J=>?_
 have K2:Mi <= 39:=Nat.le_trans J.le.2 (Nat.le_trans (Nat.add_le_add_left (Nat.mul_le_mul_right (sz 0) (Nat.le_trans (Nat.le_of_eq hks) hd')) 1) (by decide))
 have rY:=J.ext _ _ (by decide) rX
 refine ⟨Nat.le_trans (Nat.le_of_eq ((List.length_map ..).trans hks)) (Nat.le_trans hd' (by decide)),?_⟩
 refine cC ⟨rfl,rfl⟩ ?_
 refine jz (many:=2) J.bs.pool (by decide) (by decide) fun d2 Z hd2 eZ pZ lZ=>?_
 have zt:=eZ _ _ (by decide) J.bs.table
 have z2:=eZ _ _ (by decide) rY
 have KQ:=Nat.le_trans (Nat.le_of_eq hks) hd'
 have ez:∀ {Hf:Hp},(∀ l o,l ≠ 1 -> l ≠ 2 -> Z[l]? = some o -> Hf[l]? = some o) -> aL (fun l=>5 <= l) Y Hf /\ Hf[3]? = some (.list rows):=fun key=>⟨fun l o hl hx=>key l o (iY hl (by decide)) (iY hl (by decide)) (eZ _ _ (iY hl (by decide)) hx),key _ _ (by decide) (by decide) (eZ _ _ (by decide) J.bs.rows)⟩
 refine dD (fun _=>?_) fun _=>?_
 ·refine cC ⟨rfl,rfl⟩ ?_
  refine wi (M:=Mi) zt J.bs.iX (Nat.le_trans K2 (by decide)) ?_
  have wt:=get_set (q:=.dict true (ae cH (.i ((Mi + 1:Nat):Int)) (.tup [.int 0,.aj [(.s aN,.ah (ks.map rf))]]))) zt
  refine k_put (j:=1) wt (Nat.le_trans (Nat.le_of_eq J.bs.iX.add.2.len) (Nat.le_trans (Nat.succ_le_succ K2) (by decide))) ?_
  have w2:=(List.getElem?_set_ne (l:=Z) (i:=1) (a:=.dict true (ae cH (.i ((Mi + 1:Nat):Int)) (.tup [.int 0,.aj [(.s aN,.ah (ks.map rf))]]))) (by decide)).trans z2
  refine eF (i:=.s fT) ((List.getElem?_set_ne (by decide)).trans w2) (by decide) ?_
  obtain ⟨f1,f2,key⟩:=x9 (a7:=ae (ae cH (.i ((Mi + 1:Nat):Int)) (.tup [.int 0,.aj [(.s aN,.ah (ks.map rf))]])) (.i ((1:Nat):Int)) (.tup [.int 0,.aj [(.s a9,rf (Mi + 1))]])) (zK:=ae [] (.s fT) (rf 1)) wt w2
  have e:=ez fun l o a b q=>key l o a b ((List.getElem?_set_ne (Ne.symm a)).trans q)
  have ne1:1 ≠ Mi + 1:=Nat.ne_of_lt (Nat.succ_le_succ (Nat.le_trans (Nat.le_add_right ..) J.le.1))
  exact k _ _ ls rows (Mi + 1) (sO (rt:=[(.s a9,rf (Mi + 1))]) J KQ e.1 e.2 f1 f2 dX (fun j h1 h2=>(gW (Nat.ne_of_lt h1)).trans (gW (Nat.ne_of_gt (Nat.lt_succ_of_le h2)))) dX (.inr ⟨Mi + 1,rfl,(gW ne1).trans dX⟩))
 ·refine k_put (j:=1) zt (Nat.le_trans (Nat.le_of_eq J.bs.iX.len) (Nat.le_trans K2 (by decide))) ?_
  refine eF (i:=.s fT) ((List.getElem?_set_ne (by decide)).trans z2) (by decide) ?_
  obtain ⟨f1,f2,key⟩:=x9 (a7:=ae cH (.i ((1:Nat):Int)) (.tup [.int 0,.aj [(.s a9,.aj [(.s aN,.ah (ks.map rf))])]])) (zK:=ae [] (.s fT) (rf 1)) zt z2
  have e:=ez key
  exact k _ _ ls rows (Mi + 1) (sO (rt:=[(.s a9,.aj [(.s aN,.ah (ks.map rf))])]) J KQ e.1 e.2 f1 f2 dX (fun j h1 h2=>gW (Nat.ne_of_lt h1)) dX (.inl rfl))
end Mc
section
variable {n:Nat} {σ σ':Loc} {H:Hp} {P:AP} {E:EP} {C:CF} {N B:LP} {T:AP}
theorem Bb {ps:List Nat} (hp:ps.length <= 64) (k:∀ H' tab ls rows e,Built H' tab ls rows e -> P (.tup [S0,.lst 3,.lst 4]) H'):WF (n + 8) ja [.lst 0] [.list (eQ ps)] P E :=
 bD (p:=fun p=>Mc.Gq p.1 p.2.1 p.2.2.1 p.2.2.2) Mc.tq (n,P,E,ps) hp k
end
end
end Mine
end
section
set_option maxRecDepth 10000
namespace Mine
noncomputable section
section
variable {n:Nat} {σ σ':Loc} {H:Hp} {P:AP} {E:EP} {C:CF} {N B:LP} {T:AP}
noncomputable def iW (H:Hp) (n:Nat) (v:AV):Prop:=eqv H n v v = some true
theorem cf {x:Nm}:iW H (n + 1) (.str x):=(congrArg some (decide_eq_true rfl):some (decide (x = x)) = some true)
theorem uF {x:Int}:iW H (n + 1) (.int x):=(congrArg some (decide_eq_true rfl):some (decide (x = x)) = some true)
theorem rR:iW H (n + 1) .none:=rfl
theorem FH {b:Bool}:iW H (n + 1) (.bool b):=(congrArg some (beq_self_eq_true b):some (b == b) = some true)
theorem rA {α:Type}:∀ {xs:List α} {p:α × α},p ∈ xs.zip xs -> p.1 ∈ xs /\ p.2 = p.1
 | [],p,h=>absurd h List.not_mem_nil
 | x :: xs,p,h=>(List.mem_cons.1 h).elim (fun e=>e ▸ ⟨List.mem_cons_self,rfl⟩) fun h=>let ⟨a,b⟩:=rA h; ⟨List.mem_cons_of_mem _ a,b⟩
theorem F1 {vs:List AV} (h:∀ v ∈ vs,iW H n v):((vs.zip vs).all fun p=>eqv H n p.1 p.2 == some true) = true :=
 List.all_eq_true.2 fun p hp=>by
  obtain ⟨a,b⟩:=rA hp
  rw [b,h _ a]; rfl
theorem rF {vs:List AV} (h:∀ v ∈ vs,iW H n v):qv (eqv H n) vs vs = some true:=if_pos ⟨rfl,F1 h⟩
theorem uE {vs:List AV} (h:∀ v ∈ vs,iW H n v):iW H (n + 1) (.tup vs):=rF h
theorem zX {a:AV} {vs:List AV} (h:listOf H a = some vs):fV a = none /\ dictOf H a = none:=listE h (fun l q _=>q ▸ ⟨rfl,rfl⟩) fun q=>q ▸ ⟨rfl,rfl⟩
theorem DQ {a b:AV} {vs:List AV} (ha:listOf H a = some vs) (hb:listOf H b = some vs) (h:∀ v ∈ vs,iW H n v):eqv H (n + 1) a b = some true:=by
 unfold eqv; rw [(zX ha).1,ha,hb]; exact rF h
theorem vy {vs:List AV} (h:∀ v ∈ vs,iW H n v):iW H (n + 1) (.ah vs):=rF h
theorem uQ {a b:AV} {vs:List AV} (ha:listOf H a = some vs) (hb:listOf H b = some vs) (h:∀ v ∈ vs,iW H 5 v):kK H a b = some true:=by
 unfold kK; rw [(zX ha).2]; exact DQ ha hb h
theorem nZ {a b:AV} {vs:List AV} (ha:listOf H a = some vs) (hb:listOf H b = some vs) (h:∀ v ∈ vs,iW H 5 v) {Q:Bool -> Prop} (q:Q false):Is (k7 H .NotEq a b) Q:=bN (congrArg (Option.map (!·)) (uQ ha hb h)) q
theorem FI {a b:AV} {vs:List AV} (ha:listOf H a = some vs) (hb:listOf H b = some vs) (h:∀ v ∈ vs,iW H 5 v) {Q:Bool -> Prop} (q:Q true):Is (k7 H .Eq a b) Q:=bN (uQ ha hb h) q
noncomputable def Flat (n:Nat) (v:AV):Prop:=∀ H,iW H (n + 1) v /\ dictOf H v = none
theorem El {v:AV} (h:Ob v):Flat n (txt v):=h.tx.elim (fun ⟨b,_,e⟩=>e ▸ fun H=>⟨cf,rfl⟩) fun e=>e.2.1 ▸ fun H=>⟨rR,rfl⟩
theorem Es {v:AV} (h:Ob v):Flat n (uR v):=h.casesOn (fun H=>⟨cf,rfl⟩) (fun _ H=>⟨cf,rfl⟩) (fun _ H=>⟨cf,rfl⟩) (fun _ _ H=>⟨cf,rfl⟩) fun _ _ _ H=>⟨cf,rfl⟩
theorem BQ {C:Prop} (b:Bool) (h:b = true -> C) (k:b = false -> C):C:=b.casesOn (motive:=fun x=>(x = true -> C) -> (x = false -> C) -> C) (fun _ k=>k rfl) (fun h _=>h rfl) h k
theorem wC {kd:Nm} {v:AV} (h:Ob v):Flat (n + 1) (bO kd v) :=
 BQ (g8 fR cF kd) (fun q=>wF q ▸ Es h) fun q=>
 BQ (decide (kd = cz) && iU .eo v) (fun q'=>wD q q' ▸ fun H=>⟨vy fun w hw=>by
  obtain ⟨bs,rfl,_⟩:=h.list (Bool.and_eq_true_iff.1 q').2
  obtain ⟨u,hu,rfl⟩:=List.mem_map.1 hw
  obtain ⟨b,_,rfl⟩:=List.mem_map.1 hu
  exact cf,rfl⟩) fun q'=>
 BQ (g8 cz bY kd) (fun e=>nj q q' e ▸ El h) fun e=>nj q q' e ▸ fun H=>⟨rR,rfl⟩
theorem wZ {kd:Nm} {v:AV} (h:Ob v) {Q:Bool -> Prop} (q:Q false):Is (k7 H .NotEq (bO kd v) (bO kd v)) Q:=by
 have f:Flat 5 (bO kd v):=wC h
 have e:kK H (bO kd v) (bO kd v) = some true:=by unfold kK; rw [(f H).2]; exact (f H).1
 exact bN (congrArg (Option.map (!·)) e) q
theorem EL {a b:AV} {kvs:List (AK × AV)} (ha:dictOf H a = some kvs) (hb:dictOf H b = some kvs) (h:∀ p ∈ kvs,iW H 6 p.2) {Q:Bool -> Prop} (q:Q false):Is (k7 H .NotEq a b) Q:=by
 have e:kK H a b = some true:=by
  unfold kK; rw [ha,hb]
  refine if_pos ⟨rfl,List.all_eq_true.2 fun p hp=>?_⟩
  obtain ⟨x,y⟩:=rA hp
  rw [y,show eqv H qF p.1.2 p.1.2 = some true from h _ x,decide_eq_true rfl]; rfl
 exact bN (congrArg (Option.map (!·)) e) q
theorem Ii {p:AV -> Prop} {k:AK} {v:AV} {acc:List (AK × AV)} (h:∀ q ∈ acc,p q.2) (hv:p v):∀ q ∈ ae acc k v,p q.2:=fun q hq=>by
 unfold ae at hq
 split at hq
 ·obtain ⟨r,hr,rfl⟩:=List.mem_map.1 hq
  split
  ·exact hv
  ·exact h r hr
 ·exact (List.mem_append.1 hq).elim (h q) fun e=>(List.mem_singleton.1 e) ▸ hv
theorem yk:∀ {ls:List Lf} {acc:List (AK × AV)},(∀ lf ∈ ls,dI lf) -> (∀ p ∈ acc,iW H 6 p.2) -> ∀ p ∈ ls.foldl bF acc,iW H 6 p.2
 | [],acc,_,h=>h
 | lf :: ls,acc,g,h=>yk (ls:=ls) (acc:=bF acc lf) (fun l hl=>g l (List.mem_cons_of_mem _ hl)) (by
  have hv:iW H 6 (bO (kd lf) lf.v):=(wC (n:=4) (g lf List.mem_cons_self).v H).1
  unfold bF
  cases (lq (bO (kd lf) lf.v) && (!(bit (lf.x.getD 0) 3) && !(getKey acc (.s lf.name)).isSome)) with
  | true=>exact Ii (p:=iW H 6) h hv
  | false=>exact h)
theorem kC {α β:Type} {f:α -> β}:∀ {as:List α},bL (fun a b=>b = f a) as (as.map f)
 | []=>.nil
 | a :: as=>.cons rfl kC
section
variable {α:Type} {I:Hp -> Prop} {elt c:TE} {t:bq} {R:α -> AV -> Prop} {F:α -> AV} {p:α -> Bool} {as:List α} {vs:List AV} {it:It} {Q:List AV -> Hp -> Prop}
class inductive RelJ (I:Hp -> Prop) (R:α -> AV -> Prop) (as:List α) (G:List α -> List AV) (r acc:List AV) (H:Hp):Prop where
 | mk (bs:List α):I H -> bL R bs r -> (∀ a ∈ bs,a ∈ as) -> acc ++ G bs = G as -> RelJ I R as G r acc H
theorem vA {cs:List TE} {G:List α -> List AV} (G0:G [] = []) (h2:bL R as vs)
  (step:∀ a v bs,a ∈ as -> R a v -> ∀ H (K:AP) (L:Hp -> Prop),I H -> (∀ w,w :: G bs = G (a :: bs) -> ∀ H,I H -> K w H) -> (G bs = G (a :: bs) -> ∀ H,I H -> L H) -> Is (bg t v σ) fun σ'=>runC C σ' cs H (fun b H=>Br b (elt C σ' H K ee) (L H)) ee)
  (hi:gU I it vs) (h:I H) (k:∀ H,I H -> Q (G as) H) (hl:as.length < lim):∃ k,k <= lim /\ cL C σ elt t cs k it H Q:=by
 refine ⟨_,(h2.len ▸ hl:vs.length < lim),gC (I:=I) (J:=RelJ I R as G) (fun r a H h=>h.casesOn fun _ h _ _ _=>h) (fun v r acc H K L hj k1 k2=>?_) vs it [] H Q hi ⟨as,h,h2,fun _ x=>x,rfl⟩ fun ws H hj=>?_⟩
 ·refine hj.casesOn fun bs hI hr hm e=>?_
  cases hr with
  | @cons a _ bs' _ hab hr=>
  have oV:∀ x ∈ bs',x ∈ as:=fun x hx=>hm x (List.mem_cons_of_mem _ hx)
  exact step a v bs' (hm a List.mem_cons_self) hab H K L hI (fun w hw H hI=>k1 w H ⟨bs',hI,hr,oV,by rw [List.append_assoc,← e,← hw]; rfl⟩) fun hw H hI=>k2 H ⟨bs',hI,hr,oV,hw ▸ e⟩
 ·refine hj.casesOn fun bs hI hr hm e=>?_
  cases hr with
  | nil=>
  rw [G0,List.append_nil,List.nil_append] at e
  exact e ▸ k _ hI
theorem mr (h2:bL R as vs)
  (step:∀ a v,a ∈ as -> R a v -> ∀ H (K:AP),I H -> (∀ H,I H -> K (F a) H) -> Is (bg t v σ) fun σ'=>elt C σ' H K ee)
  (hi:gU I it vs) (h:I H) (k:∀ H,I H -> Q (as.map F) H) (hl:as.length < lim):∃ k,k <= lim /\ cL C σ elt t [] k it H Q :=
 vA (G:=List.map F) rfl h2 (fun a v bs ha hr H K L hI k1 _=>step a v ha hr H K hI (k1 _ rfl)) hi h k hl
theorem DR (h2:bL R as vs)
  (step:∀ a v,a ∈ as -> R a v -> ∀ H (K:AP) (L:Hp -> Prop),I H -> (p a = true -> ∀ H,I H -> K (F a) H) -> (p a = false -> ∀ H,I H -> L H) -> Is (bg t v σ) fun σ'=>c C σ' H (fun b H=>Is (truthy b) fun b=>Br b (elt C σ' H K ee) (L H)) ee)
  (hi:gU I it vs) (h:I H) (k:∀ H,I H -> Q ((as.filter p).map F) H) (hl:as.length < lim):∃ k,k <= lim /\ cL C σ elt t [c] k it H Q :=
 vA (G:=fun as=>(as.filter p).map F) rfl h2 (fun a v bs ha hr H K L hI k1 k2=>step a v ha hr H K L hI (fun q=>k1 _ (by rw [List.filter_cons,if_pos q]; rfl)) fun q=>k2 (by rw [List.filter_cons,if_neg (Bool.eq_false_iff.mp q)])) hi h k hl
end
structure LS (H:Hp) (tab:List (AK × AV)) (ls:List Lf) (rows:List AV) (e fl:Nat) (fs:List AV):Prop where
 form:Form H (.dct 1) (.dct 2) tab ls e
 iL:H[3]? = some (.list rows)
 zJ:bL (lF H) ls rows
 looks:nP H tab ls
 found:H[fl]? = some (.list fs)
 Aj:bL (iV H) ls fs
 le:e <= 40
 len:ls.length <= 8
theorem lF.ext {A:Hp} {lf:Lf} {f:AV} (h:lF A lf f) (e:Ext A H):lF H lf f:=h.casesOn fun w wk wv h1 h2 h3=>⟨w,wk,wv,e.dict h1,h2,e.list h3⟩
theorem jZ.ext {A:Hp} {tab:List (AK × AV)} {w:Nat} {a b c:Bool} (h:jZ A tab w a b c) (e:Ext A H):jZ H tab w a b c:=let ⟨d,dk,h1,h2,h3⟩:=h; ⟨d,dk,h1,e.dict h2,h3⟩
theorem nP.ext {A:Hp} {tab:List (AK × AV)} {ls:List Lf} (h:nP A tab ls) (e:Ext A H):nP H tab ls:=fun lf hl w hw=>let ⟨a,b,c,q⟩:=h lf hl w hw; ⟨a,b,c,q.ext e⟩
theorem LS.ext {A:Hp} {tab:List (AK × AV)} {ls:List Lf} {rows fs:List AV} {e fl:Nat} (h:LS A tab ls rows e fl fs) (x:Ext A H):LS H tab ls rows e fl fs :=
 ⟨h.form.ext x,x _ _ h.iL,h.zJ.imp fun _ _ r=>r.ext x,h.looks.ext x,x _ _ h.found,h.Aj.imp fun _ _ r=>r.ext x,h.le,h.len⟩
noncomputable def keeps (xs:List Nm) (σ σ':Loc):Prop:=∀ x v,x ∉ xs -> look σ x = some v -> look σ' x = some v
theorem keeps.refl {xs:List Nm}:keeps xs σ σ:=fun _ _ _ h=>h
theorem keeps.cons {xs:List Nm} {y:Nm} {w:AV} (h:keeps xs σ σ') (hy:y ∈ xs):keeps xs σ ((y,w) :: σ'):=fun x v hx hv=>b8 (fun e:x = y=>hx (e ▸ hy)) (h x v hx hv)
noncomputable def OO:Option Nat -> AV
 | none=>.none
 | some k=>.int (k:Int)
noncomputable def hT (lf:Lf):AV:=.tup [.str lf.name,.int lf.num,OO lf.above,.ah (eQ lf.lP),.str (kd lf)]
theorem KZ {lf:Lf}:iW H (n + 3) (hT lf) :=
 uE (List.forall_mem_cons.2 ⟨cf,List.forall_mem_cons.2 ⟨uF,List.forall_mem_cons.2 ⟨by cases lf.above with
  | none=>exact rR
  | some k=>exact uF,List.forall_mem_cons.2 ⟨vy fun w hw=>let ⟨k,_,e⟩:=List.mem_map.1 hw; e ▸ uF,List.forall_mem_singleton.2 cf⟩⟩⟩⟩)
theorem u7 {ws:List Nat} {it:It} {I:Hp -> Prop} {Q:List AV -> Hp -> Prop} (hi:gU I it (ws.map rf)) (hI:I H) (k:∀ X,I X -> Q (eQ ws) X) (hl:ws.length < lim) :
  ∃ k,k <= lim /\ cL C σ (.attr (.var bf) aA) (.one bf) [] k it H Q :=
 mr (I:=I) (R:=fun (w:Nat) v=>v = rf w) (as:=ws) (F:=fun (w:Nat)=>AV.int (w:Int)) (vs:=ws.map rf) kC (fun a v ha hv X K hX k=>by subst hv; exact k X hX) hi hI k hl
end
end
end Mine
end
section
set_option maxRecDepth 10000
namespace Mine
noncomputable section
section
variable {n:Nat} {σ σ':Loc} {H:Hp} {P:AP} {E:EP} {C:CF} {N B:LP} {T:AP}
section
variable {α:Type} {I:Hp -> Prop} {t:bq} {b:List TS} {R:α -> AV -> Prop} {S:List α -> LP} {as:List α} {vs:List AV} {it:It}
class inductive Mq (R:α -> AV -> Prop) (S:List α -> LP) (as:List α) (rs:List AV) (σ:Loc) (H:Hp):Prop where
 | mk (d r:List α):d ++ r = as -> bL R r rs -> S d σ H -> Mq R S as rs σ H
theorem lM (h2:bL R as vs) (hI:∀ d σ H,S d σ H -> I H)
  (step:∀ d a r v σ H (N':LP),d ++ a :: r = as -> R a v -> S d σ H -> (∀ σ H,S (d ++ [a]) σ H -> N' σ H) -> Is (bg t v σ) fun σ'=>aH C b σ' H N' N T E)
  (hi:gU I it vs) (h:S [] σ H) (k:∀ σ H,S as σ H -> N σ H):∃ k,forL C t b k it σ H N T E:=by
 refine ⟨_,lN (I:=I) (J:=Mq R S as) (fun r σ H h=>h.casesOn fun d _ _ _ h=>hI d σ H h) (fun v r σ H N' hj k'=>?_) (fun σ H hj=>?_) vs it σ H hi ⟨[],as,rfl,h2,h⟩⟩
 ·refine hj.casesOn fun d bs e hr hs=>?_
  cases hr with
  | @cons a _ bs' _ hab hr=>exact step d a bs' v σ H N' e hab hs fun σ H h=>k' σ H ⟨d ++ [a],bs',(List.append_cons ..).symm.trans e,hr,h⟩
 ·refine hj.casesOn fun d bs e hr hs=>?_
  cases hr with
  | nil=>rw [List.append_nil] at e; exact k σ H (e ▸ hs)
end
structure uN {α:Type} (xs:List Nm) (σ0:Loc) (A:Hp) (obj:List α -> aO) (d:List α) (σ:Loc) (X:Hp):Prop where
 kp:keeps xs σ0 σ
 ex:Ext A X
 at_:X[A.length]? = some (obj d)
theorem mem_mid {α:Type} {d r l:List α} {a:α} (e:d ++ a :: r = l):a ∈ l:=e ▸ List.mem_append_right _ List.mem_cons_self
theorem uh {α:Type} {d r l:List α} {a:α} {c:Nat} (e:d ++ a :: r = l) (h:l.length <= c):d.length <= c:=Nat.le_trans (by rw [← e,List.length_append]; exact Nat.le_add_right ..) h
theorem D8 {a:TE} {ab:Option Nat} (ha:∀ P:AP,P (eB ab) H -> a C σ H P E) (k:P (OO ab) H):(TE.ite (.cmp .Is a (.lit .none)) (.lit .none) (.attr a aA)) C σ H P E:=by
 refine ha _ ?_
 cases ab with
 | none=>exact k
 | some i=>exact ha _ k
theorem Pr {t:bq} {a:TE} {r:List TS} (h:a C σ H (fun v H=>Is (bg t v σ) fun σ'=>aH C r σ' H N B T E) E):aH C (.assign t a :: r) σ H N B T E:=h
theorem Mt {es:List TE} {K:List AV -> Hp -> Prop} (h:runs C σ es H (fun vs H=>K [.tup vs] H) E):runs C σ [.tup es] H K E:=h
theorem rn {a:TE} {r:List TE} {K:List AV -> Hp -> Prop} (h:a C σ H (fun v H=>runs C σ r H (fun vs H=>K (v :: vs) H) E) E):runs C σ (a :: r) H K E:=h
theorem tv {x:Nm} {v:AV} (l:look σ x = some v) (h:P v H):TE.var x C σ H P E:=vr l h
theorem ta {a:TE} {x:Nm} (h:a C σ H (fun v H=>Is ((tU v).bind fun p=>p.2.lookup x) fun w=>P w H) E):TE.attr a x C σ H P E:=h
theorem uN.add {α:Type} {f:α -> AV} {xs:List Nm} {σ0:Loc} {A X:Hp} {d:List α} {a:α} (h:uN xs σ0 A (fun d=>.list (d.map f)) d σ X) (k:keeps xs σ0 σ'):uN xs σ0 A (fun d=>.list (d.map f)) (d ++ [a]) σ' (X.set A.length (.list (d.map f ++ [f a]))) :=
 ⟨k,h.ex.set (Nat.le_refl _),by rw [get_set h.at_,List.map_append]; rfl⟩
theorem w0 {ws:List Nat} (h:ws.length <= 8):(eQ ws).length <= lim:=Nat.le_trans (Nat.le_of_eq (List.length_map ..)) (Nat.le_trans h (by decide))
theorem IT {A:Hp} {tab:List (AK × AV)} {ls:List Lf} {rows fs:List AV} {e fl:Nat} (hs:LS A tab ls rows e fl fs) (hg:∀ lf ∈ ls,dI lf) (l1:look σ aw = some (.lst fl)) (l2:look σ g6 = some (.lst A.length))
  (k:∀ σ' H',uN [aB,aJ] σ A (fun d=>.list (d.map hT)) ls σ' H' -> N σ' H'):hdS (jS.body.drop 4) C σ (A ++ [.list []]) N B T E:=by
 obtain ⟨it,i1,i2⟩:=l9 (I:=fun X=>X[fl]? = some (.list fs)) (Ext.app (X:=[.list []]) _ _ hs.found) fun X h=>h
 refine vr l1 ?_
 refine j2 i1 ?_
 refine lM hs.Aj (fun d σ X h=>h.ex _ _ hs.found) (fun d lf r v σ' X N' e0 hv S k'=>?_) i2 ⟨.refl,.app,getL⟩ k
 obtain ⟨ws,w,wk,rfl,h1,h2,h3⟩:=hv.ext S.ex
 have hgood:=hg lf (mem_mid e0)
 have hd:=uh e0 hs.len
 refine bind1 ?_
 refine Pr ?_
 refine D8 (a:=.attr (.var aB) aJ) (ab:=lf.above) ?_ ?_
 ·exact fun P k=>k
 refine vr (x:=g6) (S.kp g6 _ (by decide) l2) ?_
 refine sL S.at_ ?_
 obtain ⟨it,i1,i2⟩:=eV h1
 refine j2 i1 ?_
 refine u7 (hl:=Nat.lt_of_le_of_lt hgood.wl (by decide)) (I:=fun Y=>Y = X) (i2.mono (fun Y e=>by rw [e]; exact h1) _ _) rfl fun Y hY=>?_
 subst hY
 refine ⟨w0 hgood.wl,?_⟩
 refine fj S.at_ (Nat.lt_of_le_of_lt (Nat.le_trans (Nat.le_of_eq (List.length_map ..)) hd) (by decide)) ?_
 exact k' _ _ (S.add (a:=lf) ((S.kp.cons (by decide)).cons (by decide)))
theorem MN {A:Hp} {tab:List (AK × AV)} {ls:List Lf} {rows fs:List AV} {e fl:Nat} (hs:LS A tab ls rows e fl fs) (hg:∀ lf ∈ ls,dI lf) (l1:look σ aS = some (.lst 3)) (l2:look σ ly = some (.lst A.length))
  (k:∀ σ' H',uN [aK,aE,aJ,ay,cG] σ A (fun d=>.list (d.map hT)) ls σ' H' -> N σ' H'):hdS (jS.body.drop 6) (WF (n + 2)) σ (A ++ [.list []]) N B T E:=by
 obtain ⟨it,i1,i2⟩:=l9 (I:=fun X=>X[3]? = some (.list rows)) (Ext.app (X:=[.list []]) _ _ hs.iL) fun X h=>h
 refine vr l1 ?_
 refine j2 i1 ?_
 refine lM hs.zJ (fun d σ X h=>h.ex _ _ hs.iL) (fun d lf r v σ' X N' e0 hv S k'=>?_) i2 ⟨.refl,.app,getL⟩ k
 have hgood:=hg lf (mem_mid e0)
 have hd:=uh e0 hs.len
 revert v
 intro v hv
 refine (hv.ext S.ex).casesOn (motive:=fun v _=>Is (bg _ v σ') _) fun w wk ws h2 h3 h1=>?_
 refine vr (x:=ly) (S.kp ly _ (by decide) l2) ?_
 refine sL S.at_ ?_
 refine Mt ?_
 refine rn ?_
 refine tv (v:=.str lf.name) ?_ ?_
 ·rfl
 refine rn ?_
 refine ta ?_
 refine tv (v:=rf lf.num) ?_ ?_
 ·rfl
 refine bN (v:=.int lf.num) ?_ ?_
 ·rfl
 refine rn ?_
 refine D8 (a:=.var aJ) (ab:=lf.above) ?_ ?_
 ·exact fun P k=>k
 obtain ⟨it,i1,i2⟩:=eV h1
 refine j2 i1 ?_
 refine u7 (hl:=Nat.lt_of_le_of_lt hgood.wl (by decide)) (I:=fun Y=>Y = X) (i2.mono (fun Y e=>by rw [e]; exact h1) _ _) rfl fun Y hY=>?_
 subst hY
 refine ⟨w0 hgood.wl,?_⟩
 refine sV h2 h3.1 hgood.ft h3.2.1 ?_
 refine fj S.at_ (Nat.lt_of_le_of_lt (Nat.le_trans (Nat.le_of_eq (List.length_map ..)) hd) (by decide)) ?_
 exact k' _ _ (S.add (a:=lf) (((((S.kp.cons (by decide)).cons (by decide)).cons (by decide)).cons (by decide)).cons (by decide)))
noncomputable def G8:List (Nm × Nat) -> Prop:=fun l=>∀ q ∈ l,bit (2 ^ (q.2 - 1)) q.2 = true /\ bit (2 ^ 26 - 1 - 2 ^ (q.2 - 1)) q.2 = false /\ 2 ^ (q.2 - 1) <= 2 ^ 26 - 1
theorem AU:G8 words:=by unfold G8 words; decide
theorem yX {w:Nm} {p m:Nat} {x:Int} (e:x = m) (hw:(w,p) ∈ words) (k:∀ X,P (.bool (bit m p)) (H ++ X)):WF (n + 2) dM [.int x,.str w] H P E:=e ▸ jN hw k
theorem E0 {A:Hp} {tab:List (AK × AV)} {ls:List Lf} {rows fs:List AV} {e fl p:Nat} {w:Nm} (hs:LS A tab ls rows e fl fs) (hw:(w,p) ∈ words) (l1:look σ aa = some S0) (l2:look σ aw = some (.lst fl)) (l3:look σ aS = some (.lst 3)) (l4:look σ bW = some (.str w)) (l5:look σ eH = some (.int p))
  (k:∀ H',Ext A H' -> P (.bool false) H'):(TE.cmp .NotEq (.comp true (.call gy [(.var aa),(.var aB),(.var bW)]) (.one aB) (.ex (.var aw)) []) (.comp true (.call cZ [(.sub (.var aP) (.lit (.int (3)))),(.var eH)]) (.one aP) (.ex (.var aS)) [])) (WF (n + 5)) σ A P E:=by
 have len:(ls.map fun lf=>AV.bool (bit (lf.x.getD 0) p)).length <= lim:=Nat.le_trans (Nat.le_of_eq (List.length_map ..)) (Nat.le_trans hs.len (by decide))
 refine vr l2 ?_
 obtain ⟨it,i1,i2⟩:=C9 (dG hs.found)
 refine j2 i1 ?_
 refine mr (hl:=Nat.lt_of_le_of_lt hs.len (by decide)) (I:=fun W=>Ext A W) (as:=ls) (F:=fun lf=>.bool (bit (lf.x.getD 0) p)) hs.Aj (fun lf v oW hv W K hW k=>?_) i2 (.refl _) fun W hW=>?_
 ·obtain ⟨ws,u,uk,rfl,h1,h2,h3⟩:=hv.ext hW
  refine vr (x:=aa) l1 ?_
  refine vr (x:=bW) l4 ?_
  exact sW h2 h3.2.1 hw fun V=>k _ hW.BW
 have s3:=hs.ext hW
 refine ⟨len,?_⟩
 refine vr (x:=aS) l3 ?_
 obtain ⟨it',Ku,Hq⟩:=eV (dG s3.iL)
 refine j2 Ku ?_
 refine mr (hl:=Nat.lt_of_le_of_lt hs.len (by decide)) (I:=fun V=>V = W) (as:=ls) (F:=fun lf=>.bool (bit (lf.x.getD 0) p)) s3.zJ (fun lf v oW hv V K hV k=>?_) (Hq.mono (fun V e=>by rw [e]; exact dG s3.iL) _ _) rfl fun V hV=>?_
 ·subst hV
  refine hv.casesOn (motive:=fun v _=>Is (bg _ v σ) _) fun u uk wv h1 h2 h3=>?_
  refine vr (x:=eH) l5 ?_
  exact lA h1 h2.2.1 (rC hw) (k _ rfl)
 ·subst hV
  refine ⟨len,?_⟩
  refine nZ (vs:=ls.map fun lf=>AV.bool (bit (lf.x.getD 0) p)) rfl rfl (fun v hv=>?_) (k _ hW)
  obtain ⟨lf,_,rfl⟩:=List.mem_map.1 hv
  exact FH
end
end
end Mine
end
section
set_option maxRecDepth 10000
namespace Mine
noncomputable section
section
variable {n:Nat} {σ σ':Loc} {H:Hp} {P:AP} {E:EP} {C:CF} {N B:LP} {T:AP}
structure Nc (A:Hp) (fl:Nat) (d:List (Nm × Nat)) (σ:Loc) (X:Hp):Prop where
 fL:look σ aa = some S0
 found:look σ aw = some (.lst fl)
 rows:look σ aS = some (.lst 3)
 ex:Ext A X
theorem MH (h:N σ H):aH C [] σ H N B T E:=h
theorem O3 {t:TE} {a b r:List TS} (h:t C σ H (fun v H=>Is (truthy v) fun t=>Br t (aH C a σ H (fun σ H=>aH C r σ H N B T E) B T E) (aH C b σ H (fun σ H=>aH C r σ H N B T E) B T E)) E):aH C (.ite t a b :: r) σ H N B T E:=h
theorem Rm {p:Nat} (b3:2 ^ (p - 1) <= 2 ^ 26 - 1):(2:Int) ^ (Int.toNat 26) - 1 - ((2 ^ (p - 1):Nat):Int) = ((2 ^ 26 - 1 - 2 ^ (p - 1):Nat):Int):=(congrArg (· - ((2 ^ (p - 1):Nat):Int)) (by decide:(2:Int) ^ (Int.toNat 26) - 1 = ((2 ^ 26 - 1:Nat):Int))).trans (Int.ofNat_sub b3).symm
theorem vQ {A:Hp} {tab:List (AK × AV)} {ls:List Lf} {rows fs:List AV} {e fl:Nat} (hs:LS A tab ls rows e fl fs) (k:∀ H',Ext A H' -> P (.bool true) H'):WF (n + 6) eT [S0,.lst fl,.lst 3] A P E:=by
 refine wf pF rfl ?_
 have hz:gU (fun _=>True) (.zip (.seq (words.map fun q=>.str q.1)) (.seq (words.map fun q=>.int (q.2:Int)))) (words.map fun q=>.tup [.str q.1,.int (q.2:Int)]):=uu (I:=fun _=>True) _ _ _ _ (aZ (words.map fun q=>AV.str q.1)) (aZ (words.map fun q=>AV.int (q.2:Int)))
 refine lM (S:=Nc A fl) (as:=words) (kC (f:=fun q:Nm × Nat=>AV.tup [.str q.1,.int (q.2:Int)])) (fun _ _ _ _=>trivial) (fun d q r v σ' X N' e0 hv S k'=>?_) hz ⟨rfl,rfl,rfl,.refl _⟩ fun σ' X S=>k X S.ex
 subst hv
 obtain ⟨w,p⟩:=q
 have hw:(w,p) ∈ words:=mem_mid e0
 have hp:=rC hw
 obtain ⟨b1,b2,b3⟩:=AU (w,p) hw
 have KD:p - 1 <= 80:=Nat.le_trans (Nat.sub_le ..) (Nat.le_trans hp.2 (by decide))
 refine tS (q:=p - 1) (ju hp.1) KD ?_
 refine jN hw fun Y=>?_
 simp only at b1 b2 b3
 rw [b1]
 refine tS (q:=p - 1) (ju hp.1) KD ?_
 refine yX (m:=2 ^ 26 - 1 - 2 ^ (p - 1)) (Rm b3) hw fun Z=>?_
 rw [b2]
 have nL:Ext A (X ++ Y ++ Z):=S.ex.BW.BW
 refine Bf (HQ ?_)
 refine MH ?_
 refine O3 ?_
 refine E0 (σ:=(eH,.int (p:Int)) :: (bW,.str w) :: σ') (hs.ext nL) hw S.fL S.found S.rows rfl rfl fun H' e=>?_
 exact k' _ _ ⟨S.fL,S.found,S.rows,nL.trans e⟩
end
end
end Mine
end
section
set_option maxRecDepth 10000
namespace Mine
noncomputable section
section
variable {n:Nat} {σ σ':Loc} {H:Hp} {P:AP} {E:EP} {C:CF} {N B:LP} {T:AP}
section
variable {X:Hp} {lf:Lf} {w wv ws u:AV} {wk uk:List (AK × AV)} {r:List TS}
structure LR (X:Hp) (lf:Lf) (w wv ws u:AV) (wk uk:List (AK × AV)):Prop where
 h1:listOf X ws = some (lf.lP.map rf)
 h2:dictOf X u = some uk
 h3:mC uk lf
 h4:dictOf X w = some wk
 h5:mC wk lf
 h6:listOf X wv = some (lf.lP.map rf)
noncomputable abbrev kJ (lf:Lf) (ws u:AV):AV:=fld (.str lf.name) (rf lf.num) (eB lf.above) ws u (.str (kd lf))
noncomputable abbrev j8 (lf:Lf) (w wv:AV):AV:=.tup [.str lf.name,rf lf.num,eB lf.above,w,wv]
theorem Jg (R:LR X lf w wv ws u wk uk) (hg:dI lf) (l:look σ aP = some (j8 lf w wv)) (k:aH (WF (n + 3)) r ((ak,bO (kd lf) lf.v) :: σ) X N B T E):aH (WF (n + 3)) (.assign (.one ak) (.call dc [(.sub (.var aP) (.lit (.int (3)))),(.lit (.str ie))]) :: r) σ X N B T E:=by
 refine vr l ?_
 exact nh R.h4 R.h5.1 hg.ft R.h5.2.1 R.h5.2.2.1 hg.v k
theorem Jj (R:LR X lf w wv ws u wk uk) (hg:dI lf) (l1:look σ aP = some (j8 lf w wv)) (l2:look σ aB = some (kJ lf ws u)) (l3:look σ aa = some S0) (l4:look σ ak = some (bO (kd lf) lf.v)) (k:aH (WF (n + 4)) r σ X N B T E):aH (WF (n + 4)) (.ite (.qP (.cmp .NotEq (.call cy [(.var aa),(.var aB),(.lit (.str ie))]) (.var ak)) (.cmp .NotEq (.call cy [(.var aa),(.var aB),(.lit (.str ia))]) (.call dc [(.sub (.var aP) (.lit (.int (3)))),(.lit (.str ia))]))) [.ret (.lit (.bool false))] [] :: r) σ X N B T E:=by
 refine vr l3 ?_
 refine vr l2 ?_
 refine oE R.h2 R.h3.2.2.1 hg.v ?_
 refine vr l4 ?_
 refine wZ hg.v ?_
 refine vr l3 ?_
 refine vr l2 ?_
 refine oE R.h2 R.h3.2.2.2.1 hg.dv ?_
 refine vr l1 ?_
 refine nh R.h4 R.h5.1 hg.ft R.h5.2.1 R.h5.2.2.2.1 hg.dv ?_
 refine wZ hg.dv ?_
 exact k
theorem Jh (R:LR X lf w wv ws u wk uk) (hg:dI lf) (l1:look σ aP = some (j8 lf w wv)) (k:aH C r ((jv,.ah (lf.os.map sj)) :: σ) (X ++ [.list []]) N B T E):aH C (.assign (.one jv) (.comp true (.ite (.isin (.var bf) .eo) (.tup [(.sub (.var bf) (.lit (.int (0)))),(.sub (.var bf) (.lit (.int (1))))]) (.tup [(.var bf),(.var bf)])) (.one bf) (.ex (.aF (.sub (.var aP) (.lit (.int (3)))) bR [(.lit (.str bI)),(.list false [])])) []) :: r) σ X N B T E:=by
 refine vr l1 ?_
 refine pQ R.h4 ?_
 refine lR (i:=.s bI) (Ext.app.dict R.h4) ?_
 have hlo:listOf (X ++ [.list []]) ((getKey wk (.s bI)).getD (.lst X.length)) = some lf.os:=R.h5.2.2.2.2.elim (fun h=>by rw [h.1,h.2]; exact dG getL) fun h=>by rw [h]; rfl
 obtain ⟨it,i1,i2⟩:=eV hlo
 refine j2 i1 ?_
 refine IM (I:=fun Y=>Y = X ++ [.list []]) (i2.mono (fun Y e=>by rw [e]; exact hlo) _ _) rfl hg.os (Nat.lt_of_le_of_lt hg.len (by decide)) fun Y hY=>?_
 subst hY
 exact ⟨Nat.le_trans (Nat.le_of_eq (List.length_map ..)) (Nat.le_trans hg.len (by decide)),k⟩
theorem LM (R:LR X lf w wv ws u wk uk) (hg:dI lf) (l2:look σ aB = some (kJ lf ws u)) (l3:look σ aa = some S0) (l4:look σ jv = some (.ah (lf.os.map sj))) (k:∀ Y,Ext X Y -> aH (WF (n + 4)) r σ Y N B T E):aH (WF (n + 4)) (.ite (.cmp .NotEq (.call jw [(.var aa),(.var aB)]) (.comp true (.tup [(.call bC [(.var bf)]),(.call bC [(.var lJ)])]) (.many [bf,lJ]) (.ex (.var jv)) [])) [.ret (.lit (.bool false))] [] :: r) σ X N B T E:=by
 refine vr l3 ?_
 refine vr l2 ?_
 refine C4 (os:=lf.os) R.h2 R.h3.2.2.2.2 hg.os hg.len fun l Y ex hl=>?_
 refine vr l4 ?_
 refine EW hg.os (Nat.lt_of_le_of_lt hg.len (by decide)) ?_
 refine ⟨Nat.le_trans (Nat.le_of_eq (List.length_map ..)) (Nat.le_trans hg.len (by decide)),?_⟩
 refine nZ (vs:=lf.os.map mZ) (dG hl) rfl (fun v hv=>?_) ?_
 ·obtain ⟨o,ho,rfl⟩:=List.mem_map.1 hv
  exact (hg.os o ho).casesOn (fun b hb=>uE (List.forall_mem_cons.2 ⟨cf,List.forall_mem_singleton.2 cf⟩)) fun b c hb hc=>uE (List.forall_mem_cons.2 ⟨cf,List.forall_mem_singleton.2 cf⟩)
 ·exact k Y ex
theorem Ij {b c:Bool}:∀ v ∈ uU b c,iW X 5 v:=by
 cases b <;> cases c
 ·exact fun v h=>absurd h List.not_mem_nil
 ·exact List.forall_mem_singleton.2 cf
 ·exact List.forall_mem_singleton.2 cf
 ·exact List.forall_mem_cons.2 ⟨cf,List.forall_mem_singleton.2 cf⟩
theorem Ji {tab:List (AK × AV)} (R:LR X lf w wv ws u wk uk) (ht:dictOf X (.dct 1) = some tab) (hw:∀ w ∈ lf.lP,∃ a b c,jZ X tab w a b c) (l1:look σ aP = some (j8 lf w wv)) (l3:look σ aa = some S0) (k:∀ σ',keeps [bw] σ σ' -> aH (WF (n + 3)) r σ' X N B T E):aH (WF (n + 3)) (.for (.one bw) (.ex (.sub (.var aP) (.lit (.int (4))))) [.ite (.cmp .NotEq (.call gZ [(.var aa),(.var bw)]) (.comp true (.var av) (.one av) (.ex (.tup [(.lit (.str nA)),(.lit (.str ny))])) [(.cmp .In (.var av) (.sub (.sub (.aF (.var aa) g7 [(.var bw)]) (.lit (.str df))) (.lit (.str sH))))])) [.ret (.lit (.bool false))] []] :: r) σ X N B T E:=by
 refine vr l1 ?_
 obtain ⟨it,i1,i2⟩:=eV R.h6
 refine j2 i1 ?_
 refine lM (I:=fun Y=>Y = X) (S:=fun d σ' Y=>keeps [bw] σ σ' /\ Y = X) (kC (as:=lf.lP) (f:=rf)) (fun _ _ _ h=>h.2) (fun d q rest v σ' Y N' e0 hv S k'=>?_) (i2.mono (fun Y e=>by rw [e]; exact R.h6) _ _) ⟨.refl,rfl⟩ fun σ' Y h=>by rw [h.2]; exact k σ' h.1
 obtain ⟨kp,rfl⟩:=S
 subst hv
 obtain ⟨a,b,c,lk⟩:=hw q (mem_mid e0)
 refine vr (x:=aa) (kp aa _ (by decide) l3) ?_
 refine yU ht lk ?_
 refine ET (n:=n + 2) (kp aa _ (by decide) l3) bV ht lk ?_
 refine ⟨(nu a b c).2.2.2.2,?_⟩
 refine nZ (vs:=uU b c) rfl rfl Ij ?_
 exact k' _ _ ⟨kp.cons (by decide),rfl⟩
theorem LU {L:Nat} {acc:List (AK × AV)} (R:LR X lf w wv ws u wk uk) (hL:X[L]? = some (.dict true acc)) (hacc:acc.length <= 1000) (l1:look σ aP = some (j8 lf w wv)) (l2:look σ eS = some (.dct L)) (l4:look σ ak = some (bO (kd lf) lf.v)) (k:N σ (X.set L (.dict true (bF acc lf)))) :
  aH (WF (n + 1)) [.ite (.d8 (.cmp .IsNot (.var ak) (.lit .none)) (.d8 (.j9 (.call cZ [(.sub (.var aP) (.lit (.int (3)))),(.lit (.int (3)))])) (.cmp .NotIn (.sub (.var aP) (.lit (.int (0)))) (.var eS)))) [.store (.var eS) (.sub (.var aP) (.lit (.int (0)))) (.var ak)] []] σ X N B T E:=by
 have oK:(lq (bO (kd lf) lf.v) && (!(bit (lf.x.getD 0) 3) && !(getKey acc (.s lf.name)).isSome)) = false -> N σ X:=fun q=>by
  unfold bF at k
  rw [q] at k
  rw [← set_same hL]; exact k
 refine vr l4 ?_
 refine cJ (fun q1:lq (bO (kd lf) lf.v) = true=>?_) fun q1:lq (bO (kd lf) lf.v) = false=>?_
 ·refine vr l1 ?_
  refine lA R.h4 R.h5.2.1 (by decide:1 <= 3 /\ 3 <= 26) ?_
  refine cJ (fun q2=>?_) fun q2=>?_
  ·refine vr l1 ?_
   refine vr (x:=eS) l2 ?_
   refine wy (k:=.s lf.name) (fg hL) ?_
   refine cJ (fun q3=>?_) fun q3=>?_
   ·unfold bF at k
    rw [q1,q2,q3] at k
    refine vr l4 ?_
    refine vr l2 ?_
    refine vr l1 ?_
    refine eF (i:=.s lf.name) hL (Nat.lt_of_le_of_lt hacc (by decide)) ?_
    exact k
   ·exact oK (by rw [q1,q2,q3]; rfl)
  ·exact oK (by rw [q1,q2]; rfl)
 ·exact oK (by rw [q1]; rfl)
theorem LR.ext {Y:Hp} (r:LR X lf w wv ws u wk uk) (e:Ext X Y):LR Y lf w wv ws u wk uk:=⟨e.list r.h1,e.dict r.h2,r.h3,e.dict r.h4,r.h5,e.list r.h6⟩
end
end
end
end Mine
end
section
set_option maxRecDepth 10000
namespace Mine
noncomputable section
section
variable {n:Nat} {σ σ':Loc} {H:Hp} {P:AP} {E:EP} {C:CF} {N B:LP} {T:AP}
noncomputable abbrev pR:List Nm:=[aB,aP,ak,jv,bw]
class inductive Ea (A:Hp) (lf:Lf):AV -> Prop where
 | mk (f r:AV):iV A lf f -> lF A lf r -> Ea A lf (.tup [f,r])
theorem Jm {A:Hp} {ls:List Lf} {fs:List AV} (h:bL (iV A) ls fs):∀ {rows:List AV},bL (lF A) ls rows -> bL (Ea A) ls ((fs.zip rows).map fun p=>.tup [p.1,p.2]):=by
 induction h with
 | nil=>exact fun _=>.nil
 | cons a _ ih=>
  intro rows h
  cases h with
  | cons b bs=>exact .cons ⟨_,_,a,b⟩ (ih bs)
theorem yj:∀ (d:List Lf) (acc:List (AK × AV)),(d.foldl bF acc).length <= acc.length + d.length
 | [],acc=>Nat.le_refl _
 | lf :: d,acc=>Nat.le_trans (yj d _) (Nat.le_trans (Nat.add_le_add_right qg _) (Nat.le_of_eq (Nat.add_right_comm ..)))
theorem keeps.trans {xs ys:List Nm} {GX:Loc} (h:keeps xs σ σ') (k:keeps ys σ' GX) (s:∀ y ∈ ys,y ∈ xs):keeps xs σ GX:=fun x v hx hv=>k x v (fun e=>hx (s x e)) (h x v hx hv)
theorem OT {l l':Nat} {vs ws:List AV} (h:H[l]? = some (.list vs)) (h':H[l']? = some (.list ws)):GY H (.lst l) (.lst l') = some (.zip (.lst l 0) (.lst l' 0)):=by
 show (H[l]?.bind pw).bind (fun _=>(H[l']?.bind pw).bind fun _=>((H[l]?.bind pw).bind fun _=>some (It.lst l 0)).bind fun i=>((H[l']?.bind pw).bind fun _=>some (It.lst l' 0)).bind fun j=>some (It.zip i j)) = _
 rw [h,h']; rfl
theorem EY {A:Hp} {tab:List (AK × AV)} {ls:List Lf} {rows fs:List AV} {e fl:Nat} (hs:LS A tab ls rows e fl fs) (hg:∀ lf ∈ ls,dI lf) (l1:look σ aw = some (.lst fl)) (l2:look σ aS = some (.lst 3)) (l3:look σ aa = some S0) (l4:look σ eS = some (.dct A.length))
  (k:∀ σ' H',uN pR σ A (fun d=>.dict true (d.foldl bF [])) ls σ' H' -> N σ' H'):hdS (jS.body.drop 9) (WF (n + 4)) σ (A ++ [.dict true []]) N B T E:=by
 refine vr l1 ?_
 refine vr l2 ?_
 refine bN (OT (Ext.app _ _ hs.found) (Ext.app _ _ hs.iL)) ?_
 have hz:gU (fun X=>X[fl]? = some (.list fs) /\ X[3]? = some (.list rows)) (.zip (.lst fl 0) (.lst 3 0)) ((fs.zip rows).map fun p=>.tup [p.1,p.2]) :=
  uu _ _ _ _ (qB (fun X h=>h.1) fs 0 rfl) (qB (fun X h=>h.2) rows 0 rfl)
 refine lM (Jm hs.Aj hs.zJ) (fun d σ X h=>⟨h.ex _ _ hs.found,h.ex _ _ hs.iL⟩) (fun d lf rest v σ' X N' e0 hv S k'=>?_) hz ⟨.refl,.app,getL⟩ k
 refine hv.casesOn (motive:=fun v _=>Is (bg _ v σ') _) fun fv rv hf O5=>?_
 obtain ⟨ws,u,uk,rfl,a1,a2,a3⟩:=hf.ext S.ex
 refine (O5.ext S.ex).casesOn (motive:=fun v _=>Is (bg _ (.tup [_,v]) σ') _) fun w wk wv b1 b2 b3=>?_
 have r:LR X lf w wv ws u wk uk:=⟨a1,a2,a3,b1,b2,b3⟩
 have hgood:=hg lf (mem_mid e0)
 have hds:=uh e0 hs.len
 have je:keeps pR σ ((aP,j8 lf w wv) :: (aB,kJ lf ws u) :: σ'):=(S.kp.cons (by decide)).cons (by decide)
 have m3:look ((aP,j8 lf w wv) :: (aB,kJ lf ws u) :: σ') aa = some S0:=je aa _ (by decide) l3
 have m4:look ((aP,j8 lf w wv) :: (aB,kJ lf ws u) :: σ') eS = some (.dct A.length):=je eS _ (by decide) l4
 have m1:look ((aP,j8 lf w wv) :: (aB,kJ lf ws u) :: σ') aP = some (j8 lf w wv):=bV
 have m2:look ((aP,j8 lf w wv) :: (aB,kJ lf ws u) :: σ') aB = some (kJ lf ws u):=b8 (by decide) bV
 show aH _ _ ((aP,j8 lf w wv) :: (aB,kJ lf ws u) :: σ') _ _ _ _ _
 generalize (aP,j8 lf w wv) :: (aB,kJ lf ws u) :: σ' = σ2 at *
 refine Jg r hgood m1 ?_
 refine Jj r hgood m1 m2 m3 bV ?_
 refine Jh r hgood m1 ?_
 refine LM (r.ext .app) hgood m2 m3 bV fun Y eY=>?_
 have nL:Ext X Y:=Ext.app.trans eY
 have ml:Ext A Y:=S.ex.trans nL
 have qS:keeps pR σ ((jv,.ah (lf.os.map sj)) :: (ak,bO (kd lf) lf.v) :: σ2):=(je.cons (by decide)).cons (by decide)
 refine Ji (r.ext nL) ((hs.form.ext ml).ok.elim fun fk h=>h.elim fun ks h=>h.1.t) (fun q hq=>hs.looks.ext ml lf (mem_mid e0) q hq) m1 m3 fun σ3 mP=>?_
 refine LU (r.ext nL) (nL _ _ S.at_) (Nat.le_trans (yj d []) (Nat.le_trans (Nat.le_of_eq (Nat.zero_add _)) (Nat.le_trans hds (by decide)))) (mP aP _ (by decide) m1) (mP eS _ (by decide) m4) (mP ak _ (by decide) (b8 (by decide) bV)) ?_
 exact k' _ _ ⟨qS.trans mP (by decide),ml.set (Nat.le_refl _),by rw [get_set (nL _ _ S.at_),List.foldl_append]; rfl⟩
theorem IQ {A:Hp} {tab:List (AK × AV)} {ls:List Lf} {rows fs:List AV} {e fl:Nat} (hs:LS A tab ls rows e fl fs) (l2:look σ aS = some (.lst 3)) (l3:look σ aa = some S0)
  (k:∀ σ' H',keeps [aK] σ σ' -> Ext A H' -> N σ' H'):hdS (jS.body.drop 11) (WF (n + 9)) σ A N B T E:=by
 have hgood:=hs.form.good
 refine vr l2 ?_
 obtain ⟨it,i1,i2⟩:=eV (dG hs.iL)
 refine j2 i1 ?_
 refine mr (hl:=Nat.lt_of_le_of_lt hs.len (by decide)) (I:=fun Y=>Y = A) (as:=ls) (F:=fun lf=>.str lf.name) hs.zJ (fun lf v oW hv Y K hY k=>?_) (i2.mono (fun Y e=>by rw [e]; exact dG hs.iL) _ _) rfl fun Y hY=>?_
 ·refine hv.casesOn (motive:=fun v _=>Is (bg _ v σ) _) fun u uk wv h1 h2 h3=>?_
  exact k _ hY
 subst hY
 refine ⟨Nat.le_trans (Nat.le_of_eq (List.length_map ..)) (Nat.le_trans hs.len (by decide)),?_⟩
 refine lM (I:=fun _=>True) (S:=fun d σ' X=>keeps [aK] σ σ' /\ Ext Y X) (kC (as:=ls) (f:=fun lf=>AV.str lf.name)) (fun _ _ _ _=>trivial) (fun d Hj r v σ' X N' e0 hv S k'=>?_) (aZ _) ⟨.refl,.refl _⟩ fun σ' X h=>k σ' X h.1 h.2
 subst hv
 obtain ⟨kp,ex⟩:=S
 have KO:=mem_mid e0
 have s2:=hs.ext ex
 refine vr (x:=aa) (kp aa _ (by decide) l3) ?_
 refine oS (Nat.le_trans s2.le (by decide)) s2.form (Nat.le_trans (hgood Hj KO).nl (by decide)) (Nat.le_trans s2.len (by decide)) (fun Z lf sN eZ wm=>?_) (fun Z wm=>?_)
 ·have s3:=s2.ext eZ
  refine vr (x:=aS) (kp aS _ (by decide) l2) ?_
  obtain ⟨it',Ku,Hq⟩:=eV (dG s3.iL)
  refine j2 Ku ?_
  refine DR (hl:=Nat.lt_of_le_of_lt hs.len (by decide)) (I:=fun W=>W = Z) (as:=ls) (F:=fun lf=>bO (kd lf) lf.v) (p:=fun lf=>decide (lf.name = Hj.name)) s3.zJ (fun lf v oW hv W K L hW k1 k2=>?_) (Hq.mono (fun Y e=>by rw [e]; exact dG s3.iL) _ _) rfl fun W hW=>?_
  ·subst hW
   have k9:=hgood lf oW
   refine hv.casesOn (motive:=fun v _=>Is (bg _ v _) _) fun u uk wv h1 h2 h3=>?_
   refine cJ (fun q=>?_) fun q=>k2 q _ rfl
   exact nh h1 h2.1 k9.ft h2.2.1 h2.2.2.1 k9.v (k1 q _ rfl)
  ·subst hW
   refine ⟨Nat.le_trans (Nat.le_of_eq (List.length_map ..)) (Nat.le_trans (List.length_filter_le ..) (Nat.le_trans hs.len (by decide))),?_⟩
   have oW:lf ∈ ls:=(List.mem_filter.1 (wm ▸ List.mem_cons_self:lf ∈ ls.filter fun lf=>decide (lf.name = Hj.name))).1
   rw [wm]
   refine wZ (hgood lf oW).v ?_
   exact k' _ _ ⟨kp.cons (by decide),ex.trans eZ⟩
 ·exact absurd (wm ▸ List.mem_filter.2 ⟨KO,decide_eq_true rfl⟩:Hj ∈ []) List.not_mem_nil
theorem um {tab:List (AK × AV)} {ls:List Lf} {e:Nat} (he:e <= 100) (hf:Form H (.dct 1) (.dct 2) tab ls e) (hls:ls.length <= 100) (k:∀ H',P (.bool true) H'):WF (n + 10) cR [S0,.str JZ] H P E:=by
 refine wf mR rfl ?_
 refine oS he hf (by decide) hls (fun H' lf sN ex h=>?_) (fun H' h=>⟨by decide,k H'⟩)
 have m:=List.mem_filter.1 (h ▸ List.mem_cons_self:lf ∈ ls.filter fun lf=>decide (lf.name = JZ))
 have h1:=(hf.good lf m.1).nm
 rw [of_decide_eq_true m.2] at h1
 exact absurd (by decide) h1
theorem nD {t r:AV} (h:∀ (E':EP) (P':AP),(∀ X,E' cj X) -> WF (n + 7) bB [aR t r] H P' E') (k:∀ H',P (.bool true) H'):WF (n + 8) cR [aR t r,.none] H P E:=by
 refine wf mR rfl ?_
 exact h _ _ fun X=>⟨by decide,k X⟩
noncomputable abbrev r8:List (AK × AV):=[(.i 1,.tup [.int 0,.aj [(.s a9,.aj [(.s aN,.ah [rf 2])])]]),(.i 2,.tup [.int 0,.aj [(.s gp,stI [97]),(.s aD,.ah [rf 2])]])]
noncomputable abbrev JQ:List (AK × AV):=[(.i 1,.tup [.int 0,.aj [(.s a9,.aj [(.s aN,.int 5)])]])]
noncomputable abbrev HR:List (AK × AV):=[(.i 1,.tup [.int 0,.aj []])]
noncomputable abbrev nW:List (AK × AV):=[(.s fT,rf 1)]
theorem Kh (k:∀ X,E cj X):WF (n + 7) bB [aR (.aj r8) (.aj nW)] H P E:=by
 refine wf ky rfl ?_
 have hf:j0 H (.aj r8) (.aj nW) r8 [(.s aN,.ah [rf 2])]:=⟨rfl,⟨nW,rfl,rfl⟩,[(.s a9,.aj [(.s aN,.ah [rf 2])])],rfl,.inl rfl⟩
 have hh:Head H r8 2 (.aj [(.s gp,stI [97]),(.s aD,.ah [rf 2])]) [(.s gp,stI [97]),(.s aD,.ah [rf 2])]:=⟨rfl,.inr rfl,by unfold Nd; decide,(by decide:2 <= 50)⟩
 have hp:gf [(.s gp,stI [97]),(.s aD,.ah [rf 2])] (some [97]):=⟨rfl,fun b hb=>Option.some.inj hb ▸ qi.2.1⟩
 refine z0 (ks:=[2]) hf (.inr rfl) (by decide) fun σ H1 fl nl sl ll N _ pl hfl T0 l1 l2 l3=>⟨2,?_⟩
 refine sR (ks:=[2]) (rest:=[]) pl rfl hh hp (fun a h=>nn h) (Nat.zero_le _) rfl (by decide) (by decide) (fun j hj=>?_) (by decide) (Nat.zero_le _) T0 l1 l2 l3 fun σ' H' T1 kp a1 a2 a3=>?_
 ·rw [List.mem_singleton.1 hj]
  exact ⟨_,_,_,⟨hh.1,rfl⟩,hp⟩
 refine ur T1 (by decide) a3 ?_
 refine vr a3 ?_
 refine J3 T1.line ?_
 refine G6 (vs:=[]) T1.line (by decide) ?_
 obtain ⟨it,sk,q1,q2,q3,q4⟩:=T1.seen
 refine vr (x:=aa) a1 ?_
 refine vr (x:=bl) a2 ?_
 exact yV (it:=it) (sk:=sk) (tab:=r8) rfl (d:=.aj [(.s gp,stI [97]),(.s aD,.ah [rf 2])]) (dk:=[(.s gp,stI [97]),(.s aD,.ah [rf 2])]) ⟨rfl,rfl⟩ ((List.getElem?_set_ne (Ne.symm pl.sl)).trans q1) (q4 2 (by decide) (by decide)) (Nat.le_trans q3 (by decide)) fun X _=>k X
theorem ML (k:∀ X,E cj X):WF (n + 7) bB [aR (.aj JQ) (.aj nW)] H P E:=by
 refine wf ky rfl ?_
 refine wf nG rfl ?_
 refine vc (tab:=JQ) (fk:=[(.s aN,.int 5)]) ⟨rfl,⟨nW,rfl,rfl⟩,[(.s a9,.aj [(.s aN,.int 5)])],rfl,.inl rfl⟩ ?_
 exact EV (kvs:=[(.s aN,.int 5)]) (i:=5) rfl rfl (by decide) (k _)
theorem DW:Form H (.aj HR) (.aj nW) HR [] 2 :=
 ⟨⟨[],[],⟨rfl,⟨nW,rfl,rfl⟩,[],rfl,.inr (.inr ⟨rfl,rfl⟩)⟩,.inl ⟨rfl,rfl⟩,.nil⟩,fun _ h=>absurd h List.not_mem_nil⟩
end
end
end Mine
end
section
set_option maxRecDepth 10000
namespace Mine
noncomputable section
section
variable {n:Nat} {σ σ':Loc} {H:Hp} {P:AP} {E:EP} {C:CF} {N B:LP} {T:AP}
theorem MD {i:Int} (k:P (.int (Int.natAbs i)) H):gV .abs (.int i) H P:=by with_unfolding_all exact k
theorem Rl:((10 ^ 80:Nat):Int) = (10:Int) ^ (Int.toNat 80):=by rw [Int.natCast_pow]; rfl
theorem LN {x y:Nat} {k:AV -> Prop} (h:0 < y) (r:k (.int ((x % y:Nat):Int))):Is (kB .Mod (.int x) (.int y)) k:=HT (Int.natCast_pos.mpr h) (Int.natCast_emod x y ▸ r)
structure qo (σ:Loc) (fl:Nat):Prop where
 fL:look σ aa = some S0
 rows:look σ aS = some (.lst 3)
 found:look σ aw = some (.lst fl)
theorem qo.to {xs:List Nm} {fl:Nat} (h:qo σ fl) (k:keeps xs σ σ') (hx:aa ∉ xs /\ aS ∉ xs /\ aw ∉ xs):qo σ' fl:=⟨k _ _ hx.1 h.fL,k _ _ hx.2.1 h.rows,k _ _ hx.2.2 h.found⟩
theorem Kq {tab:List (AK × AV)} {ls:List Lf} {rows fs:List AV} {e fl:Nat} (hs:LS H tab ls rows e fl fs) (hg:∀ lf ∈ ls,dI lf) (V:qo σ fl)
  (k:∀ σ' H',qo σ' fl -> Ext H H' -> aH (WF (n + 6)) (jS.body.drop 8) σ' H' N B T E):aH (WF (n + 6)) (jS.body.drop 3) σ H N B T E:=by
 refine IT (B:=B) (E:=E) (σ:=(g6,.lst H.length) :: σ) hs hg V.found rfl fun σ3 H3 F3=>?_
 have V3:qo σ3 fl:=V.to (fun x v hx hv=>F3.kp x v (fun h=>hx (List.mem_cons_of_mem g6 h)) (b8 (fun e=>hx (e ▸ List.mem_cons_self)) hv)) (by decide)
 have h3:=F3.kp g6 _ (by decide) bV
 have L3:=hs.ext F3.ex
 refine MN (B:=B) (E:=E) (n:=n + 4) (σ:=(ly,.lst H3.length) :: σ3) L3 hg V3.rows rfl fun σ4 H4 F4=>?_
 have V4:qo σ4 fl:=V3.to (fun x v hx hv=>F4.kp x v (fun h=>hx (List.mem_cons_of_mem ly h)) (b8 (fun e=>hx (e ▸ List.mem_cons_self)) hv)) (by decide)
 have h4:=F4.kp g6 _ (by decide) (b8 (by decide) h3)
 have h5:=F4.kp ly _ (by decide) bV
 have L4:=L3.ext F4.ex
 have QV:=F4.ex _ _ F3.at_
 refine vr h4 ?_
 refine vr h5 ?_
 refine nZ (vs:=ls.map hT) (dG QV) (dG F4.at_) (fun v hv=>let ⟨lf,_,e⟩:=List.mem_map.1 hv; e ▸ KZ (n:=2)) ?_
 refine vr V4.fL ?_
 refine vr V4.found ?_
 refine vr V4.rows ?_
 refine vQ L4 fun H5 Lr=>?_
 exact k σ4 H5 V4 ((F3.ex.trans F4.ex).trans Lr)
end
end
end Mine
end
section
set_option maxRecDepth 10000
namespace Mine
noncomputable section
section
variable {n:Nat} {σ σ':Loc} {H:Hp} {P:AP} {E:EP} {C:CF} {N B:LP} {T:AP}
theorem Ko {tab:List (AK × AV)} {ls:List Lf} {rows fs:List AV} {e fl:Nat} (hs:LS H tab ls rows e fl fs) (hg:∀ lf ∈ ls,dI lf) (V:qo σ fl)
  (k:∀ σ' H',look σ' aa = some S0 -> Ext H H' -> aH (WF (n + 9)) (jS.body.drop 12) σ' H' N B T E):aH (WF (n + 9)) (jS.body.drop 8) σ H N B T E:=by
 refine EY (B:=B) (E:=E) (n:=n + 5) (σ:=(eS,.dct H.length) :: σ) hs hg V.found V.rows V.fL rfl fun σ6 H6 F6=>?_
 have d1:=F6.kp aa _ (by decide) (b8 (by decide) V.fL)
 have d2:=F6.kp aS _ (by decide) (b8 (by decide) V.rows)
 have d3:=F6.kp eS _ (by decide) bV
 have L6:=hs.ext F6.ex
 refine vr d1 ?_
 refine yW (n:=n + 1) (Nat.le_trans L6.le (by decide)) L6.form (Nat.le_trans L6.len (by decide)) fun H7 L Lq RZ Q4=>?_
 refine vr d3 ?_
 refine EL (kvs:=ls.foldl bF []) (fg Q4) (fg (Lq _ _ F6.at_)) (yk hg fun _ h=>absurd h List.not_mem_nil) ?_
 refine IQ (B:=B) (E:=E) (L6.ext Lq) d2 d1 fun σ8 H8 Qm Lp=>?_
 exact k σ8 H8 (Qm aa _ (by decide) d1) ((F6.ex.trans Lq).trans Lp)
theorem Km {tab:List (AK × AV)} {ls:List Lf} {rows fs:List AV} {e fl:Nat} (hs:LS H tab ls rows e fl fs) (l:look σ aa = some S0) (k:∀ H',T (.bool true) H'):aH (WF (n + 10)) (jS.body.drop 12) σ H N B T E:=by
 refine vr (x:=aa) l ?_
 refine um (Nat.le_trans hs.le (by decide)) hs.form (Nat.le_trans hs.len (by decide)) fun X=>?_
 refine nD (n:=n + 2) (fun E' P' hE=>Kh hE) fun X=>?_
 refine nD (n:=n + 2) (fun E' P' hE=>ML hE) fun X=>?_
 refine jm (n:=n + 3) (e:=2) (by decide) DW fun Z l fs' R6 RY hZ hA=>?_
 cases hA
 refine FI (vs:=[]) (dG (Ext.app _ _ hZ)) (dG getL) (fun _ h=>absurd h List.not_mem_nil) ?_
 exact k _
theorem tb {o:Op} {a b:TE} (h:a C σ H (fun x H=>b C σ H (fun y H=>Is (kB o x y) fun v=>P v H) E) E):TE.bin o a b C σ H P E:=h
theorem tl {v:AV} (h:P v H):TE.lit v C σ H P E:=h
theorem M6 {k:AV -> Prop} (q:k (.int ((10 ^ 80:Nat):Int))):Is (kB .Pow (.int 10) (.int 80)) k:=M4 (by decide) (by rw [Rl] at q; exact q)
theorem MM {ns:List Int} (hl:ns.length <= 63) (k:∀ H',P (.bool true) H'):WF (n + 11) lu [.ah (ns.map .int)] [] P E:=by
 refine wf Lj rfl ?_
 refine ⟨⟨by decide,by decide,Nat.le_trans (Nat.le_of_eq (List.length_map ..)) (Nat.le_trans hl (by decide))⟩,?_⟩
 have E6:(ns.take 24).length <= 24:=List.length_take_le ..
 have ht:(ns.map AV.int).take (24:Int).toNat = (ns.take 24).map AV.int:=List.map_take.symm
 refine mr (hl:=Nat.lt_of_le_of_lt E6 (by decide)) (I:=fun Y=>Y = []) (as:=ns.take 24) (vs:=(ns.map AV.int).take (24:Int).toNat) (F:=fun i=>.int ((i.natAbs % 10 ^ 80:Nat):Int)) (ht ▸ kC (f:=AV.int)) (fun i v _ hv Y K hY k=>?_) (aZ _) rfl fun Y hY=>?_
 ·subst hv hY
  refine MD ?_
  refine tb ?_
  refine tl ?_
  refine tl ?_
  refine M6 ?_
  refine LN (Nat.pow_pos (by decide)) ?_
  exact k _ rfl
 subst hY
 have Hu:(ns.take 24).map (fun i=>AV.int ((i.natAbs % 10 ^ 80:Nat):Int)) = eQ ((ns.take 24).map fun i=>i.natAbs % 10 ^ 80):=by unfold eQ; rw [List.map_map]; rfl
 rw [Hu]
 have Ae:((ns.take 24).map fun i=>i.natAbs % 10 ^ 80).length <= 64:=Nat.le_trans (Nat.le_of_eq (List.length_map ..)) (Nat.le_trans E6 (by decide))
 generalize (ns.take 24).map (fun i=>i.natAbs % 10 ^ 80) = ps at *
 clear Hu E6 ht hl
 refine ⟨Nat.le_trans (Nat.le_of_eq (List.length_map ..)) (Nat.le_trans Ae (by decide)),?_⟩
 refine Bb (n:=n + 2) Ae fun H1 tab ls rows e B=>?_
 refine jm (n:=n + 3) (Nat.le_trans B.le (by decide)) B.form fun H2 fl fs nL hfl hF hA=>?_
 have L2:LS H2 tab ls rows e fl fs:=⟨B.form.ext nL,nL _ _ B.iL,B.ok.imp fun _ _ r=>r.ext nL,B.looks.ext nL,hF,hA.imp fun _ _=>jr.ok,B.le,B.len⟩
 refine Kq (n:=n + 4) L2 B.form.good ⟨rfl,rfl,rfl⟩ fun σ5 H5 V5 Lr=>?_
 have L5:=L2.ext Lr
 refine Ko (n:=n + 1) L5 B.form.good V5 fun σ8 H8 l8 Lp=>?_
 exact Km (L5.ext Lp) l8 k
end
end
end Mine
end
section
open PySem
namespace Mine
noncomputable section
section
noncomputable def nm (x:Str):Nm:=x.cps.toList
noncomputable def kQ (x:String):Nm:=x.toList.map Char.toNat
noncomputable def Bv:List (Nm × AV):=[
 (kQ "MOST_HOPS",.int 30),(kQ "MARK",.bytes [254,255]),(kQ "UNKNOWN",.int 65533),(kQ "OFF",.str (nm "Off")),
 (kQ "INHERITED_KEYS",.tup ((["FT","Ff","V","DV","MaxLen","Opt"]:List Str).map fun x=>.str (nm x)))]
noncomputable def litOf:Const -> Option AV
 | .none=>some .none
 | .bool b=>some (.bool b)
 | .int i=>some (.int i)
 | .str s=>some (.str (nm s))
 | .bytes b=>some (.bytes (b.map (·.toNat)))
 | _=>none
noncomputable def Lc (pos:Pos) (empty:Bool):Bool:=if empty then [268].contains pos.line else true
noncomputable def Ld (pos:Pos):Bool:=![480,310].contains pos.line
noncomputable def DI (pos:Pos) (empty:Bool):Bool:=if empty then ![139,140,219,246,362,492].contains pos.line && !(pos.line == 419 && pos.col > 30) else ![248,413].contains pos.line
noncomputable def wz:List (Str × Bi):=[("len",.len),("abs",.abs),("ord",.ord),("chr",.chr),("bytes",.bytes),("sum",.sum),("sorted",.sorted),("list",.list)]
noncomputable def BU (x:Str):Option Bi:=wz.lookup x
noncomputable def GZ:List (Str × Ty):=[("bool",.nR),("int",.pG),("list",.eo),("dict",.iJ),("Name",.dz (nm "Name")),("String",.dz (nm "String")),("Reference",.dz (nm "Reference"))]
noncomputable def Ek (x:Str):Option Ty:=GZ.lookup x
noncomputable def isLocal (ks:List (Str × NameKind)) (x:Str):Bool:=decide (ks.lookup x = some .local \/ ks.lookup x = some .cell \/ ks.lookup x = some .free)
noncomputable def wj (ks:List (Str × NameKind)) (x:Str):Bool:=decide (ks.lookup x = some .local)
noncomputable def aQ (ks:List (Str × NameKind)) (x:Str):Bool:=decide (ks.lookup x = some .globalImplicit)
noncomputable def jD (ks:List (Str × NameKind)):Bool:=decide (∀ p ∈ ks,p.2 ≠ .cell)
noncomputable def s7 (e:Expr):Bool:=[8,9,10].contains e.ctorIdx
noncomputable def dj:List Nm:=["text","octets","is_hex","number","generation","table","trailer","name","reference","above","widgets","head","kind","fields","nodes","seen"].map kQ
noncomputable def dot0:Nm:=[46,48]
noncomputable def isVar (ks:List (Str × NameKind)) (x:Str):Bool:=decide (nm x ≠ dot0 /\ (ks.lookup x = some .local \/ ks.lookup x = some .cell))
noncomputable def freeOk (ks sc:List (Str × NameKind)):Bool:=decide (∀ p ∈ sc,p.2 = .free -> ks.lookup p.1 = some .cell)
noncomputable def iq:bq -> List Nm
 | .one x=>[x]
 | .many xs=>xs
noncomputable def Hi (sc:List (Str × NameKind)) (t:bq):Bool:=decide ((sc.map (·.1)).Nodup /\ ∀ p ∈ sc,p.2 = .local -> nm p.1 = dot0 \/ nm p.1 ∈ iq t)
noncomputable def fM (c:Nm):Bool:=c == kQ "TreeFault" || c == kQ "DraftFault"
end
end
end Mine
end
section
open PySem PySem.W PyProof.Rows PySem.Calls
namespace Mine
noncomputable section
section
noncomputable def toS (x:Nm):Str:=⟨x.toArray⟩
@[simp] theorem CM (x:Nm):nm (toS x) = x:=by simp [nm,toS]
@[simp] theorem bJ (x:Str):toS (nm x) = x:=by cases x; simp [nm,toS]
theorem j7 {x y:Nm} (h:toS x = toS y):x = y:=by have:=congrArg nm h; simpa using this
@[simp] theorem PH {x y:Nm}:(toS x = toS y) ↔ x = y:=⟨j7,fun h=>by rw [h]⟩
noncomputable def fW:AK -> Value -> Bool
 | .s x=>Value.isStrOf (toS x)
 | .i n=>Value.isInt n
theorem d9 {x:Nm} {v:Value} (h:fW (.s x) v = true):∃ t,v = .str (toS x) t:=Value.isStrOf_shape h
theorem iG {n:Int} {v:Value} (h:fW (.i n) v = true):∃ t,v = .int n t:=Value.isInt_shape h
theorem vY {prog:Program} {w:World} {A:Around} {E:Value -> Shared -> Prop} {s:Shared} {x:Str} {n:Int} {t u:Tok} {Q:Bool -> Shared -> Prop} (h:Q false s) :
  wpAny (model prog w) A (PySem.eqBool (.str x t) (.int n u)) Q E s:=by
 unfold PySem.eqBool
 refine wpAny_holding ?_
 show wpAny _ _ (if (Value.str x t == Value.int n u) = true then _ else _) Q E s
 rw [if_neg (by simp)]
 exact wpAny_bind (EqMixed.eq_str_int (wpAny_truthy_bool h))
theorem vZ {prog:Program} {w:World} {A:Around} {E:Value -> Shared -> Prop} {s:Shared} {x:Str} {n:Int} {t u:Tok} {Q:Bool -> Shared -> Prop} (h:Q false s) :
  wpAny (model prog w) A (PySem.eqBool (.int n u) (.str x t)) Q E s:=by
 unfold PySem.eqBool
 refine wpAny_holding ?_
 show wpAny _ _ (if (Value.int n u == Value.str x t) = true then _ else _) Q E s
 rw [if_neg (by simp)]
 exact wpAny_bind (EqMixed.eq_int_str (wpAny_truthy_bool h))
theorem D6 (k:AK) (v:Value) (h:fW k v = true):carriedByValue v = true:=by
 cases k with
 | s x=>obtain ⟨t,rfl⟩:=d9 h; rfl
 | i n=>obtain ⟨t,rfl⟩:=iG h; rfl
noncomputable def D5 (prog:Program) (w:World):AK -> Int
 | .s x=>(PySem.strKind prog w).hash (toS x)
 | .i n=>(PySem.intKind prog w).hash n
theorem F2 {prog:Program} {w:World} {A:Around} {E:Value -> Shared -> Prop} {s:Shared} {k:AK} {v:Value} {Q:Int -> Shared -> Prop} (hv:fW k v = true)
  (h:Q (D5 prog w k) { s with toks:=s.toks + 1 }):wpAny (model prog w) A (PySem.pyHash v) Q E s:=by
 cases k with
 | s x=>obtain ⟨t,rfl⟩:=d9 hv; exact wpAny_pyHash_str h
 | i n=>obtain ⟨t,rfl⟩:=iG hv; exact wpAny_pyHash_int h
theorem F5 {prog:Program} {w:World} {A:Around} {E:Value -> Shared -> Prop} {s:Shared} {a b:AK} {u v:Value} {Q:Bool -> Shared -> Prop} (hu:fW a u = true) (hv:fW b v = true)
  (h:Q (decide (a = b)) s):wpAny (model prog w) A (PySem.eqBool u v) Q E s:=by
 cases a with
 | s x=>
  obtain ⟨t,rfl⟩:=d9 hu
  cases b with
  | s y=>obtain ⟨t',rfl⟩:=d9 hv; exact wpAny_eqBool_str (by simpa using h)
  | i n=>obtain ⟨t',rfl⟩:=iG hv; exact vY (by simpa using h)
 | i m=>
  obtain ⟨t,rfl⟩:=iG hu
  cases b with
  | s y=>obtain ⟨t',rfl⟩:=d9 hv; exact vZ (by simpa using h)
  | i n=>
   obtain ⟨t',rfl⟩:=iG hv
   refine wpAny_eqBool_int ?_
   rw [show (m == n) = decide (m = n) from rfl]
   simpa using h
theorem Ma (prog:Program) (w:World) (k:AK) (x:Str) (t:Tok) (v:Value) (h:fW k (.str x t) = true):fW k v = v.isStr x:=by
 cases k with
 | s y=>exact (PySem.strKind prog w).strs _ x t v h
 | i n=>cases h
theorem Nb (v:Value) (a b:AK) (ha:fW a v = true) (hb:fW b v = true):a = b:=by
 cases a with
 | s x=>
  cases b with
  | s y=>rw [j7 (Value.isStrOf_inj _ _ _ ha hb)]
  | i n=>obtain ⟨t,rfl⟩:=d9 ha; cases hb
 | i m=>
  cases b with
  | s y=>obtain ⟨t,rfl⟩:=d9 hb; cases ha
  | i n=>rw [Value.isInt_inj _ _ _ ha hb]
noncomputable def my (prog:Program) (w:World):PySem.KeyKind prog w AK :=
 ⟨fW,D5 prog w,Nb,D6,F2,F5,Ma prog w⟩
structure TP where
 prog:Program
 w:World
 h₀:Heap
 cls:Nm -> Option Addr
 exc:Nm -> Option Addr
 K:Frag
structure Gh where
 μ:List Addr
 Z:Addr -> Prop
noncomputable instance:Nonempty Gh:=⟨⟨[],fun _=>True⟩⟩
noncomputable instance:Nonempty Around:=⟨{}⟩
noncomputable instance:Nonempty Shared:=⟨{}⟩
noncomputable instance:Nonempty Drawn:=⟨{}⟩
noncomputable abbrev TP.M (P:TP):Model:=model P.prog P.w
noncomputable abbrev TP.kind (P:TP):=my P.prog P.w
mutual
inductive VR (P:TP) (g:Gh) (h:Heap):AV -> Value -> Prop
 | none:VR P g h .none .none
 | bool (b:Bool):VR P g h (.bool b) (.bool b)
 | int (n:Int) (tk:Tok):VR P g h (.int n) (.int n tk)
 | str (x:Nm) (tk:Tok):VR P g h (.str x) (.str (toS x) tk)
 | bytes (b:Array UInt8) (tk:Tok):VR P g h (.bytes (b.toList.map (·.toNat))) (.bytes b tk)
 | lst {l:Nat} {a:Addr}:g.μ[l]? = some a -> VR P g h (.lst l) (.ref a)
 | dct {l:Nat} {a:Addr}:g.μ[l]? = some a -> VR P g h (.dct l) (.ref a)
 | tup {bh:List AV} {vs:List Value} {a:Addr}:g.Z a -> IsTup h a vs.toArray -> aC P g h bh vs -> VR P g h (.tup bh) (.ref a)
 | ah {bh:List AV} {vs:List Value} {a:Addr}:g.Z a -> h.PlainList a vs.toArray -> aC P g h bh vs -> VR P g h (.ah bh) (.ref a)
 | aj {kvs:List (AK × AV)} {es:List (AK × Value)} {a:Addr} {ep:Nat}:(a == sysModules) = false -> g.Z a -> h.DictAt P.kind a es ep -> aU P g h kvs es -> VR P g h (.aj kvs) (.ref a)
 | inst {c:Nm} {C d a:Addr} {fs:List (Nm × AV)} {es:List (AK × Value)} {ep:Nat}:g.Z a -> g.Z d -> P.cls c = some C -> h.get? a = some (instObj C d) ->
   h.DictAt P.kind d es ep -> eE P g h fs es -> VR P g h (.inst c fs) (.ref a)
inductive aC (P:TP) (g:Gh) (h:Heap):List AV -> List Value -> Prop
 | nil:aC P g h [] []
 | cons {a:AV} {v:Value} {as:List AV} {vs:List Value}:VR P g h a v -> aC P g h as vs -> aC P g h (a :: as) (v :: vs)
inductive aU (P:TP) (g:Gh) (h:Heap):List (AK × AV) -> List (AK × Value) -> Prop
 | nil:aU P g h [] []
 | cons {k:AK} {a:AV} {v:Value} {as:List (AK × AV)} {vs:List (AK × Value)}:VR P g h a v -> aU P g h as vs -> aU P g h ((k,a) :: as) ((k,v) :: vs)
inductive eE (P:TP) (g:Gh) (h:Heap):List (Nm × AV) -> List (AK × Value) -> Prop
 | nil:eE P g h [] []
 | cons {k:Nm} {a:AV} {v:Value} {as:List (Nm × AV)} {vs:List (AK × Value)}:VR P g h a v -> eE P g h as vs -> eE P g h ((k,a) :: as) ((.s k,v) :: vs)
end
noncomputable def uP (P:TP):Ty -> Option Value
 | .nR=>some (.type "bool")
 | .pG=>some (.type "int")
 | .eo=>some (.type "list")
 | .iJ=>some (.type "dict")
 | .dz c=>(P.cls c).map .ref
noncomputable def tX:List String:=["NoneType","bool","int","str","bytes","tuple","list","dict"]
noncomputable def sY (t:String):Ty -> Bool
 | .nR=>t == "bool"
 | .pG=>t == "int" || t == "bool"
 | .eo=>t == "list"
 | .iJ=>t == "dict"
 | .dz _=>false
noncomputable def Ho (c:Nm):Ty -> Bool
 | .dz d=>decide (d = c)
 | _=>false
structure Mm (P:TP) (c:Nm) (C:Addr):Prop where
 isin:∀ ty v,uP P ty = some v -> kitOne P.K (.ref C) v = some (Ho c ty)
 plain:plainGet P.K C "__class__" = true
 hasDict:hasDictIn P.K C = true
 cls:findIn P.K (.ref C) "__class__" = some (some (.builtin "object.__class__"))
 obj:mroIn P.K C (.type "object") = some true
structure oN (P:TP):Prop where
 oU:P.K.In P.h₀
 isin:∀ t ∈ tX,∀ ty v,uP P ty = some v -> kitOne P.K (.type t) v = some (sY t ty)
 Lz:specialIn P.K (.builtin "object.__class__") "__get__" = some (some (.builtin "getset_descriptor.__get__"))
 FN:takesIn P.K (.builtin "object.__class__") = some true
 cls:∀ c C,P.cls c = some C -> Mm P c C
noncomputable abbrev aM:Str:="__debug__"
noncomputable def Ao:Bi -> Value
 | .len=>.builtin "len" | .abs=>.builtin "abs" | .ord=>.builtin "ord" | .chr=>.builtin "chr" | .bytes=>.type "bytes" | .sum=>.builtin "sum" | .sorted=>.builtin "sorted"
 | .dict _=>.type "dict" | .list=>.type "list"
structure Df where
 params:List Nm
 body:List Stmt
 sc:Scope
structure Cf where
 self:Str
 params:List Nm
 bb:List AV
 body:List Stmt
 sc:Scope
structure B3 (P:TP) (a:Addr) (fd:FuncData) (body:List Stmt) (sc:Scope):Prop where
 obj:∃ o,P.h₀.get? a = some o /\ o.data = .func fd
 body:fd.body = .stmts body
 code:P.h₀.CodeRec fd.code fd.qualname
 closure:fd.closure = []
 globals:fd.globals = mainGlobals
 builtins:fd.builtins = builtinsNs
 sc:fd.scope = sc
structure kL (P:TP) (D:Df) (a:Addr):Prop where
 all:∃ fd,B3 P a fd D.body D.sc /\ ∀ vals:List Value,vals.length = D.params.length -> bindArgs fd ⟨vals,[]⟩ = pure ((D.params.map toS).zip vals)
structure Ed (P:TP) (D:Cf) (a:Addr):Prop where
 all:∃ fd bx,B3 P a fd D.body D.sc /\ bx.length = D.bb.length /\ (∀ g h,aC P g h D.bb bx) /\
  ∀ (s:Shared) (x:Value) (vals:List Value),(∀ b o,P.h₀.get? b = some o -> s.heap.get? b = some o) -> vals.length <= D.params.length -> D.params.length <= vals.length + bx.length ->
   BindsTo s fd ⟨x :: vals,[]⟩ ((D.self,x) :: (D.params.map toS).zip (vals ++ bx.drop (bx.length - (D.params.length - vals.length))))
noncomputable def wb:List Stmt:=PySem.Challenge.pw_pb0489_01.main.body
noncomputable def F0 (s:Stmt):Option (Str × Arguments × List Stmt × Scope):=match s with
 | .FunctionDef m args b _ _ _ sc _ _ _=>some (m,args,b,sc)
 | _=>none
noncomputable def fnIn (f:Nm) (body:List Stmt):Option Df:=body.findSome? fun s=>(F0 s).bind fun p=>if nm p.1 = f then some ⟨p.2.1.args.map fun a=>nm a.arg,p.2.2.1,p.2.2.2⟩ else none
noncomputable def BL (c:Nm):Option (List Stmt):=wb.findSome? fun s=>match s with
 | .ClassDef c' _ _ b _ _ _ _ _ _ _=>if nm c' = c then some b else none
 | _=>none
noncomputable def kT (f:Nm):Option Df:=match f.dropWhile fun x=>x != 46 with
 | []=>fnIn f wb
 | _ :: m=>(((BL (f.takeWhile fun x=>x != 46)).bind (fnIn m)).or (if f.takeWhile (fun x=>x != 46) = iQ then (BL (kQ "Lookup")).bind (fnIn m) else none))
noncomputable def Lw (e:Expr):AV:=match e with
 | .Constant c _ _=>(litOf c).getD .none
 | _=>.none
noncomputable def Dc (b:List Stmt):Option Cf:=b.findSome? fun s=>(F0 s).bind fun p=>if nm p.1 = kQ "__init__" then p.2.1.args.head?.map fun x=>⟨x.arg,(p.2.1.args.drop 1).map fun a=>nm a.arg,p.2.1.defaults.map Lw,p.2.2.1,p.2.2.2⟩ else none
noncomputable def vC (c:Nm):Option Cf:=((BL c).bind Dc).or (if c = iQ then (BL (kQ "Lookup")).bind Dc else none)
structure ClsAt (P:TP) (c:Nm) (D:Cf) (C:Addr):Prop where
 cls:P.cls c = some C
 call:specialIn P.K (.ref C) "__call__" = some (some (.builtin "type.__call__"))
 MO:keepIn P.K (.ref C) = true
 makes:makesIn P.K C = true
 wc:findIn P.K (.ref C) "__setattr__" = some (some (.builtin "object.__setattr__"))
 over:plainOver P.K C = true
 Jv:∀ x ∈ dj,takerIn P.K C (toS x) = some none
 init:∃ fI,findIn P.K (.ref C) "__init__" = some (some (.ref fI)) /\ typeIn P.K (.ref fI) = some (.type "function") /\ Ed P D fI
noncomputable abbrev iE (rs:List Addr):List Value:=rs.map .ref ++ [.type "Exception",.type "BaseException",.type "object"]
noncomputable def xB:List Stmt:=[.Expr (.Call (.Attribute (.Name "Exception" ⟨8,8,8,17⟩) "__init__" ⟨8,8,8,26⟩) [.Name "self" ⟨8,27,8,31⟩,.Name "what" ⟨8,33,8,37⟩] [] ⟨8,8,8,38⟩) ⟨8,8,8,38⟩,
 .Assign [.Attribute (.Name "self" ⟨9,8,9,12⟩) "what" ⟨9,8,9,17⟩] (.Name "what" ⟨9,20,9,24⟩) ⟨9,8,9,24⟩,.Assign [.Attribute (.Name "self" ⟨10,8,10,12⟩) "at" ⟨10,8,10,15⟩] (.Name "at" ⟨10,18,10,20⟩) ⟨10,8,10,20⟩]
noncomputable abbrev uO:List Str:=["self","what","at"]
structure XI (P:TP) (C a:Addr) (fd:FuncData) (dv:Value):Prop where
 at_:B3 P a fd xB fd.scope
 kind:fd.scope.kind = .function
 co:fd.scope.isCoroutine = false
 gen:fd.scope.isGenerator = false
 binds:∀ (s:Shared) (e v:Value),(∀ b o,P.h₀.get? b = some o -> s.heap.get? b = some o) -> BindsTo s fd ⟨[e,v],[]⟩ [("self",e),("what",v),("at",dv)]
 loc:∀ x ∈ uO,fd.scope.names.lookup x = some .local
 glob:fd.scope.names.lookup ("Exception":Str) = some .globalImplicit
 jD:∀ n ∈ fd.scope.names,n.2 ≠ .cell
 PJ:takerIn P.K C "what" = some none
 PI:takerIn P.K C "at" = some none
noncomputable abbrev sl (o:Obj) (i:Nat):Option Value:=(o.slots[i]?).getD none
noncomputable abbrev jT (C:Addr) (p:ClassData × Obj) (rs:List Addr):Obj:=excClassObj p.1.name p.1.qualname C p.1.ns p.1.bases (iE rs) true p.1.slotNames p.1.subclasses p.1.abstract p.1.collection p.2.dict (sl p.2 0) (sl p.2 1) (sl p.2 2) (sl p.2 3) (sl p.2 5) "Exception.__new__"
structure ExcAt (P:TP) (C:Addr):Prop where
 obj:∃ p rs,P.K.lookup C = some (jT C p rs)
 call:specialIn P.K (.ref C) "__call__" = some (some (.builtin "type.__call__"))
 typ:instIn P.K (.ref C) (.type "type") = some true
 wc:findIn P.K (.ref C) "__setattr__" = some (some (.builtin "object.__setattr__"))
 init:∃ fI fd dv,findIn P.K (.ref C) "__init__" = some (some (.ref fI)) /\ typeIn P.K (.ref fI) = some (.type "function") /\ XI P C fI fd dv
structure Ec (P:TP) (mg mb:Str -> Option Value):Prop where
 hg:P.h₀.Ns mainGlobals mg
 hb:P.h₀.Ns builtinsNs mb
 glob:∀ x v,Bv.lookup (nm x) = some v -> ∃ u,mg x = some u /\ ∀ g h,(∀ b o,P.h₀.get? b = some o -> g.Z b /\ h.get? b = some o) -> VR P g h v u
 fn:∀ f D,(nm f).contains 46 = false -> kT (nm f) = some D -> ∃ a,mg f = some (.ref a) /\ kL P D a
 cl:∀ f D,vC (nm f) = some D -> (gQ.lookup (nm f)).isSome = true -> ∃ C,mg f = some (.ref C) /\ ClsAt P (nm f) D C
 bi:∀ f b,BU f = some b -> mg f = none /\ mb f = some (Ao b)
 dict:mg "dict" = none /\ mb "dict" = some (.type "dict")
 isin:mg "isinstance" = none /\ mb "isinstance" = some (.builtin "isinstance")
 rev:mg "reversed" = none /\ mb "reversed" = some (.type "reversed")
 range:mg "range" = none /\ mb "range" = some (.type "range")
 zip:mg "zip" = none /\ mb "zip" = some (.type "zip")
 ty:∀ t ty,Ek t = some ty -> ∃ v,uP P ty = some v /\ (mg t = some v \/ (mg t = none /\ mb t = some v))
 DP:mg "Exception" = none /\ mb "Exception" = some (.type "Exception")
 exc:∀ f,fM (nm f) = true -> ∃ C,P.exc (nm f) = some C /\ mg f = some (.ref C) /\ ExcAt P C /\ ∀ d D,P.exc d = some D -> exmOne P.K (.ref D) (.ref C) = some (decide (d = nm f))
structure dT (P:TP):Prop where
 T:oN P
 nolimit:P.h₀.NoLimit
 ns:∃ mg mb,Ec P mg mb
 attr:∀ x ∈ dj,∀ c C,P.cls c = some C -> plainGet P.K C (toS x) = true /\ ∃ attr,findIn P.K (.ref C) (toS x) = some attr /\ noGet P.K attr = true
 pg:∀ m c C,P.cls c = some C -> plainGet P.K C m = true
 aF:∀ c C m,P.cls c = some C -> gq.contains (c ++ 46 :: m) = true -> ∃ D a,kT (c ++ 46 :: m) = some D /\ findIn P.K (.ref C) (toS m) = some (some (.ref a)) /\ typeIn P.K (.ref a) = some (.type "function") /\ kL P D a
noncomputable def yu (P:TP):Prop:=dT P -> ∀ (s:Shared),P.h₀ = s.heap -> ∀ D,kT lu = some D -> ∀ (a L:Addr) (us:List Value) (ns:List Int),kL P D a -> s.heap.PlainList L us.toArray -> IntsAre us ns -> s.gens = #[] -> (∃ o,s.heap.get? sysModules = some o) ->
  WF 11 lu [.ah (ns.map .int)] [] (fun v _=>v = .bool true) ee -> ∀ (Q:Value -> Shared -> Prop) (E:Value -> Shared -> Prop),
  (∀ s',(∀ b o,s.heap.get? b = some o -> s'.heap.get? b = some o) -> s'.os = s.os -> s'.gens = #[] -> Q (.bool true) s') -> wpAny P.M callerA (call (.ref a) [.ref L]) Q E s
noncomputable instance:Nonempty TP:=⟨⟨PySem.Challenge.rw_pb0489_01.row.prog,⟨fun _ _=>0,{ strHash:=fun _=>0,shareClass:=fun _=>0,mergeTok:=id,idOf:=fun _=>0,idOfShared:=fun _ _=>0,followText:=fun _=>false,idOfImm:=fun _=>0 }⟩,{},fun _=>none,fun _=>none,[]⟩⟩
noncomputable def P:TP:=Classical.epsilon fun p=>¬ yu p
theorem O1 (h:yu P) (p:TP):yu p:=Classical.byContradiction fun n=>Classical.epsilon_spec (p:=fun p=>¬ yu p) ⟨p,n⟩ h
end
end
end Mine
end
section
open PySem PySem.W PyProof.Rows PySem.Calls
namespace Mine
noncomputable section
section
noncomputable def OQ (g:Gh) (h:Heap) (v:Value):AV -> Prop
 | .none=>v = .none
 | .bool b=>v = .bool b
 | .int n=>∃ tk,v = .int n tk
 | .str x=>∃ tk,v = .str (toS x) tk
 | .bytes l=>∃ b tk,l = b.toList.map (·.toNat) /\ v = .bytes b tk
 | .lst l=>∃ a,v = .ref a /\ g.μ[l]? = some a
 | .dct l=>∃ a,v = .ref a /\ g.μ[l]? = some a
 | .tup bh=>∃ vs a,v = .ref a /\ g.Z a /\ IsTup h a vs.toArray /\ aC P g h bh vs
 | .ah bh=>∃ vs a,v = .ref a /\ g.Z a /\ h.PlainList a vs.toArray /\ aC P g h bh vs
 | .aj kvs=>∃ es a ep,v = .ref a /\ (a == sysModules) = false /\ g.Z a /\ h.DictAt P.kind a es ep /\ aU P g h kvs es
 | .inst c fs=>∃ C d a es ep,v = .ref a /\ g.Z a /\ g.Z d /\ P.cls c = some C /\ h.get? a = some (instObj C d) /\ h.DictAt P.kind d es ep /\ eE P g h fs es
theorem VR.inv {g:Gh} {h:Heap} {a:AV} {v:Value} (r:VR P g h a v):OQ g h v a :=
 r.casesOn (motive_1:=fun a v _=>OQ g h v a) rfl (fun _=>rfl) (fun _ t=>⟨t,rfl⟩) (fun _ t=>⟨t,rfl⟩) (fun b t=>⟨b,t,rfl,rfl⟩) (fun e=>⟨_,rfl,e⟩) (fun e=>⟨_,rfl,e⟩)
  (fun z t r=>⟨_,_,rfl,z,t,r⟩) (fun z t r=>⟨_,_,rfl,z,t,r⟩) (fun n z t r=>⟨_,_,_,rfl,n,z,t,r⟩) fun z z' c o d r=>⟨_,_,_,_,_,rfl,z,z',c,o,d,r⟩
theorem LY {a:AV} {n:Int} (e:cD a = some n):a = .int n:=by cases a <;> cases e; rfl
theorem DZ {a:AV} {n:Nm} (e:jX a = some n):a = .str n:=by cases a <;> cases e; rfl
theorem LW {a:AV} {n:List AV} (e:fV a = some n):a = .tup n:=by cases a <;> cases e; rfl
theorem D3 {a:AV} {n:Bool} (e:HV a = some n):a = .bool n:=by cases a <;> cases e; rfl
theorem sZ {a:AV} (e:nE a = true):a = .none:=by cases a <;> cases e; rfl
theorem VR.cD {g:Gh} {h:Heap} {a:AV} {v:Value} {n:Int} (r:VR P g h a v) (e:cD a = some n):∃ tk,v = .int n tk:=by cases LY e; exact r.inv
theorem VR.jX {g:Gh} {h:Heap} {a:AV} {v:Value} {n:Nm} (r:VR P g h a v) (e:jX a = some n):∃ tk,v = .str (toS n) tk:=by cases DZ e; exact r.inv
theorem VR.fV {g:Gh} {h:Heap} {a:AV} {v:Value} {n:List AV} (r:VR P g h a v) (e:fV a = some n):∃ vs a,v = .ref a /\ g.Z a /\ IsTup h a vs.toArray /\ aC P g h n vs:=by cases LW e; exact r.inv
section
variable {g:Gh} {h:Heap}
theorem aC.bT {motive:List AV -> List Value -> Prop} (n:motive [] []) (c:∀ {a v as vs},VR P g h a v -> aC P g h as vs -> motive as vs -> motive (a :: as) (v :: vs)) {xs:List AV} {es:List Value} (r:aC P g h xs es):motive xs es :=
 r.rec (motive_1:=fun _ _ _=>True) (motive_2:=fun a b _=>motive a b) (motive_3:=fun _ _ _=>True) (motive_4:=fun _ _ _=>True) trivial (fun _=>trivial) (fun _ _=>trivial) (fun _ _=>trivial) (fun _ _=>trivial) (fun _=>trivial) (fun _=>trivial)
  (fun _ _ _ _=>trivial) (fun _ _ _ _=>trivial) (fun _ _ _ _ _=>trivial) (fun _ _ _ _ _ _ _=>trivial) n (fun a b _ k=>c a b k) trivial (fun _ _ _ _=>trivial) trivial fun _ _ _ _=>trivial
theorem aU.bT {motive:List (AK × AV) -> List (AK × Value) -> Prop} (n:motive [] []) (c:∀ {k a v as vs},VR P g h a v -> aU P g h as vs -> motive as vs -> motive ((k,a) :: as) ((k,v) :: vs)) {xs:List (AK × AV)} {es:List (AK × Value)} (r:aU P g h xs es):motive xs es :=
 r.rec (motive_1:=fun _ _ _=>True) (motive_2:=fun _ _ _=>True) (motive_3:=fun a b _=>motive a b) (motive_4:=fun _ _ _=>True) trivial (fun _=>trivial) (fun _ _=>trivial) (fun _ _=>trivial) (fun _ _=>trivial) (fun _=>trivial) (fun _=>trivial)
  (fun _ _ _ _=>trivial) (fun _ _ _ _=>trivial) (fun _ _ _ _ _=>trivial) (fun _ _ _ _ _ _ _=>trivial) trivial (fun _ _ _ _=>trivial) n (fun a b _ k=>c a b k) trivial fun _ _ _ _=>trivial
theorem eE.bT {motive:List (Nm × AV) -> List (AK × Value) -> Prop} (n:motive [] []) (c:∀ {k a v as vs},VR P g h a v -> eE P g h as vs -> motive as vs -> motive ((k,a) :: as) ((.s k,v) :: vs)) {xs:List (Nm × AV)} {es:List (AK × Value)} (r:eE P g h xs es):motive xs es :=
 r.rec (motive_1:=fun _ _ _=>True) (motive_2:=fun _ _ _=>True) (motive_3:=fun _ _ _=>True) (motive_4:=fun a b _=>motive a b) trivial (fun _=>trivial) (fun _ _=>trivial) (fun _ _=>trivial) (fun _ _=>trivial) (fun _=>trivial) (fun _=>trivial)
  (fun _ _ _ _=>trivial) (fun _ _ _ _=>trivial) (fun _ _ _ _ _=>trivial) (fun _ _ _ _ _ _ _=>trivial) trivial (fun _ _ _ _=>trivial) trivial (fun _ _ _ _=>trivial) n fun a b _ k=>c a b k
end
theorem bnd {α β:Type} {x:Option α} {f:α -> Option β} {b:β} {C:Prop} (e:x.bind f = some b) (h:∀ a,x = some a -> f a = some b -> C):C:=by cases x with | none=>cases e | some a=>exact h a rfl e
theorem iF {α β:Type} {x:Option α} {f:α -> β} {b:β} {C:Prop} (e:(x.bind fun a=>some (f a)) = some b) (h:∀ a,x = some a -> f a = b -> C):C:=by cases x with | none=>cases e | some a=>exact h a rfl (Option.some.inj e)
theorem J2 {α β:Type} {x:Option α} {f:α -> β} {b:β} {C:Prop} (e:x.map f = some b) (h:∀ a,x = some a -> f a = b -> C):C:=by cases x with | none=>cases e | some a=>exact h a rfl (Option.some.inj e)
theorem k8 {β:Type} {p:Prop} [Decidable p] {b c:β} {C:Prop} (e:(if p then some b else none) = some c) (h:p -> b = c -> C):C:=by
 by_cases q:p
 ·rw [if_pos q] at e; exact h q (Option.some.inj e)
 ·rw [if_neg q] at e; cases e
theorem ou {H:Hp} {a:AV} {xs:List AV} (e:listOf H a = some xs):(∃ l,a = .lst l /\ H[l]? = some (.list xs)) \/ a = .ah xs:=by
 cases a <;> first | (cases e; done) | skip
 ·refine bnd e fun o q e=>?_
  cases o <;> cases e; exact .inl ⟨_,rfl,q⟩
 ·cases e; exact .inr rfl
theorem tO {H:Hp} {a:AV} {xs:List (AK × AV)} (e:dictOf H a = some xs):(∃ l it,a = .dct l /\ H[l]? = some (.dict it xs)) \/ a = .aj xs:=by
 cases a <;> first | (cases e; done) | skip
 ·refine bnd e fun o q e=>?_
  cases o <;> cases e; exact .inl ⟨_,_,rfl,q⟩
 ·cases e; exact .inr rfl
theorem tY (x y:Nm):decide (toS x = toS y) = decide (x = y):=by
 by_cases w:x = y
 ·rw [decide_eq_true w,decide_eq_true (w ▸ rfl)]
 ·rw [decide_eq_false w,decide_eq_false fun z=>w (j7 z)]
theorem zG (x y:Nm):(toS x == toS y) = decide (x = y):=by
 by_cases w:x = y
 ·cases w; rw [beq_self_eq_true,decide_eq_true rfl]
 ·rw [beq_false_of_ne fun z=>w (j7 z),decide_eq_false w]
section
variable {g g':Gh} {h h':Heap}
theorem ku {a:Addr} {items:Array Value} (x:IsTup h a items) (e:∀ o,h.get? a = some o -> h'.get? a = some o):IsTup h' a items:=let ⟨o,ho,r⟩:=x; ⟨o,e _ ho,r⟩
theorem plain_at {a:Addr} {items:Array Value} (x:h.PlainList a items) (e:∀ o,h.get? a = some o -> h'.get? a = some o):h'.PlainList a items:=let ⟨n,ho⟩:=x; ⟨n,e _ ho⟩
theorem aI {a:Addr} {items:Array Value} (x:h.PlainList a items):h.IsList a items:=let ⟨n,e⟩:=x; ⟨_,e,rfl,n,rfl⟩
theorem VR.mono (hm:∀ (l:Nat) (a:Addr),g.μ[l]? = some a -> g'.μ[l]? = some a) (hz:∀ a,g.Z a -> g'.Z a) (hk:∀ a o,g.Z a -> h.get? a = some o -> h'.get? a = some o) {a:AV} {v:Value} (r:VR P g h a v):VR P g' h' a v :=
 r.rec (motive_1:=fun a v _=>VR P g' h' a v) (motive_2:=fun a v _=>aC P g' h' a v) (motive_3:=fun a v _=>aU P g' h' a v) (motive_4:=fun a v _=>eE P g' h' a v)
  .none .bool .int .str .bytes (fun e=>.lst (hm _ _ e)) (fun e=>.dct (hm _ _ e)) (fun z t _ r=>.tup (hz _ z) (ku t fun o=>hk _ o z) r) (fun z t _ r=>.ah (hz _ z) (plain_at t fun o=>hk _ o z) r)
  (fun n z t _ r=>.aj n (hz _ z) (t.at fun o=>hk _ o z) r) (fun z z' c o d _ r=>.inst (hz _ z) (hz _ z') c (hk _ _ z o) (d.at fun o=>hk _ o z') r)
  .nil (fun _ _ x r=>.cons x r) .nil (fun _ _ x r=>.cons x r) .nil fun _ _ x r=>.cons x r
theorem aC.mono (hm:∀ (l:Nat) (a:Addr),g.μ[l]? = some a -> g'.μ[l]? = some a) (hz:∀ a,g.Z a -> g'.Z a) (hk:∀ a o,g.Z a -> h.get? a = some o -> h'.get? a = some o) {a:List AV} {v:List Value} (r:aC P g h a v):aC P g' h' a v :=
 r.bT (motive:=fun a v=>aC P g' h' a v) .nil fun x _ r=>.cons (x.mono hm hz hk) r
theorem aU.mono (hm:∀ (l:Nat) (a:Addr),g.μ[l]? = some a -> g'.μ[l]? = some a) (hz:∀ a,g.Z a -> g'.Z a) (hk:∀ a o,g.Z a -> h.get? a = some o -> h'.get? a = some o) {a:List (AK × AV)} {v:List (AK × Value)} (r:aU P g h a v):aU P g' h' a v :=
 r.bT (motive:=fun a v=>aU P g' h' a v) .nil fun x _ r=>.cons (x.mono hm hz hk) r
theorem eE.mono (hm:∀ (l:Nat) (a:Addr),g.μ[l]? = some a -> g'.μ[l]? = some a) (hz:∀ a,g.Z a -> g'.Z a) (hk:∀ a o,g.Z a -> h.get? a = some o -> h'.get? a = some o) {a:List (Nm × AV)} {v:List (AK × Value)} (r:eE P g h a v):eE P g' h' a v :=
 r.bT (motive:=fun a v=>eE P g' h' a v) .nil fun x _ r=>.cons (x.mono hm hz hk) r
theorem aC.hd {x:AV} {xs:List AV} {v:List Value} (r:aC P g h (x :: xs) v):∃ u us,v = u :: us /\ VR P g h x u /\ aC P g h xs us:=by cases r with | cons a b=>exact ⟨_,_,rfl,a,b⟩
theorem aC.emp {v:List Value} (r:aC P g h [] v):v = []:=by cases r; rfl
theorem aC.length {a:List AV} {v:List Value} (r:aC P g h a v):a.length = v.length:=r.bT (motive:=fun a v=>a.length = v.length) rfl fun _ _ h=>congrArg Nat.succ h
theorem aC.append {a:List AV} {v:List Value} {b:List AV} {u:List Value} (r:aC P g h a v) (q:aC P g h b u):aC P g h (a ++ b) (v ++ u):=r.bT (motive:=fun a v=>aC P g h (a ++ b) (v ++ u)) q fun x _ ih=>.cons x ih
theorem aC.get {a:List AV} {v:List Value} {i:Nat} {x:AV} (r:aC P g h a v):a[i]? = some x -> ∃ u,v[i]? = some u /\ VR P g h x u:=by
 refine r.bT (motive:=fun a v=>∀ i,a[i]? = some x -> ∃ u,v[i]? = some u /\ VR P g h x u) (fun i e=>by cases e) (fun {a u as vs} x _ ih i e=>?_) i
 cases i with
 | zero=>cases e; exact ⟨u,rfl,x⟩
 | succ i=>exact ih i e
theorem aC.get_none {a:List AV} {v:List Value} {i:Nat} (r:aC P g h a v) (e:a[i]? = none):v[i]? = none:=by
 rw [List.getElem?_eq_none_iff] at e ⊢; rwa [← r.length]
theorem aC.take {a:List AV} {v:List Value} (n:Nat) (r:aC P g h a v):aC P g h (a.take n) (v.take n):=by
 refine r.bT (motive:=fun a v=>∀ n,aC P g h (a.take n) (v.take n)) (fun n=>by rw [List.take_nil,List.take_nil]; exact .nil) (fun x _ ih n=>?_) n
 cases n with
 | zero=>exact .nil
 | succ n=>exact .cons x (ih n)
theorem aC.set {a:List AV} {v:List Value} (i:Nat) {x:AV} {u:Value} (r:aC P g h a v) (z:VR P g h x u):aC P g h (a.set i x) (v.set i u):=by
 refine r.bT (motive:=fun a v=>∀ i,aC P g h (a.set i x) (v.set i u)) (fun i=>.nil) (fun y r ih i=>?_) i
 cases i with
 | zero=>exact .cons z r
 | succ i=>exact .cons y (ih i)
theorem aC.reverse {a:List AV} {v:List Value} (r:aC P g h a v):aC P g h a.reverse v.reverse :=
 r.bT (motive:=fun a v=>aC P g h a.reverse v.reverse) .nil fun x _ ih=>by rw [List.reverse_cons,List.reverse_cons]; exact ih.append (.cons x .nil)
theorem aU.length {a:List (AK × AV)} {v:List (AK × Value)} (r:aU P g h a v):a.length = v.length:=r.bT (motive:=fun a v=>a.length = v.length) rfl fun _ _ h=>congrArg Nat.succ h
theorem aU.keys {a:List (AK × AV)} {v:List (AK × Value)} (r:aU P g h a v):a.map (·.1) = v.map (·.1):=r.bT (motive:=fun a v=>a.map (·.1) = v.map (·.1)) rfl fun {k a v as vs} _ _ h=>congrArg (List.cons k) h
theorem aU.find {a:List (AK × AV)} {v:List (AK × Value)} (k:AK) (r:aU P g h a v):(getKey a k = none /\ valueAt v k = none) \/ ∃ x u,getKey a k = some x /\ valueAt v k = some u /\ VR P g h x u:=by
 refine r.bT (motive:=fun a v=>(getKey a k = none /\ valueAt v k = none) \/ ∃ x u,getKey a k = some x /\ valueAt v k = some u /\ VR P g h x u) (.inl ⟨rfl,rfl⟩) fun {k' a v as vs} x _ ih=>?_
 unfold getKey valueAt
 rw [List.find?_cons,List.find?_cons]
 by_cases e:k' = k
 ·rw [decide_eq_true e]; exact .inr ⟨_,_,rfl,rfl,x⟩
 ·rw [decide_eq_false e]; exact ih
theorem aU.append {a:List (AK × AV)} {v:List (AK × Value)} {b:List (AK × AV)} {u:List (AK × Value)} (r:aU P g h a v) (q:aU P g h b u):aU P g h (a ++ b) (v ++ u):=r.bT (motive:=fun a v=>aU P g h (a ++ b) (v ++ u)) q fun x _ ih=>.cons x ih
theorem aU.mapKey {a:List (AK × AV)} {v:List (AK × Value)} (k:AK) {x:AV} {u:Value} (r:aU P g h a v) (z:VR P g h x u) :
  aU P g h (a.map fun kv=>if kv.1 = k then (kv.1,x) else kv) (v.map fun kv=>if kv.1 = k then (kv.1,u) else kv):=by
 refine r.bT (motive:=fun a v=>aU P g h (a.map fun kv=>if kv.1 = k then (kv.1,x) else kv) (v.map fun kv=>if kv.1 = k then (kv.1,u) else kv)) .nil fun {k' a v as vs} y _ ih=>?_
 rw [List.map_cons,List.map_cons]
 by_cases e:k' = k
 ·rw [if_pos e,if_pos e]; exact .cons z ih
 ·rw [if_neg e,if_neg e]; exact .cons y ih
theorem aU.any {a:List (AK × AV)} {v:List (AK × Value)} (k:AK) (r:aU P g h a v):a.any (fun kv=>decide (kv.1 = k)) = v.any (fun kv=>decide (kv.1 = k)) :=
 r.bT (motive:=fun a v=>a.any (fun kv=>decide (kv.1 = k)) = v.any (fun kv=>decide (kv.1 = k))) rfl fun {k' a v as vs} _ _ ih=>congrArg (decide (k' = k) || ·) ih
theorem aU.put {a:List (AK × AV)} {v:List (AK × Value)} (k:AK) {x:AV} {u:Value} (r:aU P g h a v) (z:VR P g h x u):aU P g h (ae a k x) (stored v k u):=by
 unfold ae stored
 rw [r.any k]
 split
 ·exact r.mapKey k z
 ·exact r.append (.cons z .nil)
theorem eE.lookup {a:List (Nm × AV)} {v:List (AK × Value)} {x:Nm} {y:AV} (r:eE P g h a v):a.lookup x = some y -> ∃ u,valueAt v (.s x) = some u /\ VR P g h y u:=by
 refine r.bT (motive:=fun a v=>a.lookup x = some y -> ∃ u,valueAt v (.s x) = some u /\ VR P g h y u) (fun e=>by cases e) fun {k a v as vs} z _ ih e=>?_
 unfold valueAt
 rw [List.find?_cons]
 rw [List.lookup_cons] at e
 by_cases q:x = k
 ·cases q
  rw [beq_self_eq_true] at e; cases e
  rw [decide_eq_true rfl]; exact ⟨_,rfl,z⟩
 ·rw [beq_false_of_ne q] at e
  rw [decide_eq_false fun w=>q (AK.s.inj w).symm]
  exact ih e
end
inductive OR (g:Gh) (h:Heap):aO -> Addr -> Prop
 | list {bh:List AV} {vs:List Value} {a:Addr}:h.PlainList a vs.toArray -> aC P g h bh vs -> OR g h (.list bh) a
 | dict {it:Bool} {kvs:List (AK × AV)} {es:List (AK × Value)} {a:Addr} {ep:Nat}:h.DictAt P.kind a es ep -> (it = true -> ep = es.length) -> aU P g h kvs es -> OR g h (.dict it kvs) a
noncomputable def RH (g:Gh) (h:Heap) (a:Addr):aO -> Prop
 | .list bh=>∃ vs,h.PlainList a vs.toArray /\ aC P g h bh vs
 | .dict it kvs=>∃ es ep,h.DictAt P.kind a es ep /\ (it = true -> ep = es.length) /\ aU P g h kvs es
theorem OR.inv {g:Gh} {h:Heap} {o:aO} {a:Addr} (r:OR g h o a):RH g h a o:=by cases r with | list p q=>exact ⟨_,p,q⟩ | dict p q r=>exact ⟨_,_,p,q,r⟩
structure Inv (g:Gh) (H:Hp) (h:Heap):Prop where
 len:g.μ.length = H.length
 nodup:g.μ.Nodup
 objs:∀ (l:Nat) (o:aO),H[l]? = some o -> ∃ a,g.μ[l]? = some a /\ OR g h o a
 apart:∀ a ∈ g.μ,¬ g.Z a
 old:∀ b o,P.h₀.get? b = some o -> g.Z b /\ h.get? b = some o
 oi:∀ a ∈ g.μ,∃ o,h.get? a = some o
 oj:∀ a,g.Z a -> ∃ o,h.get? a = some o
 sys:sysModules ∉ g.μ
 iu:∃ o,h.get? sysModules = some o
noncomputable def NF (o:Obj):Prop:=∀ vs,o.data ≠ .fields vs
structure jq (F W:List Addr) (h h':Heap):Prop where
 live:∀ b o,h.get? b = some o -> ∃ o',h'.get? b = some o'
 same:∀ b o,h.get? b = some o -> b ∉ W -> b ∉ F -> h'.get? b = some o
 slots:∀ b o,h.get? b = some o -> b ∉ W -> ∃ sl,h'.get? b = some { o with slots:=sl }
 nf:∀ b o,h.get? b = some o -> NF o -> ∃ o',h'.get? b = some o' /\ NF o'
structure Le (h:Heap) (g g':Gh):Prop where
 μ:∃ ext,g'.μ = g.μ ++ ext /\ ∀ a ∈ ext,h.get? a = none
 Z:∀ a,g.Z a -> g'.Z a
 kh:∀ a,g'.Z a -> g.Z a \/ h.get? a = none
structure After (F W:List Addr) (g:Gh) (s:Shared) (g':Gh) (H':Hp) (s':Shared):Prop where
 inv:Inv g' H' s'.heap
 le:Le s.heap g g'
 keep:jq F W s.heap s'.heap
 gens:s'.gens = s.gens
 os:s'.os = s.os
section
variable {F W W' own:List Addr} {g g' g₁:Gh} {h h' h₁:Heap} {H H' H₁:Hp} {s s' s₁:Shared}
theorem jq.refl (F W:List Addr) (h:Heap):jq F W h h:=⟨fun _ o e=>⟨o,e⟩,fun _ _ e _ _=>e,fun _ o e _=>⟨o.slots,e⟩,fun _ o e n=>⟨o,e,n⟩⟩
theorem jq.fresh (x:jq F W h h₁) {a:Addr} (e:h₁.get? a = none):h.get? a = none:=by
 cases q:h.get? a with
 | none=>rfl
 | some o=>obtain ⟨o',e'⟩:=x.live a o q; rw [e] at e'; cases e'
theorem jq.trans (x:jq F W h h₁) (y:jq F W' h₁ h') (hw:∀ b ∈ W',b ∈ W \/ h.get? b = none):jq F W h h':=by
 have q:∀ b o,h.get? b = some o -> b ∉ W -> b ∉ W':=fun b o e n m=>(hw b m).elim n fun l=>by rw [l] at e; cases e
 refine ⟨fun b o e=>?_,fun b o e n f=>y.same b o (x.same b o e n f) (q b o e n) f,fun b o e n=>?_,fun b o e n=>let ⟨o',e',n'⟩:=x.nf b o e n; y.nf b o' e' n'⟩
 ·obtain ⟨o',e'⟩:=x.live b o e; exact y.live b o' e'
 ·obtain ⟨sl,e₁⟩:=x.slots b o e n
  obtain ⟨zH,e₂⟩:=y.slots b _ e₁ (q b o e n)
  exact ⟨zH,e₂⟩
theorem jq.weaken (x:jq F W h h') (hw:∀ b ∈ W,b ∈ W' \/ h.get? b = none):jq F W' h h':=by
 have q:∀ b o,h.get? b = some o -> b ∉ W' -> b ∉ W:=fun b o e n m=>(hw b m).elim n fun l=>by rw [l] at e; cases e
 exact ⟨x.live,fun b o e n f=>x.same b o e (q b o e n) f,fun b o e n=>x.slots b o e (q b o e n),x.nf⟩
theorem jq.JP (k:∀ b o,h.get? b = some o -> h'.get? b = some o):jq F W h h':=⟨fun b o e=>⟨o,k b o e⟩,fun b o e _ _=>k b o e,fun b o e _=>⟨o.slots,k b o e⟩,fun b o e n=>⟨o,k b o e,n⟩⟩
theorem Le.refl (h:Heap) (g:Gh):Le h g g:=⟨⟨[],by simp,by simp⟩,fun _ z=>z,fun _ z=>.inl z⟩
theorem Le.trans (x:Le h g g₁) (y:Le h₁ g₁ g') (hnm:∀ a,h₁.get? a = none -> h.get? a = none):Le h g g':=by
 obtain ⟨e,h1,h2⟩:=x.μ
 obtain ⟨e',HC,h2'⟩:=y.μ
 refine ⟨⟨e ++ e',by rw [HC,h1,List.append_assoc],fun a ha=>?_⟩,fun a z=>y.Z a (x.Z a z),fun a z=>?_⟩
 ·rcases List.mem_append.mp ha with q | q
  ·exact h2 a q
  ·exact hnm a (h2' a q)
 ·rcases y.kh a z with q | q
  ·exact x.kh a q
  ·exact .inr (hnm a q)
theorem Le.get (x:Le h g g') {l:Nat} {a:Addr} (e:g.μ[l]? = some a):g'.μ[l]? = some a:=by
 obtain ⟨ext,h1,_⟩:=x.μ
 rw [h1,List.getElem?_append_left (by simpa using (List.getElem?_eq_some_iff.mp e).1)]; exact e
theorem Le.mem (x:Le h g g') {a:Addr} (e:a ∈ g'.μ):a ∈ g.μ \/ h.get? a = none:=by
 obtain ⟨ext,h1,h2⟩:=x.μ
 rw [h1] at e
 exact (List.mem_append.mp e).imp id (h2 a)
theorem After.refl (i:Inv g H s.heap):After F W g s g H s:=⟨i,.refl _ _,.refl _ _ _,rfl,rfl⟩
theorem After.trans (x:After F W g s g₁ H₁ s₁) (y:After F W' g₁ s₁ g' H' s') (hw:∀ b ∈ W',b ∈ W \/ s.heap.get? b = none):After F W g s g' H' s' :=
 ⟨y.inv,x.le.trans y.le fun a=>x.keep.fresh,x.keep.trans y.keep hw,y.gens.trans x.gens,y.os.trans x.os⟩
theorem After.then (x:After F g.μ g s g₁ H₁ s₁) (y:After F g₁.μ g₁ s₁ g' H' s'):After F g.μ g s g' H' s' :=
 x.trans y fun b hb=>x.le.mem hb
theorem After.Mu (x:After F (own ++ g.μ) g s g₁ H₁ s₁) (y:After F g₁.μ g₁ s₁ g' H' s'):After F (own ++ g.μ) g s g' H' s' :=
 x.trans y fun b hb=>(x.le.mem hb).imp (List.mem_append_right _) id
theorem After.dJ (x:After F (own ++ g.μ) g s g₁ H₁ s₁) (y:After F (own ++ g₁.μ) g₁ s₁ g' H' s'):After F (own ++ g.μ) g s g' H' s' :=
 x.trans y fun b hb=>(List.mem_append.mp hb).elim (fun q=>.inl (List.mem_append_left _ q)) fun q=>(x.le.mem q).imp (List.mem_append_right _) id
theorem After.toS (x:After F g.μ g s g' H' s'):After F (own ++ g.μ) g s g' H' s' :=
 ⟨x.inv,x.le,x.keep.weaken fun b hb=>.inl (List.mem_append_right _ hb),x.gens,x.os⟩
noncomputable def Apart (F W:List Addr) (g:Gh):Prop:=∀ b,g.Z b -> b ∉ W /\ b ∉ F
theorem After.vr (x:After F W g s g' H' s') (ap:Apart F W g) {a:AV} {v:Value} (r:VR P g s.heap a v):VR P g' s'.heap a v :=
 r.mono (fun _ _ e=>x.le.get e) x.le.Z fun b o z e=>x.keep.same b o e (ap b z).1 (ap b z).2
theorem After.zE (x:After F W g s g' H' s') (ap:Apart F W g) {a:List AV} {v:List Value} (r:aC P g s.heap a v):aC P g' s'.heap a v :=
 r.mono (fun _ _ e=>x.le.get e) x.le.Z fun b o z e=>x.keep.same b o e (ap b z).1 (ap b z).2
theorem After.Nj (x:After F W g s g' H' s') (ap:Apart F W g) {a:List (Nm × AV)} {v:List (AK × Value)} (r:eE P g s.heap a v):eE P g' s'.heap a v :=
 r.mono (fun _ _ e=>x.le.get e) x.le.Z fun b o z e=>x.keep.same b o e (ap b z).1 (ap b z).2
end
end
end
end Mine
end
section
open PySem PySem.W PyProof.Rows PySem.Calls
namespace Mine
noncomputable section
section
noncomputable abbrev frs (fs:List Env):List Addr:=fs.filterMap (·.frame)
structure Fm (fs:List Env) (own:List Addr) (env:Env) (σ:Loc) (g:Gh) (h:Heap):Prop where
 kind:env.scope.kind = .function
 jC:look σ dot0 = none
 globals:env.globals = mainGlobals
 builtins:env.builtins = builtinsNs
 eU:env.locals ∈ own
 du:∀ x c,env.cells.lookup x = some c -> c ∈ own
 ownOut:∀ b ∈ own,¬ g.Z b /\ b ∉ g.μ /\ ∃ o,h.get? b = some o
 bH:∀ b ∈ frs fs,¬ g.Z b /\ b ∉ g.μ
 frames:h.FunFrames {} fs
 isFrame:∀ b,env.frame = some b -> b ∈ frs fs
 dO:env.cells.Pairwise fun x y=>x.2 ≠ y.2
 fy:∀ x c,env.cells.lookup x = some c -> c ≠ env.locals
 cells:∀ x c,env.cells.lookup x = some c -> ∃ v,h.IsCell c v
 vals:∃ m,h.Ns env.locals m /\ ∀ x v,look σ x = some v -> ∃ u,VR P g h v u /\
  (env.kindOf (toS x) = some .local -> m (toS x) = some u) /\
  (env.kindOf (toS x) = some .cell \/ env.kindOf (toS x) = some .free -> ∃ c,env.cells.lookup (toS x) = some c /\ h.IsCell c (some u))
structure Here (n:Nat) (A:Around) (fs:List Env) (own:List Addr) (env:Env) (σ:Loc) (g:Gh) (H:Hp) (s:Shared):Prop where
 inv:Inv g H s.heap
 fm:Fm fs own env σ g s.heap
 frames:A.frames = some fs
 handled:A.handled = none
 depth:A.depth + 2 * n < recursionLimit
 units:A.units + 10 * n < cLine
 gens:s.gens = #[]
section
variable {n:Nat} {A:Around} {fs:List Env} {own W:List Addr} {env:Env} {σ:Loc} {g g':Gh} {H H':Hp} {s s':Shared} {h h':Heap}
theorem aX {b:Addr} {o:Obj} (e:h.get? b = some o) (l:h.get? b = none):False:=by rw [l] at e; cases e
theorem dB {a:Addr} {m:Str -> Option Value} (x:h.Ns a m) (e:∀ o,h.get? a = some o -> ∃ sl,h'.get? a = some { o with slots:=sl }):h'.Ns a m:=by
 obtain ⟨o,es,ep,ho,hd,r⟩:=x
 obtain ⟨sl,e⟩:=e o ho
 exact ⟨_,es,ep,e,hd,r⟩
theorem lE {a:Addr} {v:Option Value} (x:h.IsCell a v) (e:∀ o,h.get? a = some o -> ∃ sl,h'.get? a = some { o with slots:=sl }):h'.IsCell a v:=by
 obtain ⟨o,ho,hd⟩:=x
 obtain ⟨sl,e⟩:=e o ho
 exact ⟨_,e,hd⟩
theorem eW {h h':Heap}:∀ {fs:List Env},(∀ b ∈ frs fs,∀ o,h.get? b = some o -> ∃ sl,h'.get? b = some { o with slots:=sl }) -> h.FunFrames {} fs -> h'.FunFrames {} fs
 | [],_,_=>trivial
 | env :: rest,k,⟨hk,⟨L,o,hf,hn,ho,hd⟩,hr⟩=>by
  obtain ⟨sl,e⟩:=k L (by simp [hf]) o ho
  refine ⟨hk,⟨L,_,hf,hn,e,hd⟩,eW (fun b hb=>k b ?_) hr⟩
  simp only [frs,List.filterMap_cons,hf]
  exact List.mem_cons_of_mem _ hb
theorem Fm.after (m:Fm fs own env σ g h) (le:Le h g g') (k:jq (frs fs) W h h') (hW:∀ b ∈ W,b ∉ own /\ b ∉ frs fs) (hZ:∀ b ∈ W,¬ g.Z b):Fm fs own env σ g' h':=by
 have ko:∀ b ∈ own,∀ o,h.get? b = some o -> ∃ sl,h'.get? b = some { o with slots:=sl }:=fun b hb o e=>k.slots b o e fun q=>(hW b q).1 hb
 have kz:∀ b o,g.Z b -> h.get? b = some o -> h'.get? b = some o:=fun b o z e=>k.same b o e (fun q=>hZ b q z) fun q=>(m.bH b q).1 z
 refine ⟨m.kind,m.jC,m.globals,m.builtins,m.eU,m.du,fun b hb=>?_,fun b hb=>?_,eW (fun b hb o e=>k.slots b o e fun q=>(hW b q).2 hb) m.frames,m.isFrame,m.dO,m.fy,fun x c e=>?_,?_⟩
 ·obtain ⟨p,q,r⟩:=m.ownOut b hb
  obtain ⟨o,ho⟩:=r
  exact ⟨fun z=>(le.kh b z).elim p (aX ho),fun z=>(le.mem z).elim q (aX ho),k.live b o ho⟩
 ·obtain ⟨p,q⟩:=m.bH b hb
  obtain ⟨_,o,ho,_⟩:=Heap.FunFrames.mem m.frames hb
  exact ⟨fun z=>(le.kh b z).elim p (aX ho),fun z=>(le.mem z).elim q (aX ho)⟩
 ·obtain ⟨v,hv⟩:=m.cells x c e
  exact ⟨v,lE hv (ko c (m.du x c e))⟩
 ·obtain ⟨mm,hn,hv⟩:=m.vals
  refine ⟨mm,dB hn (ko _ m.eU),fun x v e=>?_⟩
  obtain ⟨u,r,q⟩:=hv x v e
  exact ⟨u,r.mono (fun _ _ e=>le.get e) le.Z kz,q.1,fun k=>let ⟨c,e,x'⟩:=q.2 k; ⟨c,e,lE x' (ko c (m.du _ _ e))⟩⟩
theorem Here.apart (x:Here n A fs own env σ g H s):Apart (frs fs) g.μ g:=fun b z=>⟨fun q=>x.inv.apart b q z,fun q=>(x.fm.bH b q).1 z⟩
theorem Here.after (x:Here n A fs own env σ g H s) (a:After (frs fs) g.μ g s g' H' s'):Here n A fs own env σ g' H' s' :=
 ⟨a.inv,x.fm.after a.le a.keep (fun b hb=>⟨fun q=>(x.fm.ownOut b q).2.1 hb,fun q=>(x.fm.bH b q).2 hb⟩) (fun b hb=>x.inv.apart b hb),x.frames,x.handled,x.depth,x.units,a.gens.trans x.gens⟩
theorem Ry {a c m n L k:Nat} (h:a + c * n < L) (hk:k + c * m <= c * n):a + k + c * m < L:=by
 rw [Nat.add_assoc]; exact Nat.lt_of_le_of_lt (Nat.add_le_add_left hk a) h
theorem uG {a c n L k:Nat} (h:a + c * n < L) (hk:k <= c * n):a + k < L:=Nat.lt_of_le_of_lt (Nat.add_le_add_left hk a) h
theorem LL {a c m L k:Nat} (h:a + c * (m + 1) < L) (hk:k <= c):a + k + c * m < L:=Ry h (by rw [Nat.add_comm]; exact Nat.add_le_add_left hk _)
theorem Here.less {m:Nat} (x:Here n A fs own env σ g H s) (h:m <= n):Here m A fs own env σ g H s :=
 ⟨x.inv,x.fm,x.frames,x.handled,uG x.depth (Nat.mul_le_mul_left 2 h),uG x.units (Nat.mul_le_mul_left 10 h),x.gens⟩
theorem Here.refl (x:Here n A fs own env σ g H s):After (frs fs) W g s g H s:=.refl x.inv
theorem After.toks {F:List Addr} (i:Inv g H s.heap) (t:Nat):After F W g s g H { s with toks:=t }:=⟨i,.refl _ _,.refl _ _ _,rfl,rfl⟩
theorem After.il {F:List Addr} (x:After F W g s g' H' s') (t:Nat):After F W g s g' H' { s' with toks:=t }:=⟨x.inv,x.le,x.keep,x.gens,x.os⟩
theorem Inv.grow (i:Inv g H h) (k:∀ b o,h.get? b = some o -> h'.get? b = some o):Inv g H h':=by
 refine ⟨i.len,i.nodup,fun l o e=>?_,i.apart,fun b o e=>⟨(i.old b o e).1,k b o (i.old b o e).2⟩,fun a ha=>let ⟨o,e⟩:=i.oi a ha; ⟨o,k _ _ e⟩,fun a ha=>let ⟨o,e⟩:=i.oj a ha; ⟨o,k _ _ e⟩,i.sys,let ⟨o,e⟩:=i.iu; ⟨o,k _ _ e⟩⟩
 obtain ⟨a,e1,e2⟩:=i.objs l o e
 refine ⟨a,e1,?_⟩
 cases e2 with
 | list p r=>exact .list (let ⟨n,q⟩:=p; ⟨n,k _ _ q⟩) (r.mono (fun _ _ e=>e) (fun _ z=>z) fun b o _ e=>k b o e)
 | dict p q r=>exact .dict (p.keep k) q (r.mono (fun _ _ e=>e) (fun _ z=>z) fun b o _ e=>k b o e)
theorem After.grow {F:List Addr} (i:Inv g H s.heap) (k:∀ b o,s.heap.get? b = some o -> h'.get? b = some o) {t:Nat} :
  After F W g s g H { s with heap:=h',toks:=t } :=
 ⟨i.grow k,.refl _ _,.JP k,rfl,rfl⟩
theorem After.push {F:List Addr} (i:Inv g H s.heap) (o:Obj):After F W g s g H { s with heap:=s.heap.push o } :=
 .grow i fun b o' e=>Heap.get?_push_of_some _ e
theorem ba (h:Heap):h.get? h.objs.size = none:=Heap.get?_none_of_le (Nat.le_refl _)
noncomputable def Gh.freeze (g:Gh) (a:Addr):Gh:=⟨g.μ,fun b=>g.Z b \/ b = a⟩
theorem Inv.freeze (i:Inv g H h) {a:Addr} (hl:∃ o,h.get? a = some o) (hμ:a ∉ g.μ):Inv (g.freeze a) H h:=by
 refine ⟨i.len,i.nodup,fun l o e=>?_,fun b hb z=>z.elim (i.apart b hb) fun q=>hμ (q ▸ hb),fun b o e=>⟨.inl (i.old b o e).1,(i.old b o e).2⟩,i.oi,fun b z=>z.elim (i.oj b) fun q=>q ▸ hl,i.sys,i.iu⟩
 obtain ⟨c,e1,e2⟩:=i.objs l o e
 refine ⟨c,e1,?_⟩
 cases e2 with
 | list p r=>exact .list p (r.mono (g:=g) (g':=g.freeze a) (fun _ _ e=>e) (fun _ z=>Or.inl z) fun b o _ e=>e)
 | dict p q r=>exact .dict p q (r.mono (g:=g) (g':=g.freeze a) (fun _ _ e=>e) (fun _ z=>Or.inl z) fun b o _ e=>e)
theorem Le.freeze (g:Gh) {a:Addr} {h:Heap} (e:h.get? a = none):Le h g (g.freeze a):=⟨⟨[],by simp [Gh.freeze],by simp⟩,fun _ z=>Or.inl z,fun b z=>Or.imp id (fun (q:b = a)=>q ▸ e) z⟩
theorem VR.freeze {a:Addr} {x:AV} {v:Value} (r:VR P g h x v):VR P (g.freeze a) h x v:=r.mono (g:=g) (g':=g.freeze a) (fun _ _ e=>e) (fun _ z=>Or.inl z) fun b o _ e=>e
theorem aC.freeze {a:Addr} {x:List AV} {v:List Value} (r:aC P g h x v):aC P (g.freeze a) h x v:=r.mono (g:=g) (g':=g.freeze a) (fun _ _ e=>e) (fun _ z=>Or.inl z) fun b o _ e=>e
theorem aU.freeze {a:Addr} {x:List (AK × AV)} {v:List (AK × Value)} (r:aU P g h x v):aU P (g.freeze a) h x v:=r.mono (g:=g) (g':=g.freeze a) (fun _ _ e=>e) (fun _ z=>Or.inl z) fun b o _ e=>e
theorem eE.freeze {a:Addr} {x:List (Nm × AV)} {v:List (AK × Value)} (r:eE P g h x v):eE P (g.freeze a) h x v:=r.mono (g:=g) (g':=g.freeze a) (fun _ _ e=>e) (fun _ z=>Or.inl z) fun b o _ e=>e
theorem After.freeze {F:List Addr} (x:After F W g s g' H' s') {a:Addr} (hl:∃ o,s'.heap.get? a = some o) (hn:s.heap.get? a = none) (hμ:a ∉ g'.μ):After F W g s (g'.freeze a) H' s' :=
 ⟨x.inv.freeze hl hμ,x.le.trans (Le.freeze g' hn) fun _ e=>e,x.keep,x.gens,x.os⟩
noncomputable def Gh.add (g:Gh) (a:Addr):Gh:=⟨g.μ ++ [a],g.Z⟩
theorem qD {g:Gh} {l:Nat} {a b:Addr} (e:g.μ[l]? = some b):(g.add a).μ[l]? = some b:=by
 show (g.μ ++ [a])[l]? = _
 rw [List.getElem?_append_left (by simpa using (List.getElem?_eq_some_iff.mp e).1)]; exact e
theorem VR.add {a:Addr} {x:AV} {v:Value} (r:VR P g h x v):VR P (g.add a) h x v:=r.mono (fun _ _ e=>qD e) (fun _ z=>z) fun b o _ e=>e
theorem aC.add {a:Addr} {x:List AV} {v:List Value} (r:aC P g h x v):aC P (g.add a) h x v:=r.mono (fun _ _ e=>qD e) (fun _ z=>z) fun b o _ e=>e
theorem aU.add {a:Addr} {x:List (AK × AV)} {v:List (AK × Value)} (r:aU P g h x v):aU P (g.add a) h x v:=r.mono (fun _ _ e=>qD e) (fun _ z=>z) fun b o _ e=>e
theorem OR.add {a b:Addr} {o:aO} (r:OR g h o b):OR (g.add a) h o b:=by
 cases r with
 | list p r=>exact .list p r.add
 | dict p q r=>exact .dict p q r.add
theorem Inv.add (i:Inv g H h) {a:Addr} {o:aO} (hl:∃ o,h.get? a = some o) (hμ:a ∉ g.μ) (hz:¬ g.Z a) (hsys:a ≠ sysModules) (r:OR g h o a):Inv (g.add a) (H ++ [o]) h:=by
 refine ⟨by simp [Gh.add,i.len],?_,fun l o' e=>?_,fun b hb=>?_,i.old,fun b hb=>?_,i.oj,fun q=>?_,i.iu⟩
 ·show (g.μ ++ [a]).Nodup
  rw [List.nodup_append]
  refine ⟨i.nodup,by simp,fun x hx y hy e=>?_⟩
  simp at hy; subst hy; subst e; exact hμ hx
 ·by_cases q:l < H.length
  ·rw [List.getElem?_append_left q] at e
   obtain ⟨b,e1,e2⟩:=i.objs l o' e
   exact ⟨b,qD e1,e2.add⟩
  ·rw [List.getElem?_append_right (Nat.not_lt.mp q)] at e
   have hl':l - H.length = 0:=by
    have:=(List.getElem?_eq_some_iff.mp e).1
    simp at this; exact this
   have O8:l = g.μ.length:=by rw [i.len]; omega
   rw [hl'] at e
   simp at e; subst e
   exact ⟨a,by rw [O8]; simp [Gh.add],r.add⟩
 ·rcases List.mem_append.mp hb with q | q
  ·exact i.apart b q
  ·simp at q; subst q; exact hz
 ·rcases List.mem_append.mp hb with q | q
  ·exact i.oi b q
  ·simp at q; subst q; exact hl
 ·rcases List.mem_append.mp q with q | q
  ·exact i.sys q
  ·simp at q; exact hsys q.symm
theorem Le.add (g:Gh) {a:Addr} {h:Heap} (e:h.get? a = none):Le h g (g.add a):=⟨⟨[a],rfl,by simpa using e⟩,fun _ z=>z,fun b z=>.inl z⟩
theorem After.add {F:List Addr} (x:After F W g s g' H' s') {a:Addr} {o:aO} (hl:∃ o,s'.heap.get? a = some o) (hn:s.heap.get? a = none) (hμ:a ∉ g'.μ) (hz:¬ g'.Z a) (hsys:a ≠ sysModules) (r:OR g' s'.heap o a) :
  After F W g s (g'.add a) (H' ++ [o]) s' :=
 ⟨x.inv.add hl hμ hz hsys r,x.le.trans (Le.add g' hn) fun _ e=>e,x.keep,x.gens,x.os⟩
theorem Inv.rM (i:Inv g H h) (a:Addr):(g.add a).μ[H.length]? = some a:=by
 show (g.μ ++ [a])[H.length]? = _
 rw [← i.len]; simp
theorem Inv.pM (i:Inv g H h) {a:Addr} (ha:h.get? a = none):a ≠ sysModules:=fun q=>let ⟨_,e⟩:=i.iu; aX e (q ▸ ha)
theorem Inv.fresh (i:Inv g H h) {a:Addr} (ha:h.get? a = none):a ∉ g.μ /\ ¬ g.Z a :=
 ⟨fun q=>let ⟨_,e⟩:=i.oi a q; aX e ha,fun q=>let ⟨_,e⟩:=i.oj a q; aX e ha⟩
theorem OR.live {o:aO} {a:Addr} (r:OR g h o a):∃ ob,h.get? a = some ob:=by
 cases r with
 | list p _=>exact let ⟨n,e⟩:=p; ⟨_,e⟩
 | dict p _ _=>exact let ⟨o,_,e,_⟩:=p; ⟨o,e⟩
theorem OR.nf {o:aO} {a:Addr} (r:OR g h o a):∃ ob,h.get? a = some ob /\ NF ob:=by
 cases r with
 | list p _=>exact let ⟨n,e⟩:=p; ⟨_,e,fun vs q=>by cases q⟩
 | dict p _ _=>exact let ⟨o,es,e,_,d,_⟩:=p; ⟨o,e,fun vs q=>by rw [d] at q; cases q⟩
end
end
namespace GQ
noncomputable def Gq (g:Mine.Gh) (H:Mine.Hp) (h:PySem.Heap) (h':PySem.Heap) (l:Nat) (a:PySem.Addr) (o:Mine.aO):Prop:=∀ (i:Inv g H h) (hl:g.μ[l]? = some a) (hs:Heap.SameBut a h h') (r:OR g h' o a),Inv g (H.set l o) h'
noncomputable def kq:Mine.Gh × Mine.Hp × PySem.Heap × PySem.Heap × Nat × PySem.Addr × Mine.aO:=cx fun p=>Gq p.1 p.2.1 p.2.2.1 p.2.2.2.1 p.2.2.2.2.1 p.2.2.2.2.2.1 p.2.2.2.2.2.2
noncomputable def g:=kq.1
noncomputable def H:=kq.2.1
noncomputable def h:=kq.2.2.1
noncomputable def h':=kq.2.2.2.1
noncomputable def l:=kq.2.2.2.2.1
noncomputable def a:=kq.2.2.2.2.2.1
noncomputable def o:=kq.2.2.2.2.2.2
theorem tq:Gq g H h h' l a o:=by
 intro i hl hs r
 have alive:∀ b,(∃ ob,h.get? b = some ob) -> ∃ ob,h'.get? b = some ob:=fun b ⟨ob,e⟩=>by
  by_cases q:b = a
  ·subst q; exact r.live
  ·exact ⟨ob,(hs.2 b q).trans e⟩
 have ha:a ∈ g.μ:=List.mem_of_getElem? hl
 have nz:∀ b,g.Z b -> b ≠ a:=fun b z q=>i.apart a ha (q ▸ z)
 refine ⟨by rw [List.length_set]; exact i.len,i.nodup,fun k o' e=>?_,i.apart,fun b o' e=>⟨(i.old b o' e).1,(hs.2 b (nz b (i.old b o' e).1)).trans (i.old b o' e).2⟩,fun b hb=>alive b (i.oi b hb),fun b hb=>alive b (i.oj b hb),i.sys,alive _ i.iu⟩
 rw [List.getElem?_set] at e
 split at e
 ·rename_i q; subst q
  split at e
  ·cases e; exact ⟨a,hl,r⟩
  ·cases e
 ·rename_i q
  obtain ⟨b,e1,e2⟩:=i.objs k o' e
  have hb:b ≠ a:=fun w=>by
   subst w
   exact q ((List.getElem?_inj (List.getElem?_eq_some_iff.mp hl).1 i.nodup).mp (hl.trans e1.symm))
  refine ⟨b,e1,?_⟩
  cases e2 with
  | list p r=>exact .list (let ⟨n,z⟩:=p; ⟨n,(hs.2 b hb).trans z⟩) (r.mono (fun _ _ e=>e) (fun _ z=>z) fun c o z e=>(hs.2 c (nz c z)).trans e)
  | dict p q r=>exact .dict (p.at fun o z=>(hs.2 b hb).trans z) q (r.mono (fun _ _ e=>e) (fun _ z=>z) fun c o z e=>(hs.2 c (nz c z)).trans e)
end GQ
section
section
variable {n:Nat} {A:Around} {fs:List Env} {own W:List Addr} {env:Env} {σ:Loc} {g g':Gh} {H H':Hp} {s s':Shared} {h h':Heap}
theorem Inv.set (i:Inv g H h) {l:Nat} {a:Addr} {o:aO} (hl:g.μ[l]? = some a) (hs:Heap.SameBut a h h') (r:OR g h' o a):Inv g (H.set l o) h' :=
 bD (p:=fun p=>GQ.Gq p.1 p.2.1 p.2.2.1 p.2.2.2.1 p.2.2.2.2.1 p.2.2.2.2.2.1 p.2.2.2.2.2.2) GQ.tq (g,H,h,h',l,a,o) i hl hs r
theorem After.set {F:List Addr} (i:Inv g H s.heap) {l:Nat} {a:Addr} {o:aO} (hl:g.μ[l]? = some a) (hs:Heap.SameBut a s.heap h') (r:OR g h' o a) {t:Nat} :
  After F g.μ g s g (H.set l o) { s with heap:=h',toks:=t }:=by
 have ha:a ∈ g.μ:=List.mem_of_getElem? hl
 refine ⟨i.set hl hs r,.refl _ _,⟨fun b o e=>?_,fun b o e n f=>?_,fun b o e n=>?_,fun b o e n=>?_⟩,rfl,rfl⟩
 ·by_cases q:b = a
  ·subst q; exact r.live
  ·exact ⟨o,(hs.2 b q).trans e⟩
 ·exact (hs.2 b fun q=>n (q ▸ ha)).trans e
 ·exact ⟨o.slots,(hs.2 b fun q=>n (q ▸ ha)).trans e⟩
 ·by_cases q:b = a
  ·subst q; exact r.nf
  ·exact ⟨o,(hs.2 b q).trans e,n⟩
end
theorem Inv.jM {g:Gh} {H:Hp} {h:Heap} (i:Inv g H h):∀ b o,P.h₀.get? b = some o -> h.get? b = some o:=fun b o e=>(i.old b o e).2
theorem Inv.oU {g:Gh} {H:Hp} {h:Heap} (i:Inv g H h) (T:oN P):P.K.In h:=T.oU.keeps i.jM
end
end
end Mine
end
section
open PySem PySem.W PyProof.Rows PySem.Calls
namespace Mine
noncomputable section
section
section
variable {A:Around} {E:Value -> Shared -> Prop} {g:Gh} {s:Shared} {H:Hp}
theorem lz (x:Nm):(toS x).length = x.length:=by simp [toS,Str.length]
theorem oM (x y:Nm):toS x ++ toS y = toS (x ++ y):=by
 have:=Str.cps_append (toS x) (toS y)
 cases h:toS x ++ toS y with | mk c=>rw [h] at this; simp [toS] at this ⊢; exact this
theorem BR {x:Int} (h:0 <= x):Builtin.bitAnd x 1 = x % 2:=by
 unfold Builtin.bitAnd
 rw [decide_eq_true h]
 show ((x.toNat &&& 1:Nat):Int) = _
 rw [Nat.and_one_is_mod,Int.natCast_emod,Int.toNat_of_nonneg h]; rfl
theorem noPylong {x y:Int} (h:0 < y) (h':y < 2 ^ 64):Builtin.divisionGoesByPylong x y = false:=by
 have h1:y.natAbs < 2 ^ 64:=Int.natAbs_lt_natAbs_of_nonneg_of_lt (Int.le_of_lt h) h'
 have h2:y.natAbs.log2 < 64:=(Nat.log2_lt (Nat.pos_iff_ne_zero.mp (Int.natAbs_pos.mpr (Int.ne_of_gt h)))).mpr h1
 unfold Builtin.divisionGoesByPylong
 have h3:¬ (y.natAbs.log2 / 30 + 1 > 300):=by omega
 have h4:(y == 0) = false:=by simp; omega
 simp [h4]
 omega
theorem bits_le (k:Int) (h:0 < k) (h':k <= 10):Builtin.Int.intBits k <= 4:=by
 have:∀ j:Fin 10,Builtin.Int.intBits ((j.val:Int) + 1) <= 4:=by decide +kernel
 have:=this ⟨(k - 1).toNat,by omega⟩
 rwa [show (((k - 1).toNat:Nat):Int) + 1 = k by omega] at this
theorem Je {o:Op} {x y:Int} {c:AV} {tx ty:Tok} {Q:Value -> Shared -> Prop} (hr:binI o x y = some c) (h:∀ w t,VR P g s.heap c w -> Q w { s with toks:=t }):wpAny P.M A (binaryOp o (.int x tx) (.int y ty)) Q E s:=by
 cases o with
 | Add=>cases hr; exact add_int (h _ _ (.int _ _))
 | Sub=>cases hr; exact sub_int (h _ _ (.int _ _))
 | Mod=>
  refine k8 hr fun hl e=>?_
  refine mod_int (Int.ne_of_gt hl) ?_
  rw [Int.fmod_eq_emod_of_nonneg _ (Int.le_of_lt hl)]
  exact h _ _ (e ▸ .int _ _)
 | FloorDiv=>
  refine k8 hr fun hl e=>?_
  refine floordiv_int (Int.ne_of_gt hl.1) ?_ (hp:=.inl (noPylong hl.1 hl.2))
  rw [Int.fdiv_eq_ediv_of_nonneg _ (Int.le_of_lt hl.1)]
  exact h _ _ (e ▸ .int _ _)
 | Pow=>
  refine k8 hr fun hl e=>?_
  refine pow_int hl.2.2.1 ?_ (h _ _ (e ▸ .int _ _))
  have:((Builtin.Int.intBits x:Nat):Int) * y <= 4 * 80:=Int.mul_le_mul (Int.ofNat_le.mpr (bits_le x hl.1 hl.2.1)) hl.2.2.2 hl.2.2.1 (by decide)
  exact Int.le_trans this (by decide:(4 * 80:Int) <= 2 ^ 27)
 | RShift=>
  refine k8 hr fun hl e=>?_
  refine rshift_int hl.2.1 ?_
  rw [Int.fdiv_eq_ediv_of_nonneg _ (Int.le_of_lt (Int.pow_pos (by decide)))]
  exact h _ _ (e ▸ .int _ _)
 | BitAnd=>
  refine k8 hr fun hl e=>?_
  cases hl.2
  refine and_int ?_
  rw [BR hl.1]
  exact h _ _ (e ▸ .int _ _)
 | _=>exact gG hr
theorem DV {o:Op} {a b c:AV} {v u:Value} {Q:Value -> Shared -> Prop} (hr:kB o a b = some c)
  (ra:VR P g s.heap a v) (rb:VR P g s.heap b u) (h:∀ w t,VR P g s.heap c w -> Q w { s with toks:=t }):wpAny P.M A (binaryOp o v u) Q E s:=by
 unfold kB at hr
 cases ea:cD a with
 | some x=>
  rw [ea] at hr
  refine bnd hr fun y eb hr=>?_
  obtain ⟨tx,rfl⟩:=ra.cD ea
  obtain ⟨ty,rfl⟩:=rb.cD eb
  exact Je hr h
 | none=>
  rw [ea] at hr
  by_cases q:o = .Add
  ·cases q
   refine bnd hr fun x ea hr=>bnd hr fun y eb hr=>k8 hr fun hl e=>?_
   obtain ⟨tx,rfl⟩:=ra.jX ea
   obtain ⟨ty,rfl⟩:=rb.jX eb
   have Qj:=sizeLine_eq
   exact PyProof.Rows.add_str (fun t' tk=>h _ _ (by rw [oM]; exact e ▸ .str _ _)) (by rw [lz,lz]; omega)
  ·exact absurd ((if_neg q).symm.trans hr) (fun e=>by cases e)
theorem Inv.at (i:Inv g H s.heap) {l:Nat} {o:aO} {a:Addr} (e:H[l]? = some o) (hl:g.μ[l]? = some a):OR g s.heap o a:=by
 obtain ⟨b,h1,h2⟩:=i.objs l o e
 cases hl.symm.trans h1; exact h2
theorem iA {a:AV} {xs:List AV} {v:Value} (i:Inv g H s.heap) (e:listOf H a = some xs) (r:VR P g s.heap a v) :
  ∃ ad vs,v = .ref ad /\ s.heap.PlainList ad vs.toArray /\ aC P g s.heap xs vs:=by
 rcases ou e with ⟨l,rfl,q⟩ | rfl
 ·obtain ⟨ad,rfl,hl⟩:=r.inv
  obtain ⟨vs,h1,h2⟩:=(i.at q hl).inv
  exact ⟨_,vs,rfl,h1,h2⟩
 ·obtain ⟨vs,ad,rfl,_,h1,h2⟩:=r.inv
  exact ⟨_,vs,rfl,h1,h2⟩
theorem dR {a:AV} {xs:List AV} {v:Value} (i:Inv g H s.heap) (e:listOf H a = some xs) (r:VR P g s.heap a v) :
  ∃ ad vs,v = .ref ad /\ s.heap.IsList ad vs.toArray /\ aC P g s.heap xs vs :=
 let ⟨ad,vs,h1,h2,h3⟩:=iA i e r
 ⟨ad,vs,h1,aI h2,h3⟩
end
end
namespace GP
noncomputable def Gq (g:Mine.Gh) (s:PySem.Shared) (H:Mine.Hp) (xs:List (Mine.AK × Mine.AV)):Prop:=∀ (a:AV) (v:Value) (i:Inv g H s.heap) (e:dictOf H a = some xs) (r:VR P g s.heap a v),∃ ad es ep,v = .ref ad /\ (ad == sysModules) = false /\ s.heap.DictAt P.kind ad es ep /\ aU P g s.heap xs es
noncomputable def kq:Mine.Gh × PySem.Shared × Mine.Hp × List (Mine.AK × Mine.AV):=cx fun p=>Gq p.1 p.2.1 p.2.2.1 p.2.2.2
noncomputable def g:=kq.1
noncomputable def s:=kq.2.1
noncomputable def H:=kq.2.2.1
noncomputable def xs:=kq.2.2.2
theorem tq:Gq g s H xs:=by
 intro a v i e r
 rcases tO e with ⟨l,it,rfl,q⟩ | rfl
 ·obtain ⟨ad,rfl,hl⟩:=r.inv
  obtain ⟨es,ep,h1,_,h2⟩:=(i.at q hl).inv
  exact ⟨_,es,ep,rfl,beq_false_of_ne fun e=>i.sys (e ▸ List.mem_of_getElem? hl),h1,h2⟩
 ·obtain ⟨es,ad,ep,rfl,n,_,h1,h2⟩:=r.inv
  exact ⟨_,es,ep,rfl,n,h1,h2⟩
end GP
section
section
variable {A:Around} {E:Value -> Shared -> Prop} {g:Gh} {s:Shared} {H:Hp}
theorem di {a:AV} {xs:List (AK × AV)} {v:Value} (i:Inv g H s.heap) (e:dictOf H a = some xs) (r:VR P g s.heap a v):∃ ad es ep,v = .ref ad /\ (ad == sysModules) = false /\ s.heap.DictAt P.kind ad es ep /\ aU P g s.heap xs es :=
 bD (p:=fun p=>GP.Gq p.1 p.2.1 p.2.2.1 p.2.2.2) GP.tq (g,s,H,xs) a v i e r
theorem all_range {n:Nat} {e:Nat -> Bool} (h:∀ j,j < n -> e j = true):(List.range n).all e = true:=by
 rw [List.all_eq_true]; intro j hj; exact h j (List.mem_range.mp hj)
theorem nV {f:AV -> AV -> Option Bool} {xs ys:List AV} {k:Bool} {C:Prop} (e:qv f xs ys = some k) (h:xs.length = ys.length -> (∀ j (h1:j < xs.length) (h2:j < ys.length),f xs[j] ys[j] = some true) -> true = k -> C):C :=
 k8 e fun q e=>h q.1 (fun j h1 h2=>by
  have:=List.all_eq_true.mp q.2 (xs[j],ys[j]) (List.mem_iff_getElem.mpr ⟨j,by rw [List.length_zip]; exact Nat.lt_min.mpr ⟨h1,h2⟩,List.getElem_zip⟩)
  exact beq_iff_eq.mp this) e
theorem elems {n:Nat} (IH:∀ {A:Around} {a b:AV} {v u:Value} {k:Bool},eqv H n a b = some k -> VR P g s.heap a v -> VR P g s.heap b u -> A.units + n < cLine -> SeqAt.EqAt A s v u k)
  {xs ys:List AV} {vs us:List Value} (hl:xs.length = ys.length) (ha:∀ j (h1:j < xs.length) (h2:j < ys.length),eqv H n xs[j] ys[j] = some true) (rx:aC P g s.heap xs vs) (ry:aC P g s.heap ys us) (hu:A.units + 1 + n < cLine) :
  vs.toArray.size = us.toArray.size /\ ∀ j (h1:j < vs.toArray.size) (h2:j < us.toArray.size),SeqAt.EqAt A.in1 s vs.toArray[j] us.toArray[j] true:=by
 refine ⟨rx.length.symm.trans (hl.trans ry.length),fun j h1 h2=>?_⟩
 have l1:j < xs.length:=rx.length ▸ h1
 have l2:j < ys.length:=ry.length ▸ h2
 obtain ⟨v',e1,r1⟩:=rx.get (List.getElem?_eq_getElem l1)
 obtain ⟨u',e2,r2⟩:=ry.get (List.getElem?_eq_getElem l2)
 cases (List.getElem?_eq_getElem h1).symm.trans e1
 cases (List.getElem?_eq_getElem h2).symm.trans e2
 exact IH (ha j l1 l2) r1 r2 hu
theorem Ih {A:Around} {a b:AV} {v u:Value} {k:Bool} {h:Heap} (e:Eu a b = some k) (ra:VR P g h a v) (rb:VR P g h b u):SeqAt.EqAt A s v u k:=by
 cases a <;> first | (cases e; done) | skip
 ·refine k8 e fun q e=>?_
  cases sZ q; cases ra.inv; cases rb.inv; cases e; exact SeqAt.EqAt.same _
 ·rename_i x
  refine iF e fun y q e=>?_
  cases D3 q; cases ra.inv; cases rb.inv; cases e
  intro prog w E Q hq
  unfold PySem.eqBool
  refine wpAny_holding ?_
  refine wpAny_ite_split (fun hab=>?_) fun _=>?_
  ·have:x = y:=by simpa using hab
   subst this
   exact wpAny_bind (wpAny_rule (wpAny_pure (by simpa using hq)))
  ·exact wpAny_bind (show wpAny _ _ (compareOp .Eq (.bool x) (.bool y)) _ _ _ from PyProof.Rows.eq_bool (wpAny_truthy_bool hq))
 ·refine iF e fun y q e=>?_
  obtain ⟨_,rfl⟩:=ra.inv
  obtain ⟨_,rfl⟩:=rb.cD q
  cases e
  exact fun prog w E Q hq=>wpAny_eqBool_int hq
 ·rename_i x
  refine iF e fun y q e=>?_
  obtain ⟨_,rfl⟩:=ra.inv
  obtain ⟨_,rfl⟩:=rb.jX q
  cases e
  exact fun prog w E Q hq=>wpAny_eqBool_str (by rw [tY]; exact hq)
theorem yc {n:Nat} {a b:AV}:eqv H (n + 1) a b = (fV a).elim ((listOf H a).elim (Eu a b) fun xs=>(listOf H b).bind (qv (eqv H n) xs)) fun xs=>(fV b).bind (qv (eqv H n) xs):=rfl
theorem ye (i:Inv g H s.heap):∀ (n:Nat) {A:Around} {a b:AV} {v u:Value} {k:Bool},eqv H n a b = some k -> VR P g s.heap a v -> VR P g s.heap b u -> A.units + n < cLine -> SeqAt.EqAt A s v u k:=by
 intro n
 induction n with
 | zero=>intro A a b v u k e; cases e
 | succ n IH=>
  intro A a b v u k e ra rb hu
  have NU:A.units + 1 + n < cLine:=by omega
  have s8:A.units < cLine:=by omega
  rw [yc] at e
  cases ea:fV a with
  | some xs=>
   rw [ea] at e
   refine bnd e fun ys eb e=>nV e fun hl ha e=>?_
   cases e
   obtain ⟨vs,ad,rfl,_,p1,p2⟩:=ra.fV ea
   obtain ⟨us,bd,rfl,_,q1,q2⟩:=rb.fV eb
   by_cases hne:ad = bd
   ·cases hne; exact SeqAt.EqAt.same _
   ·obtain ⟨hsz,hes⟩:=elems IH hl ha p2 q2 NU
    have:=SeqAt.RcAt.tuples (e:=fun _=>true) p1 q1 s8 hes
    rw [all_range (fun _ _=>rfl),hsz,beq_self_eq_true] at this
    exact SeqAt.EqAt.of_refs hne this
  | none=>
   rw [ea] at e
   cases el:listOf H a with
   | none=>rw [el] at e; exact Ih e ra rb
   | some xs=>
    rw [el] at e
    refine bnd e fun ys eb e=>nV e fun hl ha e=>?_
    cases e
    obtain ⟨ad,vs,rfl,p1,p2⟩:=dR i el ra
    obtain ⟨bd,us,rfl,q1,q2⟩:=dR i eb rb
    by_cases hne:ad = bd
    ·cases hne; exact SeqAt.EqAt.same _
    ·obtain ⟨hsz,hes⟩:=elems IH hl ha p2 q2 NU
     have:=SeqAt.RcAt.lists (e:=fun _=>true) p1 q1 hsz s8 hes
     rw [all_range (fun _ _=>rfl)] at this
     exact SeqAt.EqAt.of_refs hne this
end
end
namespace GO
noncomputable def Gq (A:PySem.Around) (E:PySem.Value -> PySem.Shared -> Prop) (g:Mine.Gh) (s:PySem.Shared) (H:Mine.Hp) (n:Nat) (Q:PySem.Value -> PySem.Shared -> Prop):Prop:=∀ (i:Inv g H s.heap) (a b:AV) (v u:Value) (k:Bool) (e:eqv H (n + 1) a b = some k) (ra:VR P g s.heap a v) (rb:VR P g s.heap b u) (hu:A.units + 1 + n < cLine),(Q (.bool k) s -> wpAny P.M A (compareOp .Eq v u) Q E s) /\ (Q (.bool !k) s -> wpAny P.M A (compareOp .NotEq v u) Q E s)
noncomputable def kq:PySem.Around × (PySem.Value -> PySem.Shared -> Prop) × Mine.Gh × PySem.Shared × Mine.Hp × Nat × (PySem.Value -> PySem.Shared -> Prop):=cx fun p=>Gq p.1 p.2.1 p.2.2.1 p.2.2.2.1 p.2.2.2.2.1 p.2.2.2.2.2.1 p.2.2.2.2.2.2
noncomputable def A:=kq.1
noncomputable def E:=kq.2.1
noncomputable def g:=kq.2.2.1
noncomputable def s:=kq.2.2.2.1
noncomputable def H:=kq.2.2.2.2.1
noncomputable def n:=kq.2.2.2.2.2.1
noncomputable def Q:=kq.2.2.2.2.2.2
theorem tq:Gq A E g s H n Q:=by
 intro i a b v u k e ra rb hu
 have s8:A.units < cLine:=by omega
 rw [yc] at e
 cases ea:fV a with
 | some xs=>
  rw [ea] at e
  refine bnd e fun ys eb e=>nV e fun hl ha e=>?_
  cases e
  obtain ⟨vs,ad,rfl,_,p1,p2⟩:=ra.fV ea
  obtain ⟨us,bd,rfl,_,q1,q2⟩:=rb.fV eb
  obtain ⟨hsz,hes⟩:=elems (ye i n) hl ha p2 q2 hu
  have r1:=SeqAt.RcAt.tuples (e:=fun _=>true) p1 q1 s8 hes
  have r2:=SeqAt.RcNeAt.tuples (e:=fun _=>true) p1 q1 s8 hes
  rw [all_range (fun _ _=>rfl),hsz,beq_self_eq_true] at r1 r2
  exact ⟨fun h=>r1 _ _ _ _ h,fun h=>r2 _ _ _ _ h⟩
 | none=>
  rw [ea] at e
  cases el:listOf H a with
  | some xs=>
   rw [el] at e
   refine bnd e fun ys eb e=>nV e fun hl ha e=>?_
   cases e
   obtain ⟨ad,vs,rfl,p1,p2⟩:=dR i el ra
   obtain ⟨bd,us,rfl,q1,q2⟩:=dR i eb rb
   obtain ⟨hsz,hes⟩:=elems (ye i n) hl ha p2 q2 hu
   have r1:=SeqAt.RcAt.lists (e:=fun _=>true) p1 q1 hsz s8 hes
   have r2:=SeqAt.RcNeAt.lists (e:=fun _=>true) p1 q1 hsz s8 hes
   rw [all_range (fun _ _=>rfl)] at r1 r2
   exact ⟨fun h=>r1 _ _ _ _ h,fun h=>r2 _ _ _ _ h⟩
  | none=>
   rw [el] at e
   cases a <;> first | (cases e; done) | skip
   ·refine k8 e fun q e=>?_
    cases sZ q; cases ra.inv; cases rb.inv; cases e; exact ⟨fun h=>EqNone.eq_none_none h,fun h=>EqNone.ne_none_none h⟩
   ·refine iF e fun y q e=>?_
    cases D3 q; cases ra.inv; cases rb.inv; cases e; exact ⟨fun h=>PyProof.Rows.eq_bool h,fun h=>PyProof.Rows.ne_bool h⟩
   ·refine iF e fun y q e=>?_
    obtain ⟨_,rfl⟩:=ra.inv
    obtain ⟨_,rfl⟩:=rb.cD q
    cases e
    exact ⟨fun h=>PyProof.Rows.eq_int h,fun h=>PyProof.Rows.ne_int h⟩
   ·rename_i x
    refine iF e fun y q e=>?_
    obtain ⟨_,rfl⟩:=ra.inv
    obtain ⟨_,rfl⟩:=rb.jX q
    cases e
    exact ⟨fun h=>PyProof.Rows.eq_str (by rw [zG]; exact h),fun h=>PyProof.Rows.ne_str (by rw [bne,zG]; exact h)⟩
end GO
section
section
variable {A:Around} {E:Value -> Shared -> Prop} {g:Gh} {s:Shared} {H:Hp}
theorem Ls (i:Inv g H s.heap) {n:Nat} {a b:AV} {v u:Value} {k:Bool} (e:eqv H (n + 1) a b = some k) (ra:VR P g s.heap a v) (rb:VR P g s.heap b u) (hu:A.units + 1 + n < cLine) {Q:Value -> Shared -> Prop}:(Q (.bool k) s -> wpAny P.M A (compareOp .Eq v u) Q E s) /\ (Q (.bool !k) s -> wpAny P.M A (compareOp .NotEq v u) Q E s) :=
 bD (p:=fun p=>GO.Gq p.1 p.2.1 p.2.2.1 p.2.2.2.1 p.2.2.2.2.1 p.2.2.2.2.2.1 p.2.2.2.2.2.2) GO.tq (A,E,g,s,H,n,Q) i a b v u k e ra rb hu
theorem IG (i:Inv g H s.heap) {n:Nat} {kb:List (AK × Value)} {xs:List (AK × AV)} {es:List (AK × Value)} (hu:A.units + n < cLine) (r:aU P g s.heap xs es):∀ {ys:List (AK × AV)} {fs:List (AK × Value)},xs.length = ys.length ->
  (xs.zip ys).all (fun p=>decide (p.1.1 = p.2.1) && eqv H n p.1.2 p.2.2 == some true) = true -> aU P g s.heap ys fs -> (∀ k v,(k,v) ∈ fs -> valueAt kb k = some v) -> KeqHits A s kb es true:=by
 refine aU.bT (motive:=fun xs es=>∀ {ys:List (AK × AV)} {fs:List (AK × Value)},xs.length = ys.length ->
  (xs.zip ys).all (fun p=>decide (p.1.1 = p.2.1) && eqv H n p.1.2 p.2.2 == some true) = true -> aU P g s.heap ys fs -> (∀ k v,(k,v) ∈ fs -> valueAt kb k = some v) -> KeqHits A s kb es true) (fun _ _ _ _=>.nil) (fun {k a v xs es} r1 _ ih ys fs hl ha ry hk=>?_) r
 cases ry with
 | nil=>cases hl
 | cons r2 r2'=>
  rw [List.zip_cons_cons,List.all_cons,Bool.and_eq_true,Bool.and_eq_true,decide_eq_true_eq,beq_iff_eq] at ha
  obtain ⟨⟨e1,e2⟩,e3⟩:=ha
  cases e1
  exact KeqHits.hit (b:=true) (hk _ _ (.head _)) (ye i n e2 r1 r2 hu) (ih (Nat.succ.inj hl) e3 r2' fun k v m=>hk k v (.tail _ m))
theorem yC {kvs:List (AK × Value)} (hn:(kvs.map (·.1)).Nodup) {k:AK} {v:Value} (h:(k,v) ∈ kvs):valueAt kvs k = some v:=by
 obtain ⟨i,hi,e⟩:=List.mem_iff_getElem.mp h
 exact valueAt_of_get hn (by rw [List.getElem?_eq_getElem hi,e])
theorem yf (i:Inv g H s.heap) {a b:AV} {v u:Value} {k:Bool} (e:kK H a b = some k) (ra:VR P g s.heap a v) (rb:VR P g s.heap b u) (hu:A.units + 20 < cLine) {Q:Value -> Shared -> Prop} :
  (Q (.bool k) s -> wpAny P.M A (compareOp .Eq v u) Q E s) /\ (Q (.bool !k) s -> wpAny P.M A (compareOp .NotEq v u) Q E s):=by
 have Qx:A.in1.units + qF < cLine:=by show A.units + 1 + 6 < cLine; omega
 have hu1:A.units < cLine:=by omega
 have s8:A.units + 1 + 5 < cLine:=by omega
 unfold kK at e
 cases ea:dictOf H a with
 | some xs=>
  rw [ea] at e
  refine bnd e fun ys eb e=>k8 e fun q e=>?_
  cases e
  obtain ⟨ad,es,ep,rfl,n1,p1,p2⟩:=di i ea ra
  obtain ⟨bd,fs,j5,rfl,n2,q1,q2⟩:=di i eb rb
  have hl:(es.length == fs.length) = true:=by rw [← p2.length,← q2.length,beq_iff_eq]; exact q.1
  have hits:=IG (A:=A.in1) i Qx p2 q.1 q.2 q2 fun k v m=>yC q1.nodup m
  exact ⟨fun h=>keq_eq n1 n2 p1.dictOf q1.dictOf hu1 (fun _=>hits) (by rw [hl]; exact h),fun h=>keq_ne n1 n2 p1.dictOf q1.dictOf hu1 (fun _=>hits) (by rw [hl]; exact h)⟩
 | none=>
  rw [ea] at e
  exact Ls (n:=5) i e ra rb s8
theorem CY {a:AV} {k:AK} (e:keyOf a = some k):a = bQ k:=by cases a <;> cases e <;> rfl
theorem iB {a:AV} {k:AK} {v:Value} {h:Heap} (e:keyOf a = some k) (r:VR P g h a v):fW k v = true:=by
 cases CY e
 cases k with
 | s x=>obtain ⟨t,rfl⟩:=r.inv; exact beq_self_eq_true _
 | i n=>obtain ⟨t,rfl⟩:=r.inv; exact beq_self_eq_true _
noncomputable def nv (v y:Value):Bool:=match v,y with
 | .int n _,.int m _=>decide (m = n)
 | .str x _,.str z _=>decide (z = x)
 | _,_=>false
theorem yH {a b:AV} {v u:Value} {k:Bool} {h:Heap} (e:rG a b = some k) (ra:VR P g h a v) (rb:VR P g h b u) (A:Around) (s:Shared):SeqAt.EqAt A s v u k /\ nv u v = k:=by
 unfold rG at e
 cases ea:cD a with
 | some x=>
  rw [ea] at e
  refine iF e fun y eb e=>?_
  obtain ⟨_,rfl⟩:=ra.cD ea
  obtain ⟨_,rfl⟩:=rb.cD eb
  cases e
  exact ⟨fun prog w E Q hq=>wpAny_eqBool_int hq,rfl⟩
 | none=>
  rw [ea] at e
  refine bnd e fun x ea e=>iF e fun y eb e=>?_
  obtain ⟨_,rfl⟩:=ra.jX ea
  obtain ⟨_,rfl⟩:=rb.jX eb
  cases e
  exact ⟨fun prog w E Q hq=>wpAny_eqBool_str (by rw [tY]; exact hq),tY x y⟩
theorem CT {a:AV} {v:Value} {h:Heap} (ra:VR P g h a v) (A:Around) (s:Shared) {xs:List AV} {vs:List Value} (r:aC P g h xs vs):∀ {k:Bool},sJ a xs = some k ->
  (∀ y ∈ vs,SeqAt.EqAt A s y v (nv v y)) /\ vs.any (nv v) = k:=by
 refine aC.bT (motive:=fun xs vs=>∀ {k:Bool},sJ a xs = some k -> (∀ y ∈ vs,SeqAt.EqAt A s y v (nv v y)) /\ vs.any (nv v) = k) (fun {k} e=>?_) (fun {x u xs vs} r _ ih {k} e=>?_) r
 ·cases e; exact ⟨fun y hy=>(List.not_mem_nil hy).elim,rfl⟩
 ·refine bnd e fun b e1 e=>iF e fun c e2 e=>?_
  obtain ⟨h1,h2⟩:=yH e1 r ra A s
  obtain ⟨h3,h4⟩:=ih e2
  cases h2
  exact ⟨fun y hy=>(List.mem_cons.mp hy).elim (fun q=>q ▸ h1) (h3 y),by rw [List.any_cons,h4]; exact e⟩
theorem rz (i:Inv g H s.heap) {a b:AV} {v u:Value} {k:Bool} (e:contains H a b = some k) (ra:VR P g s.heap a v) (rb:VR P g s.heap b u) {Q:Value -> Shared -> Prop} :
  ((∀ t,Q (.bool k) { s with toks:=t }) -> wpAny P.M A (compareOp .In v u) Q E s) /\ ((∀ t,Q (.bool !k) { s with toks:=t }) -> wpAny P.M A (compareOp .NotIn v u) Q E s):=by
 unfold contains at e
 cases eb:fV b with
 | some xs=>
  rw [eb] at e
  obtain ⟨vs,ad,rfl,z,p1,p2⟩:=rb.fV eb
  obtain ⟨h1,h2⟩:=CT ra A.in1 s p2 e
  have HC:∀ y ∈ vs.toArray,SeqAt.EqAt A.in1 s y v (nv v y):=fun y hy=>h1 y (List.mem_toArray.mp hy)
  exact ⟨fun h=>SeqAt.in_tupleAt _ p1 HC (by rw [List.any_toArray,h2]; exact h s.toks),fun h=>SeqAt.notIn_tupleAt _ p1 HC (by rw [List.any_toArray,h2]; exact h s.toks)⟩
 | none=>
  rw [eb] at e
  refine bnd e fun kvs e1 e=>iF e fun k' e2 e=>?_
  obtain ⟨ad,es,ep,rfl,n1,p1,p2⟩:=di i e1 rb
  have hk:=iB e2 ra
  have hf:(valueAt es k').isSome = k:=by
   rcases p2.find k' with ⟨q1,q2⟩ | ⟨x,u,q1,q2,_⟩ <;> rw [q1] at e <;> rw [q2] <;> exact e
  exact ⟨fun h=>wpAny_in_of (knd:=P.kind) hk n1 p1.dictOf.mapOf (by rw [hf]; exact h _),fun h=>wpAny_notIn_of (knd:=P.kind) hk n1 p1.dictOf.mapOf (by rw [hf]; exact h _)⟩
theorem VR.nE {h:Heap} {a:AV} {v:Value} (r:VR P g h a v):plainIs v .none = true /\ (v == .none) = nE a:=by cases r <;> exact ⟨rfl,rfl⟩
theorem lD (i:Inv g H s.heap) {o:pD} {a b:AV} {v u:Value} {k:Bool} (hr:k7 H o a b = some k) (ra:VR P g s.heap a v) (rb:VR P g s.heap b u)
  (hu:A.units + 20 < cLine) {Q:Value -> Shared -> Prop} (h:∀ t,Q (.bool k) { s with toks:=t }):wpAny P.M A (compareOp o v u) Q E s:=by
 have h0:=h s.toks
 have two:∀ {o:pD},((cD a).bind fun x=>(cD b).bind (FL o x)) = some k -> ∃ x y tx ty,v = .int x tx /\ u = .int y ty /\ FL o x y = some k:=fun e=>bnd e fun x ea e=>bnd e fun y eb e=>by
  obtain ⟨tx,rfl⟩:=ra.cD ea
  obtain ⟨ty,rfl⟩:=rb.cD eb
  exact ⟨x,y,tx,ty,rfl,rfl,e⟩
 cases o with
 | Eq=>exact (yf i hr ra rb hu).1 h0
 | NotEq=>exact J2 hr fun k' e q=>(yf i e ra rb hu).2 (q ▸ h0)
 | Lt=>obtain ⟨x,y,tx,ty,rfl,rfl,e⟩:=two hr; cases e; exact PyProof.Rows.lt_int h0
 | LtE=>obtain ⟨x,y,tx,ty,rfl,rfl,e⟩:=two hr; cases e; exact PySem.P.le_int h0
 | Gt=>obtain ⟨x,y,tx,ty,rfl,rfl,e⟩:=two hr; cases e; exact PySem.P.gt_int h0
 | GtE=>obtain ⟨x,y,tx,ty,rfl,rfl,e⟩:=two hr; cases e; exact PySem.P.ge_int h0
 | Is=>
  refine k8 hr fun q e=>?_
  cases sZ q; cases rb.inv
  refine wpAny_is_plain ra.nE.1 ?_
  rw [ra.nE.2,e]; exact h0
 | IsNot=>
  refine k8 hr fun q e=>?_
  cases sZ q; cases rb.inv
  refine wpAny_isNot_plain ra.nE.1 ?_
  rw [ra.nE.2,e]; exact h0
 | In=>exact (rz i hr ra rb).1 h
 | NotIn=>exact J2 hr fun k' e q=>(rz i e ra rb).2 (q ▸ h)
end
end
end
end Mine
end
section
open PySem PySem.W PyProof.Rows PySem.Calls
namespace Mine
noncomputable section
section
theorem cP {n:Nat} (h:n <= lim):n <= sizeLine:=by rw [sizeLine_eq]; unfold lim at h; omega
section
variable {A:Around} {E:Value -> Shared -> Prop} {g:Gh} {s:Shared} {H:Hp} {F:List Addr}
end
end
namespace GN
noncomputable def Gq (A:PySem.Around) (E:PySem.Value -> PySem.Shared -> Prop) (s:PySem.Shared) (d:PySem.Addr) (kvs:List (Mine.AK × PySem.Value)) (ep:Nat) (k:Mine.AK) (key:PySem.Value) (v:PySem.Value) (Q:Unit -> PySem.Shared -> Prop):Prop:=∀ (knd:PySem.KeyKind P.prog P.w AK) (hkey:knd.is k key = true) (hm:s.heap.DictAt knd d kvs ep) (hsz:kvs.length <= sizeLine) (hQ:∀ h' j5,h'.DictAt knd d (stored kvs k v) j5 -> (ep = kvs.length -> j5 = (stored kvs k v).length) -> Heap.SameBut d s.heap h' -> Q () { s with heap:=h',toks:=s.toks + 1 }),wpAny P.M A (dictSet d key v) Q E s
noncomputable def kq:PySem.Around × (PySem.Value -> PySem.Shared -> Prop) × PySem.Shared × PySem.Addr × List (Mine.AK × PySem.Value) × Nat × Mine.AK × PySem.Value × PySem.Value × (Unit -> PySem.Shared -> Prop):=cx fun p=>Gq p.1 p.2.1 p.2.2.1 p.2.2.2.1 p.2.2.2.2.1 p.2.2.2.2.2.1 p.2.2.2.2.2.2.1 p.2.2.2.2.2.2.2.1 p.2.2.2.2.2.2.2.2.1 p.2.2.2.2.2.2.2.2.2
noncomputable def A:=kq.1
noncomputable def E:=kq.2.1
noncomputable def s:=kq.2.2.1
noncomputable def d:=kq.2.2.2.1
noncomputable def kvs:=kq.2.2.2.2.1
noncomputable def ep:=kq.2.2.2.2.2.1
noncomputable def k:=kq.2.2.2.2.2.2.1
noncomputable def key:=kq.2.2.2.2.2.2.2.1
noncomputable def v:=kq.2.2.2.2.2.2.2.2.1
noncomputable def Q:=kq.2.2.2.2.2.2.2.2.2
theorem tq:Gq A E s d kvs ep k key v Q:=by
 intro knd hkey hm hsz hQ
 obtain ⟨o,es,ho,hc,hd,hk,hp,hn⟩:=hm
 have hl:=hp.length
 have hes:es.size <= sizeLine:=by rw [← Array.length_toList,hl]; exact hsz
 have idx:(es.findIdx? fun e=>knd.is k e.key) = kvs.findIdx? fun kv=>decide (kv.1 = k):=by
  rw [← hp.findIdx k]; obtain ⟨q⟩:=es; simp
 unfold dictSet
 refine wpAny_holding (wpAny_bind (knd.pyHash hkey ?_))
 unfold dictSetHashed
 refine wpAny_holding (wpAny_bind (wpAny_dictFind_of (s:={ s with toks:=s.toks + 1 }) hkey ho hd hk ?_))
 cases hi:es.findIdx? fun e=>knd.is k e.key with
 | some i=>
  have hany:=any_of_findIdx_some (idx ▸ hi)
  refine wpAny_bind (wpAny_rule (wpAny_bind (wpAny_updateDict (s:={ s with toks:=s.toks + 1 }) ho hd (wpAny_point ?_))))
  have hst:stored kvs k v = kvs.map fun kv=>if kv.1 = k then (kv.1,v) else kv:=if_pos hany
  refine hQ _ ep ⟨_,_,Heap.get?_update_self _ ho (Obj.isFreed_of_dict (Obj.data_mapDict hd _)),hc.mapDict _,Obj.data_mapDict hd _,hk.modify _ _,?_,?_⟩ (fun e=>?_) (Heap.SameBut.update ..)
  ·rw [hst]
   have hi':(es.toList.findIdx? fun e=>knd.is k e.key) = some i:=by rw [← hi]; obtain ⟨q⟩:=es; simp
   have:=hp.modify hn hi' v
   obtain ⟨q⟩:=es
   simpa using this
  ·rw [hst,keys_map_store]; exact hn
  ·rw [hst,List.length_map]; exact e
 | none=>
  have KL:=not_mem_of_findIdx_none (idx ▸ hi)
  have hany:¬ (kvs.any fun kv=>decide (kv.1 = k)) = true:=fun h=>by
   obtain ⟨kv,h1,h2⟩:=List.any_eq_true.mp h
   exact KL (List.mem_map.mpr ⟨kv,h1,of_decide_eq_true h2⟩)
  have hst:stored kvs k v = kvs ++ [(k,v)]:=if_neg hany
  refine wpAny_bind (wpAny_rule (wpAny_updateDictKeys (hz:=hes) (s:={ s with toks:=s.toks + 1 }) ho hd ?_))
  refine hQ _ (ep + 1) ⟨_,_,Heap.get?_update_self _ ho (Obj.isFreed_of_dict (Obj.data_mapDictKeys hd _)),hc.mapDictKeys _,Obj.data_mapDictKeys hd _,hk.push hkey _,?_,?_⟩ (fun e=>?_) (Heap.SameBut.update ..)
  ·rw [hst,Array.toList_push]; exact hp.append hkey _ v
  ·rw [hst,List.map_append,List.nodup_append]
   refine ⟨hn,by simp,fun a ha b hb e=>?_⟩
   simp at hb; subst hb; subst e; exact KL ha
  ·rw [hst,List.length_append,e]; rfl
end GN
section
section
variable {A:Around} {E:Value -> Shared -> Prop} {g:Gh} {s:Shared} {H:Hp} {F:List Addr}
theorem tN {knd:PySem.KeyKind P.prog P.w AK} {d:Addr} {kvs:List (AK × Value)} {ep:Nat} {k:AK} {key v:Value} {Q:Unit -> Shared -> Prop} (hkey:knd.is k key = true) (hm:s.heap.DictAt knd d kvs ep) (hsz:kvs.length <= sizeLine) (hQ:∀ h' j5,h'.DictAt knd d (stored kvs k v) j5 -> (ep = kvs.length -> j5 = (stored kvs k v).length) -> Heap.SameBut d s.heap h' -> Q () { s with heap:=h',toks:=s.toks + 1 }):wpAny P.M A (dictSet d key v) Q E s :=
 bD (p:=fun p=>GN.Gq p.1 p.2.1 p.2.2.1 p.2.2.2.1 p.2.2.2.2.1 p.2.2.2.2.2.1 p.2.2.2.2.2.2.1 p.2.2.2.2.2.2.2.1 p.2.2.2.2.2.2.2.2.1 p.2.2.2.2.2.2.2.2.2) GN.tq (A,E,s,d,kvs,ep,k,key,v,Q) knd hkey hm hsz hQ
theorem AH {knd:PySem.KeyKind P.prog P.w AK} {d:Addr} {kvs:List (AK × Value)} {ep:Nat} {k:AK} {key v:Value} {Q:Unit -> Shared -> Prop} (hkey:knd.is k key = true) (hm:s.heap.DictAt knd d kvs ep) (hsz:kvs.length <= sizeLine)
  (hQ:∀ h' j5,h'.DictAt knd d (stored kvs k v) j5 -> (ep = kvs.length -> j5 = (stored kvs k v).length) -> Heap.SameBut d s.heap h' -> Q () { s with heap:=h',toks:=s.toks + 1 }) :
  wpAny P.M A (setItem (.ref d) key v) Q E s:=by
 have hT:=hm.dictOf.typeIs
 unfold setItem
 refine wpAny_holding (wpAny_bind (wpAny_sequenceKey hT (by decide) (wpAny_bind (wpAny_callSpecial?_slot (name:=Str.ofString "__setitem__") hT slot_dict_setitem
  (wpAny_call_entry slot_dict_setitem hT entry_dict_setitem ?_ (args_dict_setitem _ _ _))))))
 show wpAny _ _ (Builtin.Dict.notOrdered "__setitem__" ⟨[.ref d,key,v],[]⟩ >>= _) _ _ s
 refine wpAny_bind (wpAny_notOrdered_dict hT ?_)
 show wpAny _ _ (dictSet d key v >>= _) _ _ s
 exact wpAny_bind (tN hkey hm hsz fun h' j5 a b c=>wpAny_pure ⟨.none,rfl,wpAny_pure (hQ h' j5 a b c)⟩)
theorem stored_length_le (kvs:List (AK × Value)) (k:AK) (v:Value):(stored kvs k v).length <= kvs.length + 1:=by unfold stored; split <;> simp
theorem AF (i:Inv g H s.heap) {l:Nat} {a:Addr} {it:Bool} {kvs:List (AK × AV)} {k:AK} {key v:Value} {x:AV} (hl:H[l]? = some (.dict it kvs)) (ha:g.μ[l]? = some a) (hk:fW k key = true) (rv:VR P g s.heap x v)
  (hsz:kvs.length < lim) (hap:Apart F g.μ g) {Q:Unit -> Shared -> Prop} (hq:∀ s',After F g.μ g s g (H.set l (.dict it (ae kvs k x))) s' -> Q () s'):wpAny P.M A (setItem (.ref a) key v) Q E s:=by
 obtain ⟨a',e1,e2⟩:=i.objs l _ hl
 rw [ha] at e1; cases e1
 cases e2 with | dict p q r=>
 rename_i es ep
 refine AH (knd:=P.kind) hk p (cP (by rw [← r.length]; omega)) fun h' j5 d e sb=>hq _ ?_
 have hz:∀ b o,g.Z b -> s.heap.get? b = some o -> h'.get? b = some o:=fun b o z e=>(sb.2 b fun w=>i.apart a (List.mem_of_getElem? ha) (w ▸ z)).trans e
 have r':=(r.put k rv).mono (g:=g) (g':=g) (h':=h') (fun _ _ e=>e) (fun _ z=>z) hz
 exact After.set i ha sb (.dict d (fun w=>e (q w)) r')
theorem jd (i:Inv g H s.heap) {l:Nat} {a:Addr} {xs:List AV} (hl:H[l]? = some (.list xs)) (ha:g.μ[l]? = some a):∃ vs,s.heap.PlainList a vs.toArray /\ aC P g s.heap xs vs:=by
 obtain ⟨a',e1,e2⟩:=i.objs l _ hl
 rw [ha] at e1; cases e1
 cases e2 with | list p r=>exact ⟨_,p,r⟩
theorem set_list (i:Inv g H s.heap) {l:Nat} {a:Addr} {h':Heap} {xs:List AV} {vs:List Value} (ha:g.μ[l]? = some a) (sb:Heap.SameBut a s.heap h') (p:h'.PlainList a vs.toArray) (r:aC P g s.heap xs vs) {t:Nat} :
  After F g.μ g s g (H.set l (.list xs)) { s with heap:=h',toks:=t }:=by
 have hz:∀ b o,g.Z b -> s.heap.get? b = some o -> h'.get? b = some o:=fun b o z e=>(sb.2 b fun w=>i.apart a (List.mem_of_getElem? ha) (w ▸ z)).trans e
 exact After.set i ha sb (.list p (r.mono (g:=g) (g':=g) (h':=h') (fun _ _ e=>e) (fun _ z=>z) hz))
theorem D4 (i:Inv g H s.heap) {l:Nat} {a:Addr} {xs:List AV} {x:AV} {v:Value} (hl:H[l]? = some (.list xs)) (ha:g.μ[l]? = some a) (rv:VR P g s.heap x v) (hsz:xs.length < lim) {Q:Value -> Shared -> Prop}
  (hq:∀ s',After F g.μ g s g (H.set l (.list (xs ++ [x]))) s' -> Q .none s'):wpAny P.M A (call (.builtin "list.append") [.ref a,v]) Q E s:=by
 obtain ⟨vs,p,r⟩:=jd i hl ha
 refine wpAny_list_append_plain (hsz:=cP (by have:=r.length; simp; omega)) p fun h' p' sb=>hq _ ?_
 exact set_list (t:=s.toks) i ha sb (by simpa using p') (r.append (.cons rv .nil))
theorem mL {h:Heap} {a:Addr} {items:Array Value} (f:Array Value -> Array Value) (x:h.PlainList a items):(h.update a (Obj.mapSeq f)).PlainList a (f items):=by
 obtain ⟨n,e⟩:=x
 have:Obj.mapSeq f { cls:=.type "list",data:=.seq items n } = { cls:=.type "list",data:=.seq (f items) (if (f items).size == items.size then n else n + 1) }:=rfl
 exact ⟨_,by rw [Heap.get?_update_self _ e (by rw [this]; rfl),this]⟩
theorem DO (i:Inv g H s.heap) {l:Nat} {a b:Addr} {xs ys:List AV} {us:List Value} (hl:H[l]? = some (.list xs)) (ha:g.μ[l]? = some a) (pb:s.heap.PlainList b us.toArray) (rb:aC P g s.heap ys us)
  (hsz:xs.length + ys.length <= lim) {Q:Value -> Shared -> Prop} (hq:∀ s',After F g.μ g s g (H.set l (.list (xs ++ ys))) s' -> Q .none s'):wpAny P.M A (call (.builtin "list.extend") [.ref a,.ref b]) Q E s:=by
 obtain ⟨vs,p,r⟩:=jd i hl ha
 have pq:=p
 obtain ⟨n,e⟩:=p
 obtain ⟨n2,e2⟩:=pb
 have z:vs.toArray.size + us.toArray.size <= sizeLine:=cP (by have:=r.length; have:=rb.length; simp; omega)
 refine call_meets PySem.F.slot_list_extend ⟨_,e,rfl⟩ PySem.F.entry_list_extend (PySem.F.args_list_extend_2 _ _) (AutoSeq1.list_extend_list_list_0 a vs.toArray n b us.toArray n2 (extend_door z) (Nat.le_trans (Nat.le_add_right _ _) z) (Nat.le_succ_of_le z)) ⟨e,e2,?_⟩
 have:=mL (fun x=>x ++ us.toArray) pq
 exact hq _ (set_list (t:=s.toks) i ha (Heap.SameBut.update ..) (by simpa using this) (r.append rb))
theorem yI (i:Inv g H s.heap) {l:Nat} {a:Addr} {xs:List AV} {x:AV} (hl:H[l]? = some (.list xs)) (ha:g.μ[l]? = some a) (hx:xs.getLast? = some x) (hsz:xs.length <= lim) {Q:Value -> Shared -> Prop}
  (hap:Apart F g.μ g) (hq:∀ v s',After F g.μ g s g (H.set l (.list xs.dropLast)) s' -> VR P g s'.heap x v -> Q v s'):wpAny P.M A (call (.builtin "list.pop") [.ref a]) Q E s:=by
 obtain ⟨vs,p,r⟩:=jd i hl ha
 have pq:=p
 obtain ⟨n,e⟩:=p
 obtain ⟨ys,rfl⟩:=List.getLast?_eq_some_iff.mp hx
 have hlen:=r.length
 obtain ⟨y,hy,ry⟩:=r.get (i:=ys.length) (x:=x) (by simp)
 have hsz':vs.length = ys.length + 1:=by simpa using hlen.symm
 have z:vs.toArray.size <= sizeLine:=cP (by simp at hsz ⊢; omega)
 have hy':vs.toArray[vs.toArray.size - 1]? = some y:=by
  rw [List.size_toArray,hsz',Nat.add_sub_cancel,List.getElem?_toArray]; exact hy
 have hdl:vs.toArray.eraseIdxIfInBounds (vs.toArray.size - 1) = vs.dropLast.toArray:=by
  rw [List.eraseIdxIfInBounds_toArray,List.size_toArray,List.eraseIdx_length_sub_one]
 refine call_meets PySem.F.slot_list_pop ⟨_,e,rfl⟩ PySem.F.entry_list_pop (PySem.F.args_list_pop_1 _) (PySem.MeetsSeq.list_pop_last a _ n y hy' z) ⟨e,?_⟩
 have:=mL (fun xs=>xs.eraseIdxIfInBounds (vs.toArray.size - 1)) pq
 rw [hdl] at this
 have rd:aC P g s.heap (ys ++ [x]).dropLast vs.dropLast:=by
  rw [List.dropLast_eq_take,List.dropLast_eq_take,hlen]; exact r.take _
 have af:=set_list (F:=F) (t:=s.toks) i ha (Heap.SameBut.update ..) this rd
 exact hq y _ af (af.vr hap ry)
theorem wR (i:Inv g H s.heap) {l:Nat} {a:Addr} {x:AV} {xs:List AV} {u:Tok} (hl:H[l]? = some (.list (x :: xs))) (ha:g.μ[l]? = some a) (hsz:(x :: xs).length <= lim) {Q:Value -> Shared -> Prop}
  (hap:Apart F g.μ g) (hq:∀ v s',After F g.μ g s g (H.set l (.list xs)) s' -> VR P g s'.heap x v -> Q v s'):wpAny P.M A (call (.builtin "list.pop") [.ref a,.int 0 u]) Q E s:=by
 obtain ⟨vs,p,r⟩:=jd i hl ha
 have pq:=p
 obtain ⟨n,e⟩:=p
 cases r with | cons ry r=>
 rename_i y vs
 have z:(y :: vs).toArray.size <= sizeLine:=cP (by have:=r.length; simp at hsz ⊢; omega)
 have hk:seqIndex? 0 (y :: vs).toArray.size = some 0:=by
  unfold seqIndex?; simp
 refine call_meets PySem.F.slot_list_pop ⟨_,e,rfl⟩ PySem.F.entry_list_pop (PySem.F.args_list_pop_2 _ _) (PySem.MeetsSeq.list_pop_at a _ n 0 u 0 y (by decide) hk (by simp) z) ⟨e,?_⟩
 have:=mL (fun xs=>xs.eraseIdxIfInBounds 0) pq
 have af:=set_list (F:=F) (t:=s.toks) i ha (Heap.SameBut.update ..) (vs:=vs) (by simpa using this) r
 exact hq y _ af (af.vr hap ry)
theorem I7 (i:Inv g H s.heap) {a:AV} {kvs:List (AK × AV)} {k:AK} {u key:Value} (e:dictOf H a = some kvs) (ra:VR P g s.heap a u) (hk:fW k key = true) {Q:Value -> Shared -> Prop}
  (hq:∀ v t,VR P g s.heap ((getKey kvs k).getD .none) v -> Q v { s with toks:=t }):wpAny P.M A (call (.builtin "dict.get") [u,key]) Q E s:=by
 obtain ⟨d,es,ep,rfl,n1,p1,p2⟩:=di i e ra
 refine call_meetsIn PySem.F.slot_dict_get p1.dictOf.typeIs PySem.F.entry_dict_get (PySem.F.args_dict_get_2 _ _) (meets_dict_get P.kind d hk n1) ⟨_,p1.dictOf.mapOf,?_⟩
 refine hq _ _ ?_
 rcases p2.find k with ⟨q1,q2⟩ | ⟨x,w,q1,q2,q3⟩
 ·rw [q1,q2]; exact .none
 ·rw [q1,q2]; exact q3
theorem I6 (i:Inv g H s.heap) {a x:AV} {kvs:List (AK × AV)} {k:AK} {u key dflt:Value} (e:dictOf H a = some kvs) (ra:VR P g s.heap a u) (hk:fW k key = true) (rd:VR P g s.heap x dflt) {Q:Value -> Shared -> Prop}
  (hq:∀ v t,VR P g s.heap ((getKey kvs k).getD x) v -> Q v { s with toks:=t }):wpAny P.M A (call (.builtin "dict.get") [u,key,dflt]) Q E s:=by
 obtain ⟨d,es,ep,rfl,n1,p1,p2⟩:=di i e ra
 refine call_meetsIn PySem.F.slot_dict_get p1.dictOf.typeIs PySem.F.entry_dict_get (PySem.F.args_dict_get_3 _ _ _) (meets_dict_get_default P.kind d hk n1 dflt) ⟨_,p1.dictOf.mapOf,?_⟩
 refine hq _ _ ?_
 rcases p2.find k with ⟨q1,q2⟩ | ⟨y,w,q1,q2,q3⟩
 ·rw [q1,q2]; exact rd
 ·rw [q1,q2]; exact q3
theorem aU.merged {xs ys:List (AK × AV)} {es fs:List (AK × Value)} (r:aU P g s.heap xs es) (q:aU P g s.heap ys fs):aU P g s.heap (putAll xs ys) (PySem.merged es fs) :=
 q.bT (motive:=fun ys fs=>∀ xs es,aU P g s.heap xs es -> aU P g s.heap (putAll xs ys) (PySem.merged es fs)) (fun _ _ r=>r) (fun rx _ ih _ _ r=>ih _ _ (r.put _ rx)) xs es r
end
end
end
end Mine
end
section
open PySem PySem.W PyProof.Rows PySem.Calls
namespace Mine
noncomputable section
section
theorem sub_bytes_tuple:isSubtype (.type "bytes") (.type "tuple") = pure false:=by rw [isSubtype_type]; kernel_rfl
theorem sub_bytes_bytes:isSubtype (.type "bytes") (.type "bytes") = pure true:=by rw [isSubtype_type]; kernel_rfl
theorem look_buffer:typeLookup (.type "bytes") (Str.ofString "__buffer__") = pure (some (.builtin "bytes.__buffer__")):=by rw [typeLookup_type,builtinLookup_eq_fast]; kernel_rfl
theorem look_release:typeLookup (.type "bytes") (Str.ofString "__release_buffer__") = pure none:=by rw [typeLookup_type,builtinLookup_eq_fast]; kernel_rfl
theorem nq (c:Array UInt8) (u:Tok):specialOf (.bytes c u) (Str.ofString "__buffer__") = pure (some (.builtin "bytes.__buffer__")):=by
 show typeLookup (.type "bytes") _ = _
 exact look_buffer
theorem r6 (c:Array UInt8) (u:Tok):specialOf (.bytes c u) (Str.ofString "__release_buffer__") = pure none:=by
 show typeLookup (.type "bytes") _ = _
 exact look_release
theorem tZ (c:Array UInt8) (u:Tok):Builtin.Bytes.slotIsOwn (.bytes c u) "__buffer__" = pure true:=by
 unfold Builtin.Bytes.slotIsOwn
 rw [nq,pure_bind]
 dsimp only
 rw [if_neg (by decide +kernel)]
 have e:("bytes.__buffer__".dropRight ("__buffer__".length + 1)) = "bytes":=by decide +kernel
 rw [e]
 show isSubtype (.type "bytes") (.type "bytes") = _
 exact sub_bytes_bytes
theorem rJ (c:Array UInt8) (u:Tok):Builtin.Bytes.ownRelease (.bytes c u) = pure false:=by
 unfold Builtin.Bytes.ownRelease Builtin.Bytes.slotIsOwn
 rw [r6,pure_bind]
 rfl
theorem yq (id:String) (c:Array UInt8) (u:Tok):Builtin.Bytes.buffer? id (.bytes c u) = pure (some c):=by
 unfold Builtin.Bytes.buffer?
 rw [nq,tZ,rJ]
 rfl
theorem Ep (b c:Array UInt8) (t u:Tok) (k:Bool) (hk:(if (Builtin.Bytes.window b.size none none).snd - (Builtin.Bytes.window b.size none none).fst < c.size then false else b.extract (Builtin.Bytes.window b.size none none).fst.toNat ((Builtin.Bytes.window b.size none none).fst.toNat + c.size) == c) = k) :
  Gives (Builtin.«bytes.startswith» ⟨[.bytes b t,.bytes c u],[]⟩) (.val (.bool k)) :=
 .of_wp fun M A E s Q h=>by
  obtain ⟨hp,g,d,tk,os⟩:=s
  have f1:=sub_bytes_tuple
  show wpAny M A (Builtin.Bytes.tailMatchM .bytes "startswith" false _) _ _ _
  unfold Builtin.Bytes.tailMatchM
  have e0:PySem.selfAndSome (toString Builtin.Bytes.Kind.bytes.name ++ toString "." ++ toString "startswith") "startswith" 1 3 ⟨[Value.bytes b t,Value.bytes c u],[]⟩ = pure (Value.bytes b t,[Value.bytes c u]):=by
   unfold PySem.selfAndSome
   rfl
  show wpAny M A (PySem.selfAndSome (toString Builtin.Bytes.Kind.bytes.name ++ toString "." ++ toString "startswith") "startswith" 1 3 ⟨[Value.bytes b t,Value.bytes c u],[]⟩ >>= _) _ _ _
  rw [e0,pure_bind]
  have e1:Builtin.Bytes.bound? ([Value.bytes c u])[1]? = pure none:=rfl
  have e2:Builtin.Bytes.bound? ([Value.bytes c u])[2]? = pure none:=rfl
  show wpAny M A (Builtin.Bytes.bound? ([Value.bytes c u])[1]? >>= _) _ _ _
  rw [e1,pure_bind]
  show wpAny M A (Builtin.Bytes.bound? ([Value.bytes c u])[2]? >>= _) _ _ _
  rw [e2,pure_bind]
  show wpAny M A (pure b >>= _) _ _ _
  rw [pure_bind]
  show wpAny M A (isSubtype (.type "bytes") (.type "tuple") >>= _) _ _ _
  rw [f1,pure_bind]
  show wpAny M A (Builtin.Bytes.buffer? _ (.bytes c u) >>= _) _ _ _
  rw [yq,pure_bind]
  show wpAny M A (pure _) _ _ _
  refine wpAny_pure ⟨_,rfl,?_⟩
  rw [← hk] at h
  exact h
theorem yz (n:Nat):Builtin.Bytes.window n none none = (0,(n:Int)):=by
 unfold Builtin.Bytes.window
 have:¬ ((n:Int) < 0):=by omega
 simp [this]
theorem toNat_inj {xs ys:List UInt8} (h:xs.map (·.toNat) = ys.map (·.toNat)):xs = ys:=by
 induction xs generalizing ys with
 | nil=>cases ys with | nil=>rfl | cons _ _=>simp at h
 | cons x xs ih=>cases ys with
  | nil=>simp at h
  | cons y ys=>
   simp at h
   rw [UInt8.toNat_inj.mp h.1,ih h.2]
theorem Eo (b c:Array UInt8):(if (Builtin.Bytes.window b.size none none).snd - (Builtin.Bytes.window b.size none none).fst < c.size then false else b.extract (Builtin.Bytes.window b.size none none).fst.toNat ((Builtin.Bytes.window b.size none none).fst.toNat + c.size) == c) =
  lH (b.toList.map (·.toNat)) (c.toList.map (·.toNat)):=by
 rw [yz]
 unfold lH
 simp only [List.length_map,Array.length_toList,← List.map_take]
 have key:(b.extract 0 c.size == c) = decide (b.toList.take c.size = c.toList):=by
  rw [Bool.eq_iff_iff,beq_iff_eq,decide_eq_true_iff,← Array.toList_inj]
  simp
 split
 ·rename_i h
  symm
  rw [decide_eq_false_iff_not]
  intro q
  have:=congrArg List.length q
  simp at this h
  omega
 ·rename_i h
  simp only [Int.toNat_zero,Nat.zero_add]
  rw [key]
  congr 1
  apply propext
  constructor
  ·intro q; rw [q]
  ·intro q; exact toNat_inj q
section
variable {A:Around} {E:Value -> Shared -> Prop} {g:Gh} {s:Shared} {H:Hp} {F:List Addr}
theorem vJ {b c:Array UInt8} {t u:Tok} {Q:Value -> Shared -> Prop} (h:Q (.bool (lH (b.toList.map (·.toNat)) (c.toList.map (·.toNat)))) s) :
  wpAny P.M A (call (.builtin "bytes.startswith") [.bytes b t,.bytes c u]) Q E s :=
 call_gives PySem.W.FB.slot_bytes_startswith (PySem.W.typeIs_bytes _ _ _) PySem.W.FB.entry_bytes_startswith (PySem.W.FB.args_bytes_startswith_2 _ _) (Ep b c t u _ (Eo b c)) h
theorem AD {h:Heap} {xs:List AV} {vs:List Value} {ss:List Nm} (e:strsOf xs = some ss) (r:aC P g h xs vs):StrsAre vs (ss.map toS) :=
 r.bT (motive:=fun xs vs=>∀ ss,strsOf xs = some ss -> StrsAre vs (ss.map toS)) (fun ss e=>by cases e; exact .nil) (fun x _ ih ss e=>bnd e fun n h1 e=>iF e fun q h2 e=>by subst e; obtain ⟨tk,rfl⟩:=x.jX h1; exact .cons _ _ (ih q h2)) ss e
theorem intsAre_of {h:Heap} {xs:List AV} {vs:List Value} {ss:List Int} (e:intsOf xs = some ss) (r:aC P g h xs vs):IntsAre vs ss :=
 r.bT (motive:=fun xs vs=>∀ ss,intsOf xs = some ss -> IntsAre vs ss) (fun ss e=>by cases e; exact .nil) (fun x _ ih ss e=>bnd e fun n h1 e=>iF e fun q h2 e=>by subst e; obtain ⟨tk,rfl⟩:=x.cD h1; exact .cons _ _ (ih q h2)) ss e
theorem E2 (sep:Nm) (ss:List Nm):Str.join (toS sep) (ss.map toS) = toS (jf sep ss):=by
 cases ss with
 | nil=>rfl
 | cons x r=>
  induction r generalizing x with
  | nil=>exact congrArg toS (List.append_nil x).symm
  | cons y r ih=>
   refine (congrArg (toS x ++ toS sep ++ ·) (ih y)).trans ?_
   rw [oM,oM,List.append_assoc]
   show toS (x ++ (sep ++ (y ++ r.flatMap (sep ++ ·)))) = toS (x ++ ((sep ++ y) ++ r.flatMap (sep ++ ·)))
   rw [List.append_assoc sep]
theorem zo (sep:Nm) (r:List Nm):(r.flatMap (sep ++ ·)).length = (r.map (·.length)).sum + r.length * sep.length:=by
 induction r with
 | nil=>exact ((Nat.zero_add _).trans (Nat.zero_mul _)).symm
 | cons y r ih=>
  rw [List.flatMap_cons,List.length_append,List.length_append,ih,Nat.add_comm sep.length,Nat.add_add_add_comm,Nat.add_comm sep.length,← Nat.succ_mul]; rfl
theorem vR (sep:Nm) (ss:List Nm):(ss.map (·.length)).sum + ss.length * sep.length <= (jf sep ss).length + sep.length:=by
 cases ss with
 | nil=>exact Nat.le_trans (Nat.le_of_eq ((Nat.zero_add _).trans (Nat.zero_mul _))) (Nat.zero_le _)
 | cons x r=>
  refine Nat.le_of_eq ?_
  show x.length + (r.map (·.length)).sum + (r.length + 1) * sep.length = (x ++ r.flatMap (sep ++ ·)).length + sep.length
  rw [List.length_append,zo,Nat.succ_mul,Nat.add_assoc,Nat.add_assoc,Nat.add_assoc]
theorem IX (i:Inv g H s.heap) {sep:Nm} {a:AV} {xs:List AV} {ss:List Nm} {u:Value} {t:Tok} (e:listOf H a = some xs) (ra:VR P g s.heap a u) (es:strsOf xs = some ss) (hsz:(jf sep ss).length <= 4096) (hsep:sep.length <= 4096) (hl:ss.length <= 4096)
  {Q:Value -> Shared -> Prop} (h:∀ t k,Q (.str (toS (jf sep ss)) t) { s with toks:=k }):wpAny P.M A (call (.builtin "str.join") [.str (toS sep) t,u]) Q E s:=by
 obtain ⟨ad,vs,rfl,p1,p2⟩:=dR i e ra
 refine PyProof.Rows.join_list (ys:=ss.map toS) p1 (by simpa using AD es p2) ?_ fun t' k=>?_
 ·rw [show (ss.map toS).map (·.length) = ss.map (·.length) from by simp [lz],List.length_map,lz]
  exact Nat.le_trans (vR sep ss) (Nat.le_trans (Nat.add_le_add hsz hsep) (by decide))
 ·have:Txt.join (toS sep) (ss.map toS) = toS (jf sep ss):=(PySem.StrLaws.glued_eq_join _ _).trans (E2 sep ss)
  rw [this]; exact h t' k
theorem J9 (i:Inv g H s.heap) {a:AV} {xs:List AV} {u:Value} (e:listOf H a = some xs) (ra:VR P g s.heap a u) (hsz:xs.length <= lim)
  {Q:Value -> Shared -> Prop} (h:∀ t k,Q (.int xs.length t) { s with toks:=k }):wpAny P.M A (call (.builtin "len") [u]) Q E s:=by
 obtain ⟨ad,vs,rfl,p1,p2⟩:=dR i e ra
 have hl:=p2.length
 refine call_len_list p1 (by simp only [List.size_toArray]; unfold lim at hsz; omega) ?_
 have:=h (s.toks + 1) (s.toks + 1 + 1)
 simpa [hl] using this
theorem Mb {n:Int} {t:Tok} {Q:Value -> Shared -> Prop} (h:∀ t k,Q (.int n.natAbs t) { s with toks:=k }):wpAny P.M A (call (.builtin "abs") [.int n t]) Q E s:=by
 refine call_abs_int fun u tk=>?_
 have e:(if n < 0 then -n else n) = (n.natAbs:Int):=by split <;> omega
 rw [e]; exact h u tk
theorem JM {n:Nat} {t:Tok} {Q:Value -> Shared -> Prop} (h:∀ t k,Q (.int n t) { s with toks:=k }):wpAny P.M A (call (.builtin "ord") [.str (toS [n]) t]) Q E s :=
 PySem.P.ord_of_char (h _ _)
theorem LB {n:Int} {t:Tok} (h1:32 <= n) (h2:n < 127) {Q:Value -> Shared -> Prop} (h:∀ t k,Q (.str (toS [n.toNat]) t) { s with toks:=k }):wpAny P.M A (call (.builtin "chr") [.int n t]) Q E s :=
 PySem.P.chr_of_int (by simp; omega) (h _ _)
theorem FT (i:Inv g H s.heap) {a:AV} {xs:List AV} {ns:List Int} {u:Value} (e:listOf H a = some xs) (ra:VR P g s.heap a u) (en:intsOf xs = some ns) (hsz:ns.length <= lim) (hr:ns.all (fun n=>decide (0 <= n) && decide (n < 256)) = true) (hh:A.handled = none)
  {Q:Value -> Shared -> Prop} (h:∀ h' t k,(∀ b o,s.heap.get? b = some o -> h'.get? b = some o) -> Q (.bytes (byteArr ns) t) { s with heap:=h',toks:=k }):wpAny P.M A (call (.type "bytes") [u]) Q E s:=by
 obtain ⟨ad,vs,rfl,p1,p2⟩:=dR i e ra
 have hi:=intsAre_of en p2
 refine call_bytes_ints p1 hi (fun n hn=>?_) (cP (by rw [hi.length]; exact hsz)) hh h
 have:=List.all_eq_true.mp hr n hn
 simpa using this
theorem BP {ns:List Int} (hr:ns.all (fun n=>decide (0 <= n) && decide (n < 256)) = true) {h:Heap} {t:Tok}:VR P g h (.bytes (ns.map (·.toNat))) (.bytes (byteArr ns) t):=by
 have e:(byteArr ns).toList.map (·.toNat) = ns.map (·.toNat):=by
  unfold byteArr
  rw [List.map_map]
  refine List.map_congr_left fun n hn=>?_
  have:=List.all_eq_true.mp hr n hn
  simp at this ⊢
  omega
 rw [← e]; exact .bytes _ _
theorem Bg {vs:List Value} {ns:List Int} (h:IntsAre vs ns):∃ xs:Array (Int × Tok),intItems xs = vs.toArray /\ xs.toList.map (·.1) = ns:=by
 induction h with
 | nil=>exact ⟨#[],by simp [intItems],rfl⟩
 | cons n t _ ih=>
  obtain ⟨xs,e1,e2⟩:=ih
  refine ⟨((n,t) :: xs.toList).toArray,?_,by simp [e2]⟩
  have:(intItems xs).toList = _:=congrArg Array.toList e1
  simp [intItems] at this ⊢
  exact this
theorem pJ (f:Nat -> Int):∀ n:Nat,preSum f (n + 1) = f 0 + preSum (fun i=>f (i + 1)) n
 | 0=>by simp [preSum]
 | n + 1=>by
  have:=pJ f n
  simp only [preSum] at this ⊢
  omega
theorem qN:∀ l:List (Int × Tok),preSum (fun i=>(l[i]?.map (·.1)).getD 0) l.length = (l.map (·.1)).sum
 | []=>rfl
 | p :: l=>by
  rw [List.length_cons,pJ]
  have:=qN l
  simp at this ⊢
  exact this
theorem Jx (i:Inv g H s.heap) {a:AV} {xs:List AV} {ns:List Int} {u:Value} (e:listOf H a = some xs) (ra:VR P g s.heap a u) (en:intsOf xs = some ns) (hh:A.handled = none)
  {Q:Value -> Shared -> Prop} (h:∀ h' t k,(∀ b o,s.heap.get? b = some o -> h'.get? b = some o) -> Q (.int ns.sum t) { s with heap:=h',toks:=k }):wpAny P.M A (call (.builtin "sum") [u]) Q E s:=by
 obtain ⟨ad,vs,rfl,p1,p2⟩:=dR i e ra
 obtain ⟨ys,e1,e2⟩:=Bg (intsAre_of en p2)
 refine sum_intListG (xs:=ys) hh (by rw [e1]; exact p1) fun h' tk t' hk=>?_
 have:preSum (numAt ys) ys.size = ns.sum:=by
  rw [← e2,← qN]
  simp [numAt]
  rfl
 rw [this]; exact h h' t' tk hk
theorem qC {c:Nm} {C d a:Addr} {es:List (AK × Value)} {ep:Nat} {h:Heap} (e:h.get? a = some (instObj C d)) (dd:h.DictAt P.kind d es ep) :
  ∃ od,InstAt h a (instObj C d) C (some od) /\ ∃ xs,od.ExactDict /\ od.data = .dict xs ep /\ PySem.KeysOf P.kind xs /\ Pairs P.kind xs.toList es:=by
 obtain ⟨od,xs,ho,hx,hd,hk,hp,hn⟩:=dd
 exact ⟨od,⟨e,rfl,rfl,ho⟩,xs,hx,hd,hk,hp⟩
end
end
namespace GL
noncomputable def Gq (A:PySem.Around) (E:PySem.Value -> PySem.Shared -> Prop) (g:Mine.Gh) (s:PySem.Shared) (H:Mine.Hp) (ty:Mine.Ty) (c:PySem.Value) (b:Bool) (Q:PySem.Value -> PySem.Shared -> Prop):Prop:=∀ (T:oN P) (i:Inv g H s.heap) (a:AV) (u:Value) (hs:sound H a = true) (e:iU ty a = b) (ra:VR P g s.heap a u) (hc:uP P ty = some c) (h:∀ tk,Q (.bool b) { s with toks:=tk }),wpAny P.M A (call (.builtin "isinstance") [u,c]) Q E s
noncomputable def kq:PySem.Around × (PySem.Value -> PySem.Shared -> Prop) × Mine.Gh × PySem.Shared × Mine.Hp × Mine.Ty × PySem.Value × Bool × (PySem.Value -> PySem.Shared -> Prop):=cx fun p=>Gq p.1 p.2.1 p.2.2.1 p.2.2.2.1 p.2.2.2.2.1 p.2.2.2.2.2.1 p.2.2.2.2.2.2.1 p.2.2.2.2.2.2.2.1 p.2.2.2.2.2.2.2.2
noncomputable def A:=kq.1
noncomputable def E:=kq.2.1
noncomputable def g:=kq.2.2.1
noncomputable def s:=kq.2.2.2.1
noncomputable def H:=kq.2.2.2.2.1
noncomputable def ty:=kq.2.2.2.2.2.1
noncomputable def c:=kq.2.2.2.2.2.2.1
noncomputable def b:=kq.2.2.2.2.2.2.2.1
noncomputable def Q:=kq.2.2.2.2.2.2.2.2
theorem tq:Gq A E g s H ty c b Q:=by
 intro T i a u hs e ra hc h
 have X:=i.oU T
 have fin:∀ {t:String} {H':Heap -> Prop},KitX P.K u (.type t) H' -> H' s.heap -> t ∈ tX -> sY t ty = b -> u ≠ .builtin "__main__.__loader__#opaque" -> wpAny P.M A (call (.builtin "isinstance") [u,c]) Q E s :=
  fun Z p m hb hx=>kia_one Z X p (by rw [T.isin _ m _ _ hc,hb]) hx h
 have lst:∀ {items:Array Value} {ad:Addr},s.heap.IsList ad items -> KitAt ad "list" s.heap:=fun ⟨o,ho,hc,_⟩=>⟨o,ho,hc⟩
 have Ox:∀ {es:List (AK × Value)} {ep:Nat} {ad:Addr},s.heap.DictAt P.kind ad es ep -> KitAt ad "dict" s.heap:=fun ⟨o,_,ho,hc,_⟩=>⟨o,ho,hc.1⟩
 have hb:∀ t,iU ty a = sY t ty -> sY t ty = b:=fun t w=>by rw [← w]; exact e
 cases ra with
 | none=>exact fin kitx_none trivial (by decide) (hb _ (by cases ty <;> rfl)) (by simp)
 | bool b=>exact fin kitx_bool trivial (by decide) (hb _ (by cases ty <;> rfl)) (by simp)
 | int n t=>exact fin kitx_int trivial (by decide) (hb _ (by cases ty <;> rfl)) (by simp)
 | str x t=>exact fin kitx_str trivial (by decide) (hb _ (by cases ty <;> rfl)) (by simp)
 | bytes x t=>exact fin kitx_bytes trivial (by decide) (hb _ (by cases ty <;> rfl)) (by simp)
 | lst hl=>
  obtain ⟨xs,hx⟩:=Option.isSome_iff_exists.1 hs
  obtain ⟨ad,vs,e',p,_⟩:=iA i (a:=.lst _) hx (.lst hl)
  cases e'
  exact fin kitx_list (lst (aI p)) (by decide) (hb _ (by cases ty <;> rfl)) (by simp)
 | dct hl=>
  obtain ⟨xs,hx⟩:=Option.isSome_iff_exists.1 hs
  obtain ⟨ad,es,ep,e',_,p,_⟩:=di i (a:=.dct _) hx (.dct hl)
  cases e'
  exact fin kitx_dict (Ox p) (by decide) (hb _ (by cases ty <;> rfl)) (by simp)
 | tup z p r=>exact fin kitx_tuple (let ⟨o,ho,hc,_⟩:=p; ⟨o,ho,hc⟩) (by decide) (hb _ (by cases ty <;> rfl)) (by simp)
 | ah z p r=>exact fin kitx_list (lst (aI p)) (by decide) (hb _ (by cases ty <;> rfl)) (by simp)
 | aj n z p r=>exact fin kitx_dict (Ox p) (by decide) (hb _ (by cases ty <;> rfl)) (by simp)
 | inst z z' hC o d r=>
  rename_i cn C dd ad fs es ep
  obtain ⟨od,I,_⟩:=qC (c:=cn) o d
  have TC:=T.cls _ _ hC
  refine kia_one (kitx_own (od:=od) (ox:=instObj C dd) TC.plain TC.hasDict TC.cls T.Lz T.FN TC.obj) X I ?_ (by simp) h
  rw [TC.isin _ _ hc,← e]
  cases ty <;> rfl
end GL
section
section
variable {A:Around} {E:Value -> Shared -> Prop} {g:Gh} {s:Shared} {H:Hp} {F:List Addr}
theorem IZ (T:oN P) (i:Inv g H s.heap) {ty:Ty} {a:AV} {u c:Value} {b:Bool} (hs:sound H a = true) (e:iU ty a = b) (ra:VR P g s.heap a u) (hc:uP P ty = some c) {Q:Value -> Shared -> Prop} (h:∀ tk,Q (.bool b) { s with toks:=tk }):wpAny P.M A (call (.builtin "isinstance") [u,c]) Q E s :=
 bD (p:=fun p=>GL.Gq p.1 p.2.1 p.2.2.1 p.2.2.2.1 p.2.2.2.2.1 p.2.2.2.2.2.1 p.2.2.2.2.2.2.1 p.2.2.2.2.2.2.2.1 p.2.2.2.2.2.2.2.2) GL.tq (A,E,g,s,H,ty,c,b,Q) T i a u hs e ra hc h
end
end
end
end Mine
end
section
open PySem PySem.W PyProof.Rows PySem.Calls
namespace Mine
noncomputable section
section
theorem ug:typeLookup (.type "list") (Str.ofString "keys") = pure none:=by rw [typeLookup_type,builtinLookup_eq_fast]; kernel_rfl
section
variable {prog:Program} {w:World} {A:Around} {E:Value -> Shared -> Prop} {s:Shared}
theorem yO {a:Addr} {xs:Array Value} {k:Nat} {Q:Option Value -> Shared -> Prop} (hx:s.heap.get? a = some { cls:=.type "list",data:=.seq xs k }) (hA:A.handled = none)
  (h:∀ h' tk,(∀ b o,s.heap.get? b = some o -> h'.get? b = some o) -> Q none { s with heap:=h',toks:=tk }):wpAny (model prog w) A (getAttr? (.ref a) (Str.ofString "keys")) Q E s:=by
 obtain ⟨hp,g,d,tk,os⟩:=s
 have hT:∀ tk',(⟨hp,g,d,tk',os⟩:Shared).TypeIs (.ref a) "list":=fun _=>⟨_,hx,rfl⟩
 have f1:=sub_AttributeError
 have f3:=F.slot_list_getattribute.lookup
 have f4:=F.slot_list_getattribute.bind (.ref a)
 have f5:=am_list_getattr_none
 unfold getAttr? getAttrBy? getAttrBy
 refine wpAny_bind (wpAny_mkText (wpAny_bind (wpAny_attempt (wpAny_holding (wpAny_bind (wpAny_typeOf (hT _) ?_))))))
 rw [f3,pure_bind]
 show wpAny _ _ (getAttrByItsOwn _ _ _ _ _ _) _ _ _
 unfold getAttrByItsOwn
 refine wpAny_bind (m:=hookBefore (.type "list")) (wpAny_pure ?_)
 refine wpAny_bind (wpAny_attempt (wpAny_holding ?_))
 unfold callGetattribute
 rw [if_neg (by simp)]
 unfold boundAndCalled
 rw [f4,pure_bind]
 refine call_meets F.slot_list_getattribute (hT _) am_entry_list_getattribute (F.args_list_getattribute_2 _ _)
  (meets_getattribute_miss_list a xs k #[] (Str.ofString "keys") _ ug (by decide +kernel) (by decide +kernel)) ⟨hx,hA,fun h' tk' e hx'=>?_⟩
 obtain ⟨t',u',he⟩:=hx'.there
 show wpAny _ _ (getattributeRaised _ _ _ _ _ _ _) _ _ _
 unfold getattributeRaised
 refine wpAny_bind (wpAny_isInstance ⟨_,he,rfl⟩ f1 ?_)
 rw [if_pos rfl]
 refine wpAny_bind (m:=hookBehind (.type "list") none) (show wpAny _ _ (typeLookup (.type "list") (Str.ofString "__getattr__")) _ _ _ from wpAny_of_eq f5 ?_)
 show wpAny _ _ (attributeErrorLeaves _ _ _ false false) _ _ _
 unfold attributeErrorLeaves
 rw [if_pos (by decide)]
 refine wpAny_throw ?_
 refine wpAny_bind (wpAny_isInstance ⟨_,he,rfl⟩ f1 ?_)
 rw [if_pos rfl]
 exact wpAny_pure (h _ _ hx'.keeps)
theorem vz:entryFor table "dict.update.loop" = some Builtin.«dict.update.loop»:=entryFor_of_tree (by kernel_rfl)
theorem mG:plainId "dict.update.loop" = true:=by decide +kernel
inductive fZ (h:Heap):List Value -> List (AK × Value) -> Prop
 | nil:fZ h [] []
 | cons {a:Addr} {k:AK} {key v:Value} {vs:List Value} {ps:List (AK × Value)}:IsTup h a #[key,v] -> fW k key = true -> fZ h vs ps -> fZ h (.ref a :: vs) ((k,v) :: ps)
theorem fZ.keeps {h h':Heap} {D it:Addr} (hD:∀ items,¬ IsTup h D items) (hit:∀ items,¬ IsTup h it items) (k:∀ b o,b ≠ D -> b ≠ it -> h.get? b = some o -> h'.get? b = some o) {vs:List Value} {ps:List (AK × Value)} (r:fZ h vs ps):fZ h' vs ps:=by
 induction r with
 | nil=>exact .nil
 | cons t e r ih=>exact .cons (ku t fun o=>k _ o (fun q=>hD _ (q ▸ t)) fun q=>hit _ (q ▸ t)) e ih
theorem wX {h:Heap} {D:Addr} {kvs:List (AK × Value)} {knd:PySem.KeyKind prog w AK} (d:h.DictOf knd D kvs) (items:Array Value):¬ IsTup h D items:=fun ⟨o,ho,hc,_⟩=>by
 obtain ⟨o',_,_,ho',hx,_⟩:=d
 rw [ho] at ho'; cases ho'
 exact absurd (hx.1.symm.trans hc) (by decide)
theorem pL {h:Heap} {it l:Addr} {i:Nat} (d:h.IsListIter it l i) (items:Array Value):¬ IsTup h it items:=fun ⟨o,ho,hc,_⟩=>by
 obtain ⟨o',ho',hx,_⟩:=d
 rw [ho] at ho'; cases ho'
 exact absurd (hx.symm.trans hc) (by decide)
theorem AQ {D it l:Addr} {vs:List Value} (hh:A.handled = none) (hsz:∀ n,n <= lim -> n <= sizeLine) (Q3:D ≠ l) (QY:it ≠ l) (hDI:D ≠ it) :
  ∀ (rest:List Value) (ps:List (AK × Value)) (i:Nat) (tk:Tok) (acc:List (AK × Value)) (s:Shared) (R:Result -> Shared -> Prop),vs.drop i = rest -> s.heap.IsList l vs.toArray -> s.heap.IsListIter it l i -> s.heap.DictOf (my prog w) D acc -> fZ s.heap rest ps ->
   acc.length + ps.length <= lim ->
   (∀ h' t,h'.DictOf (my prog w) D (PySem.merged acc ps) -> (∀ b o,b ≠ D -> b ≠ it -> s.heap.get? b = some o -> h'.get? b = some o) -> R (.ok (.ret .none)) { s with heap:=h',toks:=t }) ->
   codeAny (model prog w) A (.builtin "dict.update.loop" ⟨[.ref D,.ref it,.int i tk,.none],[]⟩) R s:=by
 intro rest
 induction rest with
 | nil=>
  intro ps i tk acc s R hd hl hit hD hp hz hR
  cases hp
  refine codeAny_builtin vz ?_
  rw [Around.under_plainId mG _]
  show wpAny _ _ (pyNext (.ref it) >>= _) _ _ _
  have hn:vs.toArray[i]? = none:=by
   rw [List.getElem?_toArray]; exact List.getElem?_eq_none (List.drop_eq_nil_iff.mp hd)
  refine wpAny_bind (wpAny_pyNext_list_end (A:=A.in1) hh hit hl hn fun h' hk=>?_)
  show wpAny _ _ (Builtin.Dict.addKeywords D [] >>= fun _=>ret .none) _ _ _
  refine wpAny_bind (wpAny_pure (wpAny_pure (hR h' s.toks ?_ fun b o _ h2 e=>hk b o h2 e)))
  exact hD.extBut hk hDI
 | cons v rest ih=>
  intro ps i tk acc s R hd hl hit hD hp hz hR
  cases hp with | cons t ek r=>
  rename_i a k key u ps
  refine codeAny_builtin vz ?_
  rw [Around.under_plainId mG _]
  show wpAny _ _ (pyNext (.ref it) >>= _) _ _ _
  have hlt:i < vs.length:=Nat.lt_of_not_le fun q=>by rw [List.drop_eq_nil_iff.mpr q] at hd; cases hd
  have hv:vs[i] = .ref a:=by
   have:=congrArg List.head? hd
   rw [List.head?_drop] at this
   simpa [hlt] using this
  have hx:vs.toArray[i]? = some (.ref a):=by simp [hlt,hv]
  have hd':vs.drop (i + 1) = rest:=by
   rw [List.drop_eq_getElem_cons hlt] at hd
   exact (List.cons.inj hd).2
  refine wpAny_bind (wpAny_pyNext_list_item hit hl hx fun h₁ O9 hs₁=>?_)
  have t₁:IsTup h₁ a #[key,u]:=ku t fun o e=>(hs₁.2 a fun q=>pL hit _ (q ▸ t)).trans e
  have QZ:h₁.DictOf (my prog w) D acc:=hD.sameBut hs₁ hDI
  refine wpAny_bind (wpAny_holding ?_)
  refine wpAny_bind (wpAny_tryCatch ?_)
  obtain ⟨ot,N1,hct,nt,hdt⟩:=t₁
  unfold Builtin.Dict.pairItems
  refine wpAny_bind (wpAny_typeOf (T:="tuple") ⟨ot,N1,hct⟩ ?_)
  rw [if_pos (by decide)]
  refine wpAny_bind (wpAny_seqItems N1 hdt (wpAny_pure ?_))
  show wpAny _ _ (holding [key,u] (dictSet D key u)) _ _ _
  refine wpAny_holding (wpAny_dictSet_pairs (knd:=my prog w) (hsz:=hsz _ (by simp at hz; omega)) ek QZ fun h₂ K5 hs₂=>?_)
  have kk:∀ b o,b ≠ D -> b ≠ it -> s.heap.get? b = some o -> h₂.get? b = some o:=fun b o h1 h2 e=>(hs₂.2 b h1).trans ((hs₁.2 b h2).trans e)
  refine wpAny_pure ⟨plainId_quiet mG _,?_⟩
  have hl₁:h₁.IsList l vs.toArray:=hl.extBut hs₁.extBut (Ne.symm QY)
  have Pd:h₂.IsListIter it l (i + 1):=by
   obtain ⟨o,e1,e2⟩:=O9
   exact ⟨o,(hs₂.2 it (Ne.symm hDI)).trans e1,e2⟩
  refine ih ps (i + 1) 0 (stored acc k u) _ R hd' (hl₁.extBut hs₂.extBut (Ne.symm Q3)) Pd K5 (r.keeps (wX hD) (pL hit) kk) ?_ fun h' t' a1 a2=>?_
  ·have:=stored_length_le acc k u
   simp at hz; omega
  ·exact hR h' t' a1 fun b o h1 h2 e=>a2 b o h1 h2 (kk b o h1 h2 e)
end
section
variable {A:Around} {E:Value -> Shared -> Prop} {g:Gh} {s:Shared} {H:Hp} {F:List Addr}
end
end
namespace GK
noncomputable def Gq (A:PySem.Around) (E:PySem.Value -> PySem.Shared -> Prop) (s:PySem.Shared) (l:PySem.Addr) (vs:List PySem.Value) (ps:List (Mine.AK × PySem.Value)) (Q:PySem.Value -> PySem.Shared -> Prop):Prop:=∀ (hh:A.handled = none) (hl:s.heap.PlainList l vs.toArray) (hp:fZ s.heap vs ps) (hz:ps.length <= lim) (h:∀ h' tk,h'.DictOf P.kind s.heap.objs.size (PySem.merged [] ps) -> (∀ b o,s.heap.get? b = some o -> h'.get? b = some o) -> Q (.ref s.heap.objs.size) { s with heap:=h',toks:=tk }),wpAny P.M A (call (.type "dict") [.ref l]) Q E s
noncomputable def kq:PySem.Around × (PySem.Value -> PySem.Shared -> Prop) × PySem.Shared × PySem.Addr × List PySem.Value × List (Mine.AK × PySem.Value) × (PySem.Value -> PySem.Shared -> Prop):=cx fun p=>Gq p.1 p.2.1 p.2.2.1 p.2.2.2.1 p.2.2.2.2.1 p.2.2.2.2.2.1 p.2.2.2.2.2.2
noncomputable def A:=kq.1
noncomputable def E:=kq.2.1
noncomputable def s:=kq.2.2.1
noncomputable def l:=kq.2.2.2.1
noncomputable def vs:=kq.2.2.2.2.1
noncomputable def ps:=kq.2.2.2.2.2.1
noncomputable def Q:=kq.2.2.2.2.2.2
theorem tq:Gq A E s l vs ps Q:=by
 intro hh hl hp hz h
 have hlt:l < s.heap.objs.size:=let ⟨_,e⟩:=hl; Heap.lt_size e
 refine callType_codes (Q₁:=fun obj s₁=>obj = .ref s.heap.objs.size /\ s₁ = { s with heap:=s.heap.push { cls:=.type "dict",data:=.dict #[] } }) F.kt_called_dict (F.kt_typeCall_dict_1 _) F.entry_dict_init (kt_code_dict_new _ ⟨rfl,rfl⟩) ?_
 rintro obj s₁ ⟨rfl,rfl⟩
 have hnew:(s.heap.push { cls:=.type "dict",data:=.dict #[] }).DictOf P.kind s.heap.objs.size []:=Heap.DictOf.new s.heap
 have hl₁:(s.heap.push { cls:=.type "dict",data:=.dict #[] }).PlainList l vs.toArray:=let ⟨n,e⟩:=hl; ⟨n,Heap.get?_push_of_some _ e⟩
 refine ⟨hnew.typeIs,F.args_dict_init_2 _ _,?_⟩
 unfold Builtin.«dict.__init__»
 refine wpAny_bind ?_
 unfold Builtin.Dict.selfAndRest
 refine wpAny_bind (wpAny_notOrdered_dict hnew.typeIs ?_)
 show wpAny _ _ (pure (s.heap.objs.size,[Value.ref l])) _ _ _
 refine wpAny_pure ?_
 show wpAny _ _ (Builtin.Dict.updateFrom "dict.__init__" s.heap.objs.size (.ref l) [] .none) _ _ _
 unfold Builtin.Dict.updateFrom
 obtain ⟨n,el⟩:=id hl₁
 refine wpAny_bind (wpAny_typeOf (T:="list") ⟨_,el,rfl⟩ ?_)
 rw [if_pos (by decide)]
 refine wpAny_bind (yO el hh fun h₂ tk₂ k₂=>?_)
 rw [if_pos (by decide)]
 have hl₂:h₂.IsList l vs.toArray:=⟨_,k₂ _ _ el,rfl,n,rfl⟩
 refine wpAny_bind (wpAny_rule (wpAny_bind (wpAny_pyIter_list hl₂ ?_)))
 have hit:(h₂.push { cls:=.type "list_iterator",data:=.fields #[.ref l,.int 0 0] }).IsListIter h₂.objs.size l 0:=⟨_,Heap.get?_push_size _ rfl,rfl,rfl⟩
 have K5:(h₂.push { cls:=.type "list_iterator",data:=.fields #[.ref l,.int 0 0] }).DictOf P.kind s.heap.objs.size []:=by
  obtain ⟨o,es,ep,ho,r⟩:=hnew
  exact ⟨o,es,ep,Heap.get?_push_of_some _ (k₂ _ _ ho),r⟩
 have O7:l < h₂.objs.size:=Heap.lt_size (k₂ _ _ el)
 have KW:s.heap.objs.size < h₂.objs.size:=by
  obtain ⟨o,es,ep,ho,r⟩:=hnew
  exact Heap.lt_size (k₂ _ _ ho)
 have kp:∀ b o,s.heap.get? b = some o -> (h₂.push { cls:=.type "list_iterator",data:=.fields #[.ref l,.int 0 0] }).get? b = some o:=fun b o e=>
  Heap.get?_push_of_some _ (k₂ _ _ (Heap.get?_push_of_some _ e))
 refine wpAny_pure ⟨plainId_quiet mG _,?_⟩
 refine AQ (prog:=P.prog) (w:=P.w) (A:=A.in1) hh (fun n=>cP) (Nat.ne_of_gt hlt) (Nat.ne_of_gt O7) (Nat.ne_of_lt KW) vs ps 0 0 [] _ _ rfl ?_ ?_ ?_ ?_ (by simpa using hz) fun h' t d k=>?_
 ·exact ⟨_,Heap.get?_push_of_some _ (k₂ _ _ el),rfl,n,rfl⟩
 ·exact hit
 ·exact K5
 ·exact hp.keeps (D:=s.heap.objs.size) (it:=s.heap.objs.size) (fun _ ⟨_,e,_⟩=>aX e (ba _)) (fun _ ⟨_,e,_⟩=>aX e (ba _)) fun b o _ _ e=>kp b o e
 ·refine ⟨rfl,h h' t d fun b o e=>?_⟩
  have h1:b < s.heap.objs.size:=Heap.lt_size e
  exact k b o (Nat.ne_of_lt h1) (Nat.ne_of_lt (Nat.lt_trans h1 KW)) (kp b o e)
end GK
section
section
variable {A:Around} {E:Value -> Shared -> Prop} {g:Gh} {s:Shared} {H:Hp} {F:List Addr}
theorem tR {l:Addr} {vs:List Value} {ps:List (AK × Value)} {Q:Value -> Shared -> Prop} (hh:A.handled = none) (hl:s.heap.PlainList l vs.toArray) (hp:fZ s.heap vs ps) (hz:ps.length <= lim) (h:∀ h' tk,h'.DictOf P.kind s.heap.objs.size (PySem.merged [] ps) -> (∀ b o,s.heap.get? b = some o -> h'.get? b = some o) -> Q (.ref s.heap.objs.size) { s with heap:=h',toks:=tk }):wpAny P.M A (call (.type "dict") [.ref l]) Q E s :=
 bD (p:=fun p=>GK.Gq p.1 p.2.1 p.2.2.1 p.2.2.2.1 p.2.2.2.2.1 p.2.2.2.2.2.1 p.2.2.2.2.2.2) GK.tq (A,E,s,l,vs,ps,Q) hh hl hp hz h
theorem AR {xs:List AV} {vs:List Value} {ps:List (AK × AV)} (e:pairsOf xs = some ps) (r:aC P g s.heap xs vs):∃ qs,fZ s.heap vs qs /\ aU P g s.heap ps qs :=
 r.bT (motive:=fun xs vs=>∀ ps,pairsOf xs = some ps -> ∃ qs,fZ s.heap vs qs /\ aU P g s.heap ps qs) (fun ps e=>by cases e; exact ⟨[],.nil,.nil⟩) (fun r _ ih ps e=>bnd e fun p h1 e=>by
  obtain ⟨us,a,rfl,z,t,rr⟩:=r.fV h1
  cases p with
  | nil=>exact gG e
  | cons k p=>cases p with
   | nil=>exact gG e
   | cons v p=>cases p with
    | cons _ _=>exact gG e
    | nil=>
     refine bnd e fun k' h2 e=>iF e fun r' h3 e=>?_
     subst e
     obtain ⟨qs,q1,q2⟩:=ih _ h3
     obtain ⟨_,_,rfl,rk,rr⟩:=rr.hd
     obtain ⟨_,_,rfl,rv,rr⟩:=rr.hd
     cases rr.emp
     exact ⟨_,.cons t (iB h2 rk) q1,.cons rv q2⟩) ps e
theorem aW {α:Type} {o:Option α} {k:α -> Prop} {C:Prop} (e:Is o k) (h:∀ a,o = some a -> k a -> C):C:=by cases o with | none=>exact e.elim | some a=>exact h a rfl e
noncomputable abbrev nN (F W:List Addr) (g:Gh) (s:Shared) (p:AP) (Q:Value -> Shared -> Prop):Prop:=∀ a H' v g' s',p a H' -> After F W g s g' H' s' -> VR P g' s'.heap a v -> Q v s'
theorem vH {fz it:Bool} {kvs:List (AK × AV)} {es:List (AK × Value)} {ep:Nat} {p:AP} {W:List Addr} {g1:Gh} {H1:Hp} {s':Shared} {d:Addr} {Q:Value -> Shared -> Prop} (e:qk fz it kvs H1 p) (af:After F W g s g1 H1 s') (hd:s'.heap.DictAt P.kind d es ep)
  (hit:it = true -> ep = es.length) (hn:s.heap.get? d = none) (hμ:d ∉ g1.μ) (hz:¬ g1.Z d) (hs:d ≠ sysModules) (r:aU P g1 s'.heap kvs es) (q:nN F W g s p Q):Q (.ref d) s':=by
 have hl:∃ o,s'.heap.get? d = some o:=let ⟨o,_,e,_⟩:=hd; ⟨o,e⟩
 cases fz with
 | true=>exact q _ _ _ (g1.freeze d) _ e (af.freeze hl hn hμ) (.aj (beq_false_of_ne hs) (.inr rfl) hd r.freeze)
 | false=>exact q _ _ _ (g1.add d) _ e (af.add hl hn hμ hz hs (.dict hd hit r)) (.dct (af.inv.rM d))
theorem qj {fz it:Bool} {kvs:List (AK × AV)} {es:List (AK × Value)} {ep:Nat} {p:AP} {W:List Addr} {s':Shared} {d:Addr} {Q:Value -> Shared -> Prop} (e:qk fz it kvs H p) (af:After F W g s g H s') (hd:s'.heap.DictAt P.kind d es ep)
  (hit:it = true -> ep = es.length) (hn:s.heap.get? d = none) (i:Inv g H s.heap) (r:aU P g s'.heap kvs es) (q:nN F W g s p Q):Q (.ref d) s':=vH e af hd hit hn (i.fresh hn).1 (i.fresh hn).2 (i.pM hn) r q
theorem mW {fz:Bool} {xs:List AV} {vs:List Value} {p:AP} {W:List Addr} {s':Shared} {d:Addr} {Q:Value -> Shared -> Prop} (e:mw fz xs H p) (af:After F W g s g H s') (hd:s'.heap.PlainList d vs.toArray)
  (hn:s.heap.get? d = none) (i:Inv g H s.heap) (r:aC P g s'.heap xs vs) (q:nN F W g s p Q):Q (.ref d) s':=by
 obtain ⟨hμ,hz⟩:=i.fresh hn
 have hl:∃ o,s'.heap.get? d = some o:=let ⟨n,e⟩:=hd; ⟨_,e⟩
 cases fz with
 | true=>exact q _ _ _ (g.freeze d) _ e (af.freeze hl hn hμ) (.ah (.inr rfl) hd r.freeze)
 | false=>exact q _ _ _ (g.add d) _ e (af.add hl hn hμ hz (i.pM hn) (.list hd r)) (.lst (i.rM d))
theorem zv (i:Inv g H s.heap) {fz:Bool} {a:AV} {p:AP} {u:Value} (e:gV (.dict fz) a H p) (ra:VR P g s.heap a u) (hh:A.handled = none) {Q:Value -> Shared -> Prop}
  (q:nN F g.μ g s p Q):wpAny P.M A (call (.type "dict") [u]) Q E s:=by
 unfold gV at e
 cases e1:dictOf H a with
 | some kvs=>
  rw [e1] at e
  obtain ⟨d,es,ep,rfl,n1,p1,p2⟩:=di i e1 ra
  refine kt_call_dict (knd:=P.kind) n1 p1.dictOf (cP (by rw [← p2.length]; exact e.1)) fun h' hd hs=>?_
  obtain ⟨j5,hd'⟩:=hd.dictAt
  have k:∀ b o,s.heap.get? b = some o -> h'.get? b = some o:=fun b o e=>(hs.2 b (Nat.ne_of_lt (Heap.lt_size e))).trans (Heap.get?_push_of_some _ e)
  exact qj (s':={ s with heap:=h' }) e.2 (After.grow (t:=s.toks) i k) hd' (fun h=>(by cases h)) (ba _) i (p2.mono (fun _ _ e=>e) (fun _ z=>z) fun b o _ e=>k b o e) q
 | none=>
  rw [e1] at e
  refine aW e fun xs e1 e=>aW e fun ps e2 e=>?_
  obtain ⟨ad,vs,rfl,p1,p2⟩:=iA i e1 ra
  obtain ⟨qs,q1,q2⟩:=AR e2 p2
  refine tR hh p1 q1 (by rw [← q2.length]; exact e.1) fun h' tk hd k=>?_
  obtain ⟨j5,hd'⟩:=hd.dictAt
  have PV:aU P g s.heap (putAll [] ps) (PySem.merged [] qs):=aU.merged .nil q2
  exact qj (s':={ s with heap:=h',toks:=tk }) e.2 (After.grow (t:=tk) i k) hd' (fun h=>(by cases h)) (ba _) i (PV.mono (fun _ _ e=>e) (fun _ z=>z) fun b o _ e=>k b o e) q
theorem yS (i:Inv g H s.heap) {a:AV} {p:AP} {u:Value} (e:gV .list a H p) (ra:VR P g s.heap a u) {Q:Value -> Shared -> Prop}
  (q:nN F g.μ g s p Q):wpAny P.M A (call (.type "list") [u]) Q E s:=by
 unfold gV at e
 refine aW e fun xs e1 e=>?_
 obtain ⟨ad,vs,rfl,p1,p2⟩:=iA i e1 ra
 obtain ⟨n,p1⟩:=p1
 refine call_list_seq (hsz:=cP (by rw [List.size_toArray,← p2.length]; exact e.1)) ad (.inl rfl) p1 rfl rfl fun h' c' k hd=>?_
 exact mW (fz:=true) (s':={ s with heap:=h' }) e.2 (After.grow (t:=s.toks) i k) ⟨c',hd⟩ (ba _) i (p2.mono (fun _ _ e=>e) (fun _ z=>z) fun b o _ e=>k b o e) q
theorem B8 (i:Inv g H s.heap) {l:Nat} {d:Addr} {it:Bool} {kvs ws:List (AK × AV)} {u:Value} (hl:H[l]? = some (.dict it kvs)) (ha:g.μ[l]? = some d) (ru:VR P g s.heap (.aj ws) u) (hz:kvs.length + ws.length <= lim) (hap:Apart F g.μ g)
  {Q:Value -> Shared -> Prop} (hq:∀ s',After F g.μ g s g (H.set l (.dict false (putAll kvs ws))) s' -> Q .none s'):wpAny P.M A (call (.builtin "dict.update") [.ref d,u]) Q E s:=by
 obtain ⟨a',e1,e2⟩:=i.objs l _ hl
 rw [ha] at e1; cases e1
 cases e2 with | dict p q r=>
 cases ru with | aj n z dd rr=>
 rename_i es ep fs a' j5
 have hne:d ≠ a':=fun w=>i.apart d (List.mem_of_getElem? ha) (w ▸ z)
 refine call_meetsIn PySem.F.slot_dict_update p.dictOf.typeIs PySem.F.entry_dict_update (PySem.F.args_dict_update_2 _ _) (meets_dict_update P.kind d a' hne n) ⟨_,_,p.dictOf,dd.dictOf,cP (by rw [← r.length,← rr.length]; exact hz),fun h' hd _ sb=>?_⟩
 obtain ⟨R7,hd'⟩:=hd.dictAt
 have hz':∀ b o,g.Z b -> s.heap.get? b = some o -> h'.get? b = some o:=fun b o z e=>(sb.2 b fun w=>i.apart d (List.mem_of_getElem? ha) (w ▸ z)).trans e
 have r':=(aU.merged r rr).mono (g:=g) (g':=g) (h':=h') (fun _ _ e=>e) (fun _ z=>z) hz'
 exact hq _ (After.set (t:=s.toks) i ha sb (.dict hd' (by simp) r'))
end
end
end
end Mine
end
section
open PySem PySem.W PyProof.Rows PySem.Calls
namespace Mine
noncomputable section
section
theorem wM {l:List Nm}:∀ {x:Nm},risingS (toS x) (l.map toS) = true -> (x :: l).Pairwise fun a b=>¬ b < a:=by
 induction l with
 | nil=>exact fun _=>List.pairwise_singleton _ _
 | cons y r ih=>
  intro x h
  obtain ⟨h,h2⟩:=(Bool.and_eq_true _ _).mp h
  have hx:¬ y < x:=of_decide_eq_false ((PyProof.Rows.ltCps_eq y x).symm.trans ((Bool.not_eq_true' _).mp h))
  exact List.pairwise_cons.mpr ⟨List.forall_mem_cons.mpr ⟨hx,fun z hz=>List.le_trans hx ((List.pairwise_cons.mp (ih h2)).1 z hz)⟩,ih h2⟩
theorem vK {l l':List Nm} (h:rising l = true) (h':sortedS (l'.map toS) = true) (p:l'.Perm l):l' = l :=
 List.Perm.eq_of_pairwise (le:=fun a b=>¬ b < a) (fun a b _ _ h1 h2=>List.le_antisymm h1 h2) (by cases l' with | nil=>exact .nil | cons x r=>exact wM h') ((of_decide_eq_true h).imp fun q=>List.lt_asymm q) p
section
variable {A:Around} {E:Value -> Shared -> Prop} {g:Gh} {s:Shared} {H:Hp} {F:List Addr}
theorem A5 {kvs:List (AK × AV)}:∀ {ks:List Nm},qA kvs = some ks -> kvs.map (·.1) = ks.map .s:=by
 induction kvs with
 | nil=>intro ks e; cases e; rfl
 | cons a r ih=>
  intro ks e
  refine bnd e fun n h1 e=>iF e fun q h2 e=>?_
  subst e
  obtain ⟨k,v⟩:=a
  cases k <;> cases h1
  exact congrArg (AK.s n :: ·) (ih h2)
theorem wJ {vs:List Value}:∀ {ks:List Nm},vs.length = ks.length -> (∀ (j:Nat) (v:Value),vs[j]? = some v -> ∃ k,ks[j]? = some k /\ fW (.s k) v = true) -> StrsAre vs (ks.map toS):=by
 induction vs with
 | nil=>intro ks h f; cases ks with
  | nil=>exact .nil
  | cons _ _=>cases h
 | cons v vs ih=>intro ks h f; cases ks with
  | nil=>cases h
  | cons k ks=>
   obtain ⟨k',e1,e2⟩:=f 0 v rfl
   cases e1
   obtain ⟨t,rfl⟩:=d9 e2
   exact .cons _ _ (ih (Nat.succ.inj h) fun j v hv=>f (j + 1) v hv)
theorem wB {h:Heap}:∀ {ks:List Nm} {vs:List Value},StrsAre vs (ks.map toS) -> aC P g h (ks.map .str) vs
 | [],_,r=>by cases r; exact .nil
 | k :: ks,_,r=>by
  cases r with | cons y t r=>exact .cons (.str _ _) (wB r)
theorem Em {ss:List Str}:∃ ks:List Nm,ss = ks.map toS:=⟨ss.map nm,by simp [Function.comp_def]⟩
theorem Ez {a b:List Nm} (h:(a.map toS).Perm (b.map toS)):a.Perm b:=by
 have:=h.map nm
 simpa [Function.comp_def] using this
theorem vL (i:Inv g H s.heap) {a:AV} {p:AP} {u:Value} (e:gV .sorted a H p) (ra:VR P g s.heap a u) (hh:A.handled = none) {Q:Value -> Shared -> Prop}
  (h:nN F g.μ g s p Q):wpAny P.M A (call (.builtin "sorted") [u]) Q E s:=by
 unfold gV at e
 refine aW e fun kvs e1 e=>aW e fun ks e2 e=>?_
 obtain ⟨⟨hz,hr⟩,e⟩:=e
 obtain ⟨d,es,ep,rfl,n1,p1,p2⟩:=di i e1 ra
 have hkeys:es.map (·.1) = ks.map AK.s:=by rw [← p2.keys,A5 e2]
 have hlen:es.length = ks.length:=by simpa using congrArg List.length hkeys
 refine call_function_entry kind_sorted plain_sorted entry_sorted (args_sorted1 _) ?_
 unfold Builtin.«sorted»
 refine wpAny_bind (m:=checkCount "sorted" 1 1 _) (wpAny_pure ?_)
 refine wpAny_bind (kdu_collect (A:=A.in1) (kdl_dict (knd:=P.kind) (kvs:=es) (ep:=ep) n1) hh p1 (cP (by unfold lim; omega)) fun h' tk acc hk hacc=>?_)
 have hl:acc.toList.length = ks.length:=by rw [Array.length_toList,hacc.1,hlen]
 have hS:StrsAre acc.toList (ks.map toS):=wJ hl fun j v hv=>by
  obtain ⟨k,x,hx,hkv⟩:=hacc.2 j v (by rw [← Array.getElem?_toList]; exact hv)
  have hm:(es.map (·.1))[j]? = some k:=by rw [List.getElem?_map,hx]; rfl
  rw [hkeys,List.getElem?_map] at hm
  cases hq:ks[j]? with
  | none=>rw [hq] at hm; cases hm
  | some k'=>rw [hq] at hm; cases hm; exact ⟨k',rfl,hkv⟩
 refine wpAny_bind (wpAny_newList ?_ (cP (by unfold lim; omega)))
 have KH:(h'.push (seqObj "list" acc.toList.toArray 0)).get? h'.objs.size = some (seqObj "list" acc.toList.toArray 0):=Heap.get?_push_size _ rfl
 refine wpAny_bind (wpAny_holding (wpAny_call_entry slot_list_sort ⟨_,KH,rfl⟩ entry_list_sort (list_sort_treeK strKind_oneLt KH hS.keysOf (fun v₁ v₂ rest e=>keyKind_strs (by rw [← e]; exact hS)) (by omega) fun st' a1 a2=>⟨_,rfl,?_⟩) (args_list_sort _)))
 obtain ⟨ss',b1,b2,b3⟩:=sorted_out_str hS a1 a2
 obtain ⟨ks',rfl⟩:=Em (ss:=ss')
 have:ks' = ks:=vK hr b3 (Ez b2)
 subst this
 obtain ⟨c,hc⟩:=sortedHeap_at (out:=(arrOf st').map (·.2)) KH
 have hne:s.heap.get? h'.objs.size = none:=by
  cases q:s.heap.get? h'.objs.size with
  | none=>rfl
  | some o=>exact (aX (hk _ _ q) (ba _)).elim
 have k:∀ b o,s.heap.get? b = some o -> (sortedHeap (h'.push (seqObj "list" acc.toList.toArray 0)) h'.objs.size acc.toList ((arrOf st').map (·.2))).get? b = some o:=fun b o eb=>by
  have q:=hk b o eb
  have lt:=Heap.lt_size q
  rw [sortedHeap_old (Nat.ne_of_lt lt) (by rw [Heap.size_push]; exact Nat.lt_succ_of_lt lt)]
  exact Heap.get?_push_of_some _ q
 have hc':(sortedHeap (h'.push (seqObj "list" acc.toList.toArray 0)) h'.objs.size acc.toList ((arrOf st').map (·.2))).PlainList h'.objs.size ((arrOf st').map (·.2)).toList.toArray:=⟨c,by rw [Array.toArray_toList]; exact hc⟩
 exact wpAny_pure ⟨_,rfl,mW (fz:=true) (s':={ s with heap:=_,toks:=tk }) e (After.grow (t:=tk) i k) hc' hne i (wB b1) h⟩
end
end
end
end Mine
end
section
open PySem PySem.W PyProof.Rows PySem.Calls
namespace Mine
noncomputable section
section
theorem mF (slice:Expr) (o i:Value):∃ ops,subscripted slice false o i = operate ops (getItem o i):=by
 cases slice with
 | Slice a b c d=>cases c with
  | none=>exact ⟨_,rfl⟩
  | some _=>exact ⟨_,rfl⟩
 | _=>exact ⟨_,rfl⟩
section
variable {A:Around} {E:Value -> Shared -> Prop} {g:Gh} {s:Shared} {H:Hp} {F:List Addr}
theorem Jy (i:Inv g H s.heap) {value slice:Expr} {a ix x:AV} {o iv:Value} (e:nU H a ix = some x) (ra:VR P g s.heap a o) (ri:VR P g s.heap ix iv) {Q:Value -> Shared -> Prop}
  (h:∀ v t,VR P g s.heap x v -> Q v { s with toks:=t }):wpAny P.M A (subscriptTail value slice o iv) Q E s:=by
 obtain ⟨ops,hs⟩:=mF slice o iv
 unfold nU at e
 cases e1:dictOf H a with
 | some kvs=>
  rw [e1] at e
  refine bnd e fun k e2 e=>?_
  obtain ⟨d,es,ep,rfl,n1,p1,p2⟩:=di i e1 ra
  rcases p2.find k with ⟨q1,q2⟩ | ⟨y,w,q1,q2,q3⟩
  ·rw [q1] at e; exact gG e
  ·rw [q1] at e; cases e
   exact tail_any p1.dictOf.typeIs slot_dict_getitem.lookup (wpAny_getItem_of (iB e2 ri) p1.dictOf.mapOf q2 (h w _ q3)) hs
 | none=>
  rw [e1] at e
  refine bnd e fun n e2 e=>?_
  obtain ⟨u,rfl⟩:=ri.cD e2
  by_cases hn:0 <= n /\ n <= 4096
  ·rw [if_pos hn] at e
   cases e3:fV a with
   | some vs=>
    rw [e3] at e
    obtain ⟨us,ad,rfl,z,t,r⟩:=ra.fV e3
    obtain ⟨v,e1,e2⟩:=r.get e
    have hlt:=(List.getElem?_eq_some_iff.mp e1).1
    exact tail_any t.typeIs slot_tuple_getitem.lookup (getItem_tuple t (by omega) (by omega) (seqIndex_of hn.1 (by simp; omega)) (by simpa using e1) (h v s.toks e2)) hs
   | none=>
    rw [e3] at e
    refine bnd e fun vs e0 e=>?_
    obtain ⟨ad,us,rfl,p1,p2⟩:=dR i e0 ra
    obtain ⟨v,e1,e2⟩:=p2.get e
    exact tail_any p1.typeIs slot_list_getitem.lookup (wpAny_getItem_list p1 hn.1 (by omega) (by simpa using e1) (h v s.toks e2)) hs
  ·rw [if_neg hn] at e; exact gG e
theorem Et (i:Inv g H s.heap) {value slice:Expr} {a:AV} {vs:List AV} {m:Int} {o:Value} {u:Tok} {sl:Addr} (e:listOf H a = some vs) (ra:VR P g s.heap a o) (hm:0 <= m /\ m <= 4096 /\ vs.length <= lim) {p:AP} (e':p (.ah (vs.take m.toNat)) H) {Q:Value -> Shared -> Prop}
  (hsl:s.heap.IsSliceOf sl .none (.int m u) .none)
  (h:nN F g.μ g s p Q):wpAny P.M A (subscriptTail value slice o (.ref sl)) Q E s:=by
 obtain ⟨ops,hs⟩:=mF slice o (.ref sl)
 obtain ⟨ad,us,rfl,p1,p2⟩:=dR i e ra
 have hl:=p2.length
 refine tail_any p1.typeIs slot_list_getitem.lookup (wpAny_getItem_list_slice p1 hsl .none (.int m u) .none (by simp) ?_ (cP (by simp; omega))) hs
 have af:After F g.μ g s g H { s with heap:=s.heap.push { cls:=.type "list",data:=.seq (slicePick us.toArray none (some m) none) } }:=.push i _
 obtain ⟨k,rfl⟩:=Int.eq_ofNat_of_zero_le hm.1
 have hp:slicePick us.toArray none (some (k:Int)) none = (us.take k).toArray:=by
  by_cases hk:k <= us.length
  ·simpa using slicePick_upto us.toArray k (by simpa using hk)
  ·have:=slicePick_upto' us.toArray k
   simpa using this
 exact mW (fz:=true) (d:=s.heap.objs.size) e' af ⟨0,by rw [hp]; exact Heap.get?_push_size _ rfl⟩ (ba _) i ((p2.take k).mono (g:=g) (fun _ _ e=>e) (fun _ z=>z) fun b o _ e=>Heap.get?_push_of_some _ e) h
theorem AE (i:Inv g H s.heap) {l:Nat} {a:Addr} {xs:List AV} {x:AV} {v:Value} {m:Int} {u:Tok} (hl:H[l]? = some (.list xs)) (ha:g.μ[l]? = some a) (rv:VR P g s.heap x v) (hm:0 <= m /\ m <= 4096 /\ m.toNat < xs.length)
  {Q:Unit -> Shared -> Prop} (hq:∀ s',After F g.μ g s g (H.set l (.list (xs.set m.toNat x))) s' -> Q () s'):wpAny P.M A (setItem (.ref a) (.int m u) v) Q E s:=by
 obtain ⟨vs,p,r⟩:=jd i hl ha
 have pq:=p
 obtain ⟨n,ho⟩:=pq
 have hlen:=r.length
 unfold setItem
 try with_reducible refine wpAny_holding ?_
 first | refine wpAny_bind (wpAny_pure ?_) | skip
 refine wpAny_bind (wpAny_sequenceKey (aI p).typeIs (by decide) ?_)
 refine wpAny_bind (wpAny_callSpecial?_slot (name:=Str.ofString "__setitem__") (aI p).typeIs slot_list_setitem
  (wpAny_call_entry slot_list_setitem (aI p).typeIs entry_list_setitem ?_ (args_list_setitem _ _ _)))
 show wpAny _ _ (Builtin.List.listSubscript? (.int m u) >>= _) _ _ s
 refine wpAny_bind (wpAny_listSubscript_int (fitsIndex_of hm.1 (by omega)) ?_)
 obtain ⟨j,rfl⟩:=Int.eq_ofNat_of_zero_le hm.1
 have hj:j < vs.toArray.size:=by have:=hm.2.2; simp at this ⊢; omega
 have hx':vs.toArray[j]? = some vs.toArray[j]:=Array.getElem?_eq_getElem hj
 show wpAny _ _ ((seqItemAt a j >>= fun r=>pure (r.map (j,·))) >>= _) _ _ s
 refine wpAny_bind (wpAny_bind (wpAny_seqItemAt ho rfl (wpAny_pure ?_)))
 rw [hx']
 show wpAny _ _ (setSeqItemAt a j v >>= _) _ _ s
 have KU:=mL (·.setIfInBounds j v) p
 have hf:(vs.toArray.setIfInBounds j v) = (vs.set j v).toArray:=by simp
 simp only [hf] at KU
 have af:After F g.μ g s g (H.set l (.list (xs.set j x))) { s with heap:=s.heap.update a (Obj.mapSeq (·.setIfInBounds j v)) } :=
  set_list i ha (Heap.SameBut.update ..) KU (r.set j rv)
 refine wpAny_bind (wpAny_setSeqItemAt ho rfl ?_)
 first
  | exact wpAny_bind (wpAny_pure (wpAny_pure ⟨.none,rfl,wpAny_pure (hq _ (by simpa using af))⟩))
  | exact wpAny_pure ⟨.none,rfl,wpAny_pure (hq _ (by simpa using af))⟩
theorem AW (i:Inv g H s.heap) {fz:Bool} {xs:List AV} {vs:List Value} {p:AP} (e:mw fz xs H p) (r:aC P g s.heap xs vs) (hz:xs.length <= lim) {Q:Value -> Shared -> Prop}
  (h:nN F g.μ g s p Q):wpAny P.M A (newList vs) Q E s:=by
 unfold newList
 refine wpAny_newObj_type ?_ (cP (by rw [List.size_toArray,← r.length]; exact hz))
 exact mW (d:=s.heap.objs.size) e (.push i _) ⟨0,Heap.get?_push_size _ rfl⟩ (ba _) i (r.mono (g:=g) (fun _ _ e=>e) (fun _ z=>z) fun b o _ e=>Heap.get?_push_of_some _ e) h
theorem yP (i:Inv g H s.heap) {xs:List AV} {vs:List Value} (r:aC P g s.heap xs vs) (hz:xs.length <= lim) {Q:Value -> Shared -> Prop}
  (h:∀ v g' s',After F g.μ g s g' H s' -> VR P g' s'.heap (.tup xs) v -> Q v s'):wpAny P.M A (newTuple vs) Q E s:=by
 unfold newTuple
 refine wpAny_newObj_type ?_ (cP (by have:=r.length; simp; omega))
 have af:After F g.μ g s g H { s with heap:=s.heap.push { cls:=.type "tuple",data:=.seq vs.toArray } }:=.push i _
 have hn:=ba s.heap
 obtain ⟨hμ,hz'⟩:=i.fresh hn
 have hl:∃ o,(s.heap.push { cls:=.type "tuple",data:=.seq vs.toArray }).get? s.heap.objs.size = some o:=⟨_,Heap.get?_push_size _ rfl⟩
 refine h _ _ _ (af.freeze hl hn hμ) (.tup (.inr rfl) (IsTup.new ..) ?_)
 exact (r.mono (g:=g) (h':=s.heap.push { cls:=.type "tuple",data:=.seq vs.toArray }) (fun _ _ e=>e) (fun _ z=>z) fun b o _ e=>Heap.get?_push_of_some _ e).freeze
end
end
end
end Mine
end
section
open PySem PySem.W PyProof.Rows PySem.Calls
namespace Mine
noncomputable section
section
structure Cx where
 A:Around
 fs:List Env
 own:List Addr
 env:Env
structure St where
 g:Gh
 H:Hp
 s:Shared
noncomputable instance:Nonempty Cx:=⟨⟨{},[],[],default⟩⟩
noncomputable instance:Nonempty St:=⟨⟨⟨[],fun _=>True⟩,[],{}⟩⟩
structure Kn (ks:List (Str × NameKind)) (env:Env):Prop where
 glob:∀ x,ks.lookup x = some .globalImplicit -> env.kindOf x = some .globalImplicit
 loc:∀ x,ks.lookup x = some .local -> env.kindOf x = some .local
 yo:∀ x,ks.lookup x = some .cell -> env.kindOf x = some .cell /\ ∃ c,env.cells.lookup x = some c
 free:∀ x,ks.lookup x = some .free -> env.kindOf x = some .cell
structure At (b:Nat) (ks:List (Str × NameKind)) (X:Cx) (σ:Loc) (t:St):Prop where
 here:Here b X.A X.fs X.own X.env σ t.g t.H t.s
 kn:Kn ks X.env
noncomputable abbrev fJ (X:Cx) (t t':St):Prop:=After (frs X.fs) t.g.μ t.g t.s t'.g t'.H t'.s
class inductive kY (B:Heap) (g:Gh) (c:Nm) (h:Heap):Value -> Prop
 | mk (e:Addr) (oe:Obj) (vs:Array Value) (C:Addr):B.get? e = none -> ¬ g.Z e -> e ∉ g.μ -> P.exc c = some C -> h.get? e = some oe -> oe.cls = .ref C -> oe.data = .fields vs -> 1 < vs.size ->
  (vs[1]? = some .none \/ ∃ T oT ts,vs[1]? = some (.ref T) /\ B.get? T = none /\ ¬ g.Z T /\ T ∉ g.μ /\ T ≠ e /\ h.get? T = some oT /\ oT.data = .fields ts /\ 3 < ts.size) -> kY B g c h (.ref e)
structure Fi (X:Cx) (t:St) {α β:Type} (rel:Gh -> Heap -> α -> β -> Prop) (p:α -> Hp -> Prop) (e:EP) (Q:β -> Shared -> Prop) (R:Value -> Shared -> Prop):Prop where
 ok:∀ a b t',p a t'.H -> fJ X t t' -> rel t'.g t'.s.heap a b -> Q b t'.s
 exc:∀ c x t',e c t'.H -> fJ X t t' -> kY t.s.heap t'.g c t'.s.heap x -> R x t'.s
noncomputable def AI (g:Gh) (h:Heap) (a b:Bool):Prop:=a = b
theorem kY.base {B B':Heap} {g:Gh} {c:Nm} {x:Value} {h:Heap} (y:kY B g c h x) (k:∀ a,B.get? a = none -> B'.get? a = none):kY B' g c h x :=
 y.casesOn fun e oe vs C h2 h3 h4 h5 h6 h7 h8 h9 tg=>⟨e,oe,vs,C,k _ h2,h3,h4,h5,h6,h7,h8,h9,tg.imp id fun ⟨T,oT,ts,t1,t2,t3⟩=>⟨T,oT,ts,t1,k _ t2,t3⟩⟩
section
variable {b n d:Nat} {ks:List (Str × NameKind)} {X:Cx} {σ:Loc} {t t1 t2:St} {α β γ δ:Type} {rel:Gh -> Heap -> α -> β -> Prop} {JF:Gh -> Heap -> γ -> δ -> Prop} {p:α -> Hp -> Prop} {p2:γ -> Hp -> Prop} {e:EP} {Q:β -> Shared -> Prop} {Q2:δ -> Shared -> Prop} {R:Value -> Shared -> Prop}
theorem At.after (h:At b ks X σ t) (a:fJ X t t1):At b ks X σ t1:=⟨h.here.after a,h.kn⟩
theorem At.inv (h:At b ks X σ t):Inv t.g t.H t.s.heap:=h.here.inv
theorem At.refl (h:At b ks X σ t):fJ X t t:=h.here.refl
theorem At.vr (h:At b ks X σ t) (a:fJ X t t1) {x:AV} {v:Value} (r:VR P t.g t.s.heap x v):VR P t1.g t1.s.heap x v:=After.vr a h.here.apart r
theorem At.zE (h:At b ks X σ t) (a:fJ X t t1) {x:List AV} {v:List Value} (r:aC P t.g t.s.heap x v):aC P t1.g t1.s.heap x v:=After.zE a h.here.apart r
noncomputable abbrev St.tok (t:St) (n:Nat):St:=⟨t.g,t.H,{ t.s with toks:=n }⟩
theorem At.tok (h:At b ks X σ t) (n:Nat):fJ X t (t.tok n):=.toks h.inv n
theorem At.qr (h:At (b + 2) ks X σ t):X.A.units + 20 < cLine:=Nat.lt_of_le_of_lt (Nat.add_le_add_left (Nat.mul_le_mul_left 10 (Nat.le_add_left 2 b)) _) h.here.units
theorem Fi.go (f:Fi X t rel p e Q R) (a:fJ X t t1) (k:∀ x y t',p2 x t'.H -> fJ X t1 t' -> fJ X t t' -> JF t'.g t'.s.heap x y -> Q2 y t'.s):Fi X t1 JF p2 e Q2 R :=
 ⟨fun x y t' q a' r=>k x y t' q a' (a.then a') r,fun c x t' q a' z=>f.exc c x t' q (a.then a') (z.base fun b=>a.keep.fresh)⟩
theorem Fi.then (f:Fi X t rel p e Q R) (a:fJ X t t1):Fi X t1 rel p e Q R:=f.go a fun x y t' q _ a' r=>f.ok x y t' q a' r
structure Shape (e:Expr):Prop where
 marks:∀ op,behindInMarks op e = false
 star:∀ r env,starEach (e :: r) env = (false,eval e env) :: starEach r env
 Lh:∀ env v,foldedSetIterable e env v = pure v
 base:∀ {M A Q E s} (attr env) (whole:Sem Value),wpAny M A whole Q E s -> wpAny M A (attributeBase e attr env whole) Q E s
variable (n d ks) in
noncomputable def Au (e:Expr) (x:TE):Prop:=∀ X σ t (p:AP) (ex:EP) Q R,At (2 * n + d + 2) ks X σ t -> x (WF n) σ t.H p ex -> Fi X t (VR P) p ex Q R -> wpAny P.M X.A (eval e X.env) Q R t.s
variable (n d ks) in
noncomputable def RG (e:Expr) (x:TE):Prop:=∀ X σ t (p:Bool -> Hp -> Prop) (ex:EP) Q R,At (2 * n + d + 2) ks X σ t -> x (WF n) σ t.H (fun v H=>Is (truthy v) fun b=>p b H) ex -> Fi X t AI p ex Q R -> wpAny P.M X.A (isTrue e X.env (eval e X.env)) Q R t.s
variable (n d ks) in
structure Good (e:Expr) (x:TE):Prop where
 ev:Au n d ks e x
 ts:RG n d ks e x
 sh:Shape e
theorem kD {a:AV} {v:Value} {g:Gh} {h:Heap} {k:Bool -> Prop} (e:Is (truthy a) k) (r:VR P g h a v):∃ b,v = .bool b /\ k b :=
 aW e fun b q z=>by cases a <;> cases q; exact ⟨b,r.inv,z⟩
theorem Good.val {e:Expr} {x:TE} (h:Au n d ks e x) (sh:Shape e) (w:∀ env,isTrue e env (eval e env) = (do let v ← eval e env; standAt e.pos; holding [v] (PySem.truthy v))):Good n d ks e x :=
 ⟨h,fun X σ t p ex Q R a q f=>by
  rw [w]
  refine wpAny_bind (h X σ t _ ex _ R a q ⟨fun v u t' q' a' r=>?_,f.exc⟩)
  obtain ⟨b,rfl,z⟩:=kD q' r
  exact wpAny_bind (wpAny_standAt (wpAny_holding (wpAny_truthy_bool (f.ok b b t' z a' rfl)))),sh⟩
variable {a b' c':Expr} {x y z:TE} {pos:Pos}
theorem Ft {op:Op} (ga:Good n d ks a x) (gb:Good n d ks b' y):Good n d ks (.BinOp a op b' pos) (.bin op x y) :=
 .val (fun X σ t p ex Q R h q f=>wpAny_BinOp (ga.ev X σ t _ ex _ R h q (f.go h.refl fun v v' t1 q a1 a1' r1=>gb.ev X σ t1 _ ex _ R (h.after a1) q (f.go a1 fun u u' t2 q a2 a2' r2=>
  aW q fun w hw q=>DV hw ((h.after a1).vr a2 r1) r2 fun w' tk JB=>f.ok w w' (t2.tok tk) q (a2'.il tk) JB))))
  ⟨fun _=>rfl,fun _ _=>rfl,fun _ _=>rfl,fun a en w h=>h⟩ fun _=>rfl
end
end
end
end Mine
end
section
open PySem PySem.W PyProof.Rows PySem.Calls
namespace Mine
noncomputable section
section
section
variable {n d:Nat} {ks:List (Str × NameKind)} {X:Cx} {σ:Loc} {a b c:Expr} {x y z:TE} {pos:Pos}
theorem Bt {c:Const} {v:AV} {kd:Nat} (hc:litOf c = some v):Good n d ks (.Constant c kd pos) (.lit v) :=
 .val (fun X σ t p ex Q R h q f=>by
  cases c <;> cases hc
  ·exact wpAny_pure (f.ok _ _ t q h.refl .none)
  ·exact wpAny_pure (f.ok _ _ t q h.refl (.bool _))
  ·exact wpAny_Constant_int (f.ok _ _ (t.tok _) q (h.tok _) (.int _ _))
  ·rename_i u
   have:=VR.str (P:=P) (g:=t.g) (h:=t.s.heap) (nm u) t.s.toks
   rw [bJ] at this
   exact Constant_str (f.ok _ _ (t.tok _) q (h.tok _) this)
  ·rename_i b
   exact (show wpAny P.M X.A (do return Value.bytes b.toArray (← fresh)) Q R t.s from wpAny_bind (wpAny_fresh (wpAny_pure (f.ok _ _ (t.tok _) q (h.tok _) (VR.bytes b.toArray t.s.toks))))))
  ⟨fun _=>rfl,fun _ _=>rfl,fun _ _=>rfl,fun a en w h=>h⟩ fun _=>rfl
theorem Fo {i:Int} {kd:Nat} {p':Pos}:Good n d ks (.UnaryOp .USub (.Constant (.int i) kd p') pos) (.lit (.int (-i))) :=
 .val (fun X σ t p ex Q R h q f=>wpAny_UnaryOp (wpAny_Constant_int (PySem.P.neg_int (f.ok _ _ (t.tok _) q (h.tok _) (.int _ _)))))
  ⟨fun _=>rfl,fun _ _=>rfl,fun _ _=>rfl,fun a en w h=>h⟩ fun _=>rfl
theorem yY {x:Str} (h:isLocal ks x = true):ks.lookup x = some .local \/ ks.lookup x = some .cell \/ ks.lookup x = some .free:=of_decide_eq_true h
theorem Fd {x:Str} (hd:(x == aM) = false) (hl:isLocal ks x = true):Good n d ks (.Name x pos) (.var (nm x)) :=
 .val (fun X σ t p ex Q R h q f=>aW q fun v hv q=>by
  obtain ⟨m,hn,hm⟩:=h.here.fm.vals
  obtain ⟨u,ru,q1,q2⟩:=hm _ _ hv
  rw [bJ] at q1 q2
  have fin:=f.ok _ _ t q h.refl ru
  have cell:X.env.kindOf x = some .cell -> wpAny P.M X.A (eval (.Name x pos) X.env) Q R t.s:=fun kc=>by
   obtain ⟨c,e1,e2⟩:=q2 (.inl kc)
   exact wpAny_Name (wpAny_loadName_cell h.here.fm.kind kc e1 e2 fin) hd
  exact (yY hl).elim (fun q=>wpAny_Name (wpAny_loadName_local h.here.fm.kind (h.kn.loc x q) hn (q1 (h.kn.loc x q)) fin) hd) fun q=>q.elim (fun q=>cell (h.kn.yo x q).1) fun q=>cell (h.kn.free x q))
  ⟨fun _=>rfl,fun _ _=>rfl,fun _ _=>rfl,fun a en w h=>h⟩ fun _=>rfl
theorem mV {C:Prop} {b:Bool} {p q:Prop} (e:Br b p q) (h:b = true -> p -> C) (k:b = false -> q -> C):C:=by cases b; exact k rfl e; exact h rfl e
theorem Fp (gt:Good n d ks a x) (ga:Good n d ks b y) (gb:Good n d ks c z):Good n d ks (.IfExp a b c pos) (.ite x y z) :=
 ⟨fun X σ t p ex Q R h q f=>wpAny_IfExp (gt.ts X σ t (fun b H=>Br b _ _) ex _ R h q (f.go h.refl fun v v' t1 q a1 a1' r1=>by
   cases r1
   exact mV q (fun e q=>by subst e; exact ga.ev X σ t1 p ex Q R (h.after a1) q (f.then a1)) fun e q=>by subst e; exact gb.ev X σ t1 p ex Q R (h.after a1) q (f.then a1))),
  fun X σ t p ex Q R h q f=>by
   rw [arm_isTrue_IfExp]
   exact wpAny_bind (gt.ts X σ t (fun b H=>Br b _ _) ex _ R h q (f.go h.refl fun v v' t1 q a1 a1' r1=>by
    cases r1
    exact mV q (fun e q=>by subst e; exact ga.ts X σ t1 p ex Q R (h.after a1) q (f.then a1)) fun e q=>by subst e; exact gb.ts X σ t1 p ex Q R (h.after a1) q (f.then a1))),
  ⟨fun _=>rfl,fun _ _=>rfl,fun _ _=>rfl,fun a en w h=>h⟩⟩
theorem Fg (ga:Good n d ks a x):Good n d ks (.UnaryOp .Not a pos) (.j9 x) :=
 ⟨fun X σ t p ex Q R h q f=>wpAny_UnaryOp (ga.ev X σ t _ ex _ R h q (f.go h.refl fun v v' t1 q a1 a1' r1=>by
   obtain ⟨b,rfl,z⟩:=kD q r1
   exact not_value (wpAny_truthy_bool (f.ok _ _ t1 z a1' (.bool _))))),
  fun X σ t p ex Q R h q f=>wpAny_isTrue_Not (ga.ts X σ t _ ex _ R h q (f.go h.refl fun v v' t1 q a1 a1' r1=>by
   cases r1
   exact f.ok _ _ t1 q a1' rfl)),
  ⟨fun _=>rfl,fun _ _=>rfl,fun _ _=>rfl,fun a en w h=>h⟩⟩
end
end
end
end Mine
end
section
open PySem PySem.W PyProof.Rows PySem.Calls
namespace Mine
noncomputable section
section
section
variable {n d:Nat} {ks:List (Str × NameKind)} {X:Cx} {σ:Loc} {a b c:Expr} {x y z:TE} {pos:Pos}
theorem yl {op:pD} (ga:Au n d ks a x) (gb:Au n d ks b y) {t:St} {p:Bool -> Hp -> Prop} {ex:EP} {Q R:Value -> Shared -> Prop} (h:At (2 * n + d + 2) ks X σ t)
  (q:x (WF n) σ t.H (fun v H=>y (WF n) σ H (fun u H=>Is (k7 H op v u) fun w=>p w H) ex) ex) (f:Fi X t AI p ex (fun w s=>Q (.bool w) s) R):wpAny P.M X.A (eval a X.env) (fun v s₁=>wpAny P.M X.A (eval b X.env) (fun u s₂=>wpAny P.M X.A (compareOp op v u) Q R s₂) R s₁) R t.s :=
 ga X σ t _ ex _ R h q (f.go h.refl fun v v' t1 q a1 a1' r1=>gb X σ t1 _ ex _ R (h.after a1) q (f.go a1 fun u u' t2 q a2 a2' r2=>
  aW q fun w hw q=>lD (h.after a2').inv hw ((h.after a1).vr a2 r1) r2 h.qr fun tk=>f.ok w w (t2.tok tk) q (a2'.il tk) rfl))
theorem Fq {op:pD} (ga:Good n d ks a x) (gb:Good n d ks b y):Good n d ks (.Compare a [op] [b] pos) (.cmp op x y) :=
 ⟨fun X σ t p ex Q R h q f=>wpAny_Compare1 (yl ga.ev gb.ev h q ⟨fun w w' t' q a r=>r ▸ f.ok _ _ t' q a (.bool w),f.exc⟩) (gb.sh.marks op),
  fun X σ t p ex Q R h q f=>wpAny_isTrue_Compare1 (yl ga.ev gb.ev h q ⟨fun w w' t' q a r=>wpAny_truthy_bool (f.ok _ _ t' q a r),f.exc⟩) (gb.sh.marks op),
  ⟨fun _=>rfl,fun _ _=>rfl,fun _ _=>rfl,fun a en w h=>h⟩⟩
theorem Ff (ga:Good n d ks a x) (gb:Good n d ks b y):Good n d ks (.Subscript a b pos) (.sub x y) :=
 .val (fun X σ t p ex Q R h q f=>Subscript_ (ga.ev X σ t _ ex _ R h q (f.go h.refl fun v v' t1 q a1 a1' r1=>gb.ev X σ t1 _ ex _ R (h.after a1) q (f.go a1 fun u u' t2 q a2 a2' r2=>
  aW q fun w hw q=>Jy (h.after a2').inv hw ((h.after a1).vr a2 r1) r2 fun w' tk JB=>f.ok w w' (t2.tok tk) q (a2'.il tk) JB))))
  ⟨fun _=>rfl,fun _ _=>rfl,fun _ _=>rfl,fun a en w h=>h⟩ fun _=>rfl
theorem Bp {p':Pos} (ga:Good n d ks a x) (gb:Good n d ks b y):Good n d ks (.Subscript a (.Slice none (some b) none p') pos) (.slice x y) :=
 .val (fun X σ t p ex Q R h q f=>Subscript_ (ga.ev X σ t _ ex _ R h q (f.go h.refl fun v v' t1 q a1 a1' r1=>wpAny_Slice (wpAny_evalPart_none (wpAny_evalPart_some (gb.ev X σ t1 _ ex _ R (h.after a1) q (f.go a1 fun u u' t2 q a2 a2' r2=>
  aW q fun vs hv q=>aW q fun m hm q=>wpAny_evalPart_none (by
   obtain ⟨tk,rfl⟩:=r2.cD hm
   have a3:fJ X t2 ⟨t2.g,t2.H,{ t2.s with heap:=t2.s.heap.push { cls:=.type "slice",data:=.fields #[.none,.int m tk,.none] } }⟩:=.push (h.after a2').inv _
   exact Et (F:=frs X.fs) (h.after (a2'.then a3)).inv hv ((h.after a2').vr a3 ((h.after a1).vr a2 r1)) q.1 q.2 (Heap.IsSliceOf.new ..) fun w H' w' g4 s4 q a4 r4=>f.ok w w' ⟨g4,H',s4⟩ q ((a2'.then a3).then a4) r4))))))))
  ⟨fun _=>rfl,fun _ _=>rfl,fun _ _=>rfl,fun a en w h=>h⟩ fun _=>rfl
noncomputable def RD (k:Nat) (g:Gh) (h:Heap) (as:List AV) (bs:List Value):Prop:=aC P g h as bs /\ as.length = k
variable (n d ks) in
noncomputable def rV (es:List Expr) (xs:List TE):Prop:=∀ X σ t (pos:Pos) (p:List AV -> Hp -> Prop) (ex:EP) Q R,At (2 * n + d + 2) ks X σ t -> runs (WF n) σ xs t.H p ex -> Fi X t (RD es.length) p ex Q R -> wpAny P.M X.A (spliced (backTo pos (starEach es X.env))) Q R t.s
variable {es:List Expr} {xs:List TE}
theorem Fj:rV n d ks [] []:=fun X σ t pos p ex Q R h q f=>spliced_nil (f.ok [] [] t q h.refl ⟨.nil,rfl⟩)
theorem DB (ga:Good n d ks a x) (gs:rV n d ks es xs):rV n d ks (a :: es) (x :: xs):=fun X σ t pos p ex Q R h q f=>by
 rw [ga.sh.star]
 exact spliced_cons (ga.ev X σ t _ ex _ R h q (f.go h.refl fun v v' t1 q a1 a1' r1=>gs X σ t1 pos _ ex _ R (h.after a1) q (f.go a1 fun vs us t2 q a2 a2' r2=>f.ok _ _ t2 q a2' ⟨.cons ((h.after a1).vr a2 r1) r2.1,congrArg Nat.succ r2.2⟩)))
theorem Fe {k':Nat} (gs:rV n d ks es xs) (hl:es.length <= lim):Good n d ks (.Tuple es k' pos) (.tup xs) :=
 .val (fun X σ t p ex Q R h q f=>by
  rw [arm_eval_Tuple]
  exact wpAny_bind (wpAny_standAt (wpAny_bind (gs X σ t _ _ ex _ R h q (f.go h.refl fun vs us t1 q a1 a1' r1=>yP (F:=frs X.fs) (h.after a1).inv r1.1 (r1.2 ▸ hl) fun v g2 s2 a2 r2=>f.ok _ v ⟨g2,t1.H,s2⟩ q (a1'.then a2) r2)))))
  ⟨fun _=>rfl,fun _ _=>rfl,fun _ _=>rfl,fun a en w h=>h⟩ fun _=>rfl
theorem Dv {fz:Bool} (gs:rV n d ks es xs) (hl:es.length <= lim):Good n d ks (.List es pos) (.list fz xs) :=
 .val (fun X σ t p ex Q R h q f=>by
  rw [arm_eval_List]
  exact wpAny_bind (wpAny_standAt (wpAny_bind (gs X σ t _ _ ex _ R h q (f.go h.refl fun vs us t1 q a1 a1' r1=>AW (F:=frs X.fs) (h.after a1).inv q r1.1 (r1.2 ▸ hl) fun w H' v g2 s2 q a2 r2=>f.ok w v ⟨g2,H',s2⟩ q (a1'.then a2) r2)))))
  ⟨fun _=>rfl,fun _ _=>rfl,fun _ _=>rfl,fun a en w h=>h⟩ fun _=>rfl
variable (n d ks) in
structure GoodC (op:BoolOp) (es:List Expr) (x:TE):Prop where
 ev:∀ X σ t (pos:Pos) (p:AP) (ex:EP) Q R,At (2 * n + d + 2) ks X σ t -> x (WF n) σ t.H p ex -> Fi X t (VR P) p ex Q R -> wpAny P.M X.A (boolOp pos op (evalEach es X.env)) Q R t.s
 ts:∀ X σ t (p:Bool -> Hp -> Prop) (ex:EP) Q R,At (2 * n + d + 2) ks X σ t -> x (WF n) σ t.H (fun v H=>Is (truthy v) fun b=>p b H) ex -> Fi X t AI p ex Q R -> wpAny P.M X.A (allTrue op es X.env) Q R t.s
theorem tm {op:BoolOp} (g:GoodC n d ks op es x):Good n d ks (.BoolOp op es pos) x :=
 ⟨fun X σ t p ex Q R h q f=>by rw [arm_eval_BoolOp]; exact g.ev X σ t pos p ex Q R h q f,fun X σ t p ex Q R h q f=>by rw [arm_isTrue_BoolOp]; exact g.ts X σ t p ex Q R h q f,
  ⟨fun _=>rfl,fun _ _=>rfl,fun _ _=>rfl,fun a en w h=>h⟩⟩
theorem vg {op:BoolOp} (ga:Good n d ks a x):GoodC n d ks op [a] x :=
 ⟨fun X σ t pos p ex Q R h q f=>ga.ev X σ t p ex Q R h q f,fun X σ t p ex Q R h q f=>by
  rw [arm_allTrue_cons]
  refine wpAny_bind (ga.ts X σ t p ex _ R h q ⟨fun b b' t' q a r=>?_,f.exc⟩)
  have:=f.ok b b' t' q a r
  cases op <;> cases b' <;> exact wpAny_pure this⟩
theorem Fv (ga:Good n d ks a x) (gr:GoodC n d ks .And (b :: es) y):GoodC n d ks .And (a :: b :: es) (.d8 x y) :=
 ⟨fun X σ t pos p ex Q R h q f=>by
  refine (show wpAny P.M X.A (do
   let v ← eval a X.env
   standAt pos
   let t ← holding [v] (PySem.truthy v)
   match BoolOp.And,t with
   | .And,false | .Or,true=>pure v
   | _,_=>boolOp pos .And (evalEach (b :: es) X.env)) Q R t.s from ?_)
  exact wpAny_bind (ga.ev X σ t _ ex _ R h q (f.go h.refl fun v v' t1 q a1 a1' r1=>by
   obtain ⟨u,rfl,z⟩:=kD q r1
   refine wpAny_bind (wpAny_standAt (wpAny_bind (wpAny_holding (wpAny_truthy_bool ?_))))
   exact mV z (fun e z=>by subst e; exact gr.ev X σ t1 pos p ex Q R (h.after a1) z (f.then a1)) fun e z=>by subst e; exact wpAny_pure (f.ok _ _ t1 z a1' (.bool _)))),
  fun X σ t p ex Q R h q f=>by
  rw [arm_allTrue_cons]
  exact wpAny_bind (ga.ts X σ t (fun b H=>Br b _ _) ex _ R h q (f.go h.refl fun v v' t1 q a1 a1' r1=>by
   cases r1
   exact mV q (fun e z=>by subst e; exact gr.ts X σ t1 p ex Q R (h.after a1) z (f.then a1)) fun e z=>by subst e; exact wpAny_pure (f.ok _ _ t1 z a1' rfl)))⟩
theorem I2 (ga:Good n d ks a x) (gr:GoodC n d ks .Or (b :: es) y):GoodC n d ks .Or (a :: b :: es) (.qP x y) :=
 ⟨fun X σ t pos p ex Q R h q f=>by
  refine (show wpAny P.M X.A (do
   let v ← eval a X.env
   standAt pos
   let t ← holding [v] (PySem.truthy v)
   match BoolOp.Or,t with
   | .And,false | .Or,true=>pure v
   | _,_=>boolOp pos .Or (evalEach (b :: es) X.env)) Q R t.s from ?_)
  exact wpAny_bind (ga.ev X σ t _ ex _ R h q (f.go h.refl fun v v' t1 q a1 a1' r1=>by
   obtain ⟨u,rfl,z⟩:=kD q r1
   refine wpAny_bind (wpAny_standAt (wpAny_bind (wpAny_holding (wpAny_truthy_bool ?_))))
   exact mV z (fun e z=>by subst e; exact wpAny_pure (f.ok _ _ t1 z a1' (.bool _))) fun e z=>by subst e; exact gr.ev X σ t1 pos p ex Q R (h.after a1) z (f.then a1))),
  fun X σ t p ex Q R h q f=>by
  rw [arm_allTrue_cons]
  exact wpAny_bind (ga.ts X σ t (fun b H=>Br b _ _) ex _ R h q (f.go h.refl fun v v' t1 q a1 a1' r1=>by
   cases r1
   exact mV q (fun e z=>by subst e; exact wpAny_pure (f.ok _ _ t1 z a1' rfl)) fun e z=>by subst e; exact gr.ts X σ t1 p ex Q R (h.after a1) z (f.then a1)))⟩
end
end
end
end Mine
end
section
open PySem PySem.W PyProof.Rows PySem.Calls
namespace Mine
noncomputable section
section
section
variable {n d:Nat} {ks:List (Str × NameKind)} {X:Cx} {σ:Loc} {a b c:Expr} {x y z:TE} {pos:Pos}
theorem vB {op:pD} (ga:Au n d ks a x) (gb:Au n d ks b y) {t:St} {p:AV -> Bool -> Hp -> Prop} {ex:EP} {Q:Value -> Value -> Shared -> Prop} {R:Value -> Shared -> Prop} (h:At (2 * n + d + 2) ks X σ t)
  (q:x (WF n) σ t.H (fun v H=>y (WF n) σ H (fun u H=>Is (k7 H op v u) fun w=>p u w H) ex) ex) {p0:AP} {Q0:Value -> Shared -> Prop} (f:Fi X t (VR P) p0 ex Q0 R) (k:∀ u u' w t',p u w t'.H -> fJ X t t' -> VR P t'.g t'.s.heap u u' -> Q u' (.bool w) t'.s):wpAny P.M X.A (eval a X.env) (fun v s₁=>wpAny P.M X.A (eval b X.env) (fun u s₂=>wpAny P.M X.A (compareOp op v u) (Q u) R s₂) R s₁) R t.s :=
 ga X σ t _ ex _ R h q (f.go h.refl fun v v' t1 q a1 a1' r1=>gb X σ t1 _ ex _ R (h.after a1) q (f.go a1 fun u u' t2 q a2 a2' r2=>
  aW q fun w hw q=>lD (h.after a2').inv hw ((h.after a1).vr a2 r1) r2 h.qr fun tk=>k u u' w (t2.tok tk) q (a2'.il tk) r2))
theorem DC {op op':pD} (ga:Good n d ks a x) (gb:Good n d ks b y) (gc:Good n d ks c z):Good n d ks (.Compare a [op,op'] [b,c] pos) (.ym x op y op' z) :=
 ⟨fun X σ t p ex Q R h q f=>Compare_chain (wpAny_mono (vB ga.ev gb.ev (Q:=fun b w s₁=>wpAny P.M X.A (PySem.truthy w) (fun t s₃=>if t then wpAny P.M X.A (compareChain pos b [op'] [eval c X.env]) Q R s₃ else Q w s₃) R s₁) h q f fun u u' w t1 q a1 r1=>wpAny_truthy_bool (by
   cases w with
   | false=>exact f.ok _ _ t1 q a1 (.bool _)
   | true=>exact chain_last (gc.ev X σ t1 _ ex _ R (h.after a1) q (f.go a1 fun v v' t2 q a2 a2' r2=>aW q fun w hw q=>lD (h.after a2').inv hw ((h.after a1).vr a2 r1) r2 h.qr fun tk=>f.ok _ _ (t2.tok tk) q (a2'.il tk) (.bool w)))))
   (fun a' s1 h1=>chain_link h1) fun _ _ z=>z) (gc.sh.marks op'),
  fun X σ t p ex Q R h q f=>isTrue_chain (wpAny_mono (vB ga.ev gb.ev (p0:=fun v H=>Is (truthy v) fun b=>p b H) (Q0:=fun _ _=>True) (Q:=fun b w s₁=>wpAny P.M X.A (PySem.truthy w) (fun t s₃=>if t then wpAny P.M X.A (testChain pos b [op'] [eval c X.env]) Q R s₃ else Q false s₃) R s₁) h q ⟨fun _ _ _ _ _ _=>trivial,f.exc⟩ fun u u' w t1 q a1 r1=>wpAny_truthy_bool (by
   cases w with
   | false=>exact f.ok _ _ t1 q a1 rfl
   | true=>exact test_last (gc.ev X σ t1 _ ex _ R (h.after a1) q (f.go a1 fun v v' t2 q a2 a2' r2=>aW q fun w hw q=>lD (h.after a2').inv hw ((h.after a1).vr a2 r1) r2 h.qr fun tk=>wpAny_truthy_bool (f.ok _ _ (t2.tok tk) q (a2'.il tk) rfl)))))
   (fun a' s1 h1=>test_link h1) fun _ _ z=>z) (gc.sh.marks op'),
  ⟨fun _=>rfl,fun _ _=>rfl,fun _ _=>rfl,fun a en w h=>h⟩⟩
end
end
end
end Mine
end
section
open PySem PySem.W PyProof.Rows PySem.Calls
namespace Mine
noncomputable section
section
theorem Inv.on {g:Gh} {H:Hp} {h h':Heap} (i:Inv g H h) (k:∀ b o,(g.Z b \/ b ∈ g.μ) -> h.get? b = some o -> h'.get? b = some o) (sy:∃ o,h'.get? sysModules = some o):Inv g H h':=by
 refine ⟨i.len,i.nodup,fun l o e=>?_,i.apart,fun b o e=>⟨(i.old b o e).1,k b o (.inl (i.old b o e).1) (i.old b o e).2⟩,fun a ha=>let ⟨o,e⟩:=i.oi a ha; ⟨o,k _ _ (.inr ha) e⟩,fun a ha=>let ⟨o,e⟩:=i.oj a ha; ⟨o,k _ _ (.inl ha) e⟩,i.sys,sy⟩
 obtain ⟨a,e1,e2⟩:=i.objs l o e
 have ha:a ∈ g.μ:=List.mem_of_getElem? e1
 refine ⟨a,e1,?_⟩
 cases e2 with
 | list p r=>exact .list (let ⟨n,q⟩:=p; ⟨n,k _ _ (.inr ha) q⟩) (r.mono (fun _ _ e=>e) (fun _ z=>z) fun b o z e=>k b o (.inl z) e)
 | dict p q r=>exact .dict (p.at fun o z=>k _ o (.inr ha) z) q (r.mono (fun _ _ e=>e) (fun _ z=>z) fun b o z e=>k b o (.inl z) e)
noncomputable def Off (own:List Addr) (fs:List Env) (g:Gh) (b:Addr):Prop:=¬ g.Z b /\ b ∉ g.μ /\ b ∉ own /\ b ∉ frs fs /\ b ≠ sysModules
section
variable {n:Nat} {A:Around} {fs:List Env} {own pr W F:List Addr} {env:Env} {σ:Loc} {g g':Gh} {H H':Hp} {s s':Shared} {h h':Heap} {E:Value -> Shared -> Prop}
theorem Inv.off (i:Inv g H h) (k:∀ b o,b ∉ pr -> h.get? b = some o -> h'.get? b = some o) (hp:∀ b ∈ pr,¬ g.Z b /\ b ∉ g.μ /\ b ≠ sysModules):Inv g H h' :=
 i.on (fun b o w e=>k b o (fun m=>w.elim (hp b m).1 (hp b m).2.1) e) (let ⟨o,e⟩:=i.iu; ⟨o,k _ o (fun m=>(hp _ m).2.2 rfl) e⟩)
theorem Fm.off (m:Fm fs own env σ g h) (k:∀ b o,b ∉ pr -> h.get? b = some o -> h'.get? b = some o) (hp:∀ b ∈ pr,Off own fs g b):Fm fs own env σ g h':=by
 have ko:∀ b ∈ own,∀ o,h.get? b = some o -> h'.get? b = some o:=fun b hb o e=>k b o (fun q=>(hp b q).2.2.1 hb) e
 have kz:∀ b o,g.Z b -> h.get? b = some o -> h'.get? b = some o:=fun b o z e=>k b o (fun q=>(hp b q).1 z) e
 refine ⟨m.kind,m.jC,m.globals,m.builtins,m.eU,m.du,fun b hb=>?_,m.bH,eW (fun b hb o e=>⟨o.slots,k b o (fun q=>(hp b q).2.2.2.1 hb) e⟩) m.frames,m.isFrame,m.dO,m.fy,fun x c e=>?_,?_⟩
 ·obtain ⟨p,q,r⟩:=m.ownOut b hb
  obtain ⟨o,ho⟩:=r
  exact ⟨p,q,o,ko b hb o ho⟩
 ·obtain ⟨v,hv⟩:=m.cells x c e
  exact ⟨v,lE hv fun o e'=>⟨o.slots,ko c (m.du x c e) o e'⟩⟩
 ·obtain ⟨mm,hn,hv⟩:=m.vals
  refine ⟨mm,dB hn fun o e'=>⟨o.slots,ko _ m.eU o e'⟩,fun x v e=>?_⟩
  obtain ⟨u,r,q⟩:=hv x v e
  exact ⟨u,r.mono (fun _ _ e=>e) (fun _ z=>z) kz,q.1,fun k=>let ⟨c,e,x'⟩:=q.2 k; ⟨c,e,lE x' fun o e'=>⟨o.slots,ko c (m.du _ _ e) o e'⟩⟩⟩
theorem Here.off (x:Here n A fs own env σ g H s) (k:∀ b o,b ∉ pr -> s.heap.get? b = some o -> h'.get? b = some o) (hp:∀ b ∈ pr,Off own fs g b) {t:Nat}:Here n A fs own env σ g H { s with heap:=h',toks:=t } :=
 ⟨x.inv.off k fun b hb=>⟨(hp b hb).1,(hp b hb).2.1,(hp b hb).2.2.2.2⟩,x.fm.off k hp,x.frames,x.handled,x.depth,x.units,x.gens⟩
theorem After.off (a:After F W g s g' H' s') (k:∀ b o,b ∉ pr -> s'.heap.get? b = some o -> h'.get? b = some o) (hp:∀ b ∈ pr,s.heap.get? b = none /\ ¬ g'.Z b /\ b ∉ g'.μ /\ b ≠ sysModules) {t:Nat} :
  After F W g s g' H' { s' with heap:=h',toks:=t }:=by
 have out:∀ b o,s.heap.get? b = some o -> b ∉ pr:=fun b o e m=>aX e (hp b m).1
 refine ⟨a.inv.off k fun b hb=>(hp b hb).2,a.le,⟨fun b o e=>?_,fun b o e n f=>k b o (out b o e) (a.keep.same b o e n f),fun b o e n=>?_,fun b o e n=>?_⟩,a.gens,a.os⟩
 ·obtain ⟨o',e'⟩:=a.keep.live b o e
  exact ⟨o',k b o' (out b o e) e'⟩
 ·obtain ⟨sl,e'⟩:=a.keep.slots b o e n
  exact ⟨sl,k b _ (out b o e) e'⟩
 ·obtain ⟨o',e',n'⟩:=a.keep.nf b o e n
  exact ⟨o',k b o' (out b o e) e',n'⟩
end
section
variable {n d:Nat} {ks:List (Str × NameKind)} {X:Cx} {σ:Loc} {a b c:Expr} {x y z:TE} {pos:Pos} {j1:List (Option Expr)} {kM:List Expr} {xs:List (TE × TE)}
noncomputable def wg (env:Env) (pos:Pos):List (Option Expr) -> List Expr -> List (Sem Value × Sem Value)
 | some k :: kr,v :: vr=>(eval k env,do let x ← eval v env; standAt pos; pure x) :: wg env pos kr vr
 | _,_=>[]
noncomputable def OZ (k:Nat) (g:Gh) (h:Heap) (ps:List (AK × AV)) (vs:List (Value × Value)):Prop:=∃ es,Carries P.kind vs es /\ aU P g h ps es /\ vs.length = k
variable (n d ks) in
structure tV (j1:List (Option Expr)) (kM:List Expr) (xs:List (TE × TE)):Prop where
 ev:∀ X σ t (pos:Pos) (p:List (AK × AV) -> Hp -> Prop) (ex:EP) Q R,At (2 * n + d + 2) ks X σ t -> runK (WF n) σ xs t.H p ex -> Fi X t (OZ xs.length) p ex Q R -> wpAny P.M X.A (evalPairs (wg X.env pos j1 kM)) Q R t.s
 sh:∀ env (pos:Pos),(evalEachOpt j1 env).zip ((evalEach kM env).map fun v=>do let x ← v; standAt pos; pure x) = (wg env pos j1 kM).map fun p=>(some p.1,p.2)
 len:∀ env (pos:Pos),(wg env pos j1 kM).length = xs.length
theorem Dw:tV n d ks [] [] []:=⟨fun X σ t pos p ex Q R h q f=>evalPairs_nil (f.ok [] [] t q h.refl ⟨[],trivial,.nil,rfl⟩),fun _ _=>rfl,fun _ _=>rfl⟩
theorem Bq (ga:Good n d ks a x) (gb:Good n d ks b y) (gs:tV n d ks j1 kM xs):tV n d ks (some a :: j1) (b :: kM) ((x,y) :: xs) :=
 ⟨fun X σ t pos p ex Q R h q f=>by
  refine evalPairs_cons (ga.ev X σ t _ ex _ R h q (f.go h.refl fun v v' t1 q a1 a1' r1=>wpAny_bind (gb.ev X σ t1 _ ex _ R (h.after a1) q (f.go a1 fun u u' t2 q a2 a2' r2=>aW q fun kk hk q=>wpAny_bind (wpAny_standAt (wpAny_pure ?_))))))
  refine gs.ev X σ t2 pos _ ex _ R (h.after a2') q (f.go a2' fun ps vs t3 q a3 RC r3=>?_)
  obtain ⟨es,c1,c2,c3⟩:=r3
  exact f.ok ((kk,u) :: ps) ((v',u') :: vs) t3 q RC ⟨(kk,u') :: es,⟨iB hk ((h.after a1).vr (a2.then a3) r1),rfl,c1⟩,.cons ((h.after a2').vr a3 r2) c2,congrArg Nat.succ c3⟩,
  fun env pos=>congrArg ((some (eval a env),_) :: ·) (gs.sh env pos),fun env pos=>congrArg Nat.succ (gs.len env pos)⟩
theorem Bs {fz:Bool}:Good n d ks (.Dict [] [] pos) (.dict fz []) :=
 .val (fun X σ t p ex Q R h q f=>wpAny_Dict_empty (qj (F:=frs X.fs) (W:=t.g.μ) q (.push h.inv _) ⟨_,_,Heap.get?_push_size _ rfl,⟨rfl,rfl,rfl⟩,rfl,fun e he=>by simp at he,.nil,List.nodup_nil⟩ (fun _=>rfl) (ba _) h.inv .nil fun a H' v g' s' q a1 r=>f.ok a v ⟨g',H',s'⟩ q a1 r))
  ⟨fun _=>rfl,fun _ _=>rfl,fun _ _=>rfl,fun a en w h=>h⟩ fun _=>rfl
theorem DA {fz:Bool} (gk:tV n d ks j1 kM xs) (hx:xs.isEmpty = false) (hl:xs.length <= 15):Good n d ks (.Dict j1 kM pos) (.dict fz xs) :=
 .val (fun X σ t p ex Q R h q f=>by
  have hn:=ba t.s.heap
  obtain ⟨f1,f2⟩:=h.inv.fresh hn
  have gD:(t.s.heap.push { cls:=.type "dict",data:=.dict #[] }).get? t.s.heap.objs.size = some { cls:=.type "dict",data:=.dict #[] }:=Heap.get?_push_size _ rfl
  have a0:fJ X t ⟨t.g,t.H,{ t.s with heap:=t.s.heap.push { cls:=.type "dict",data:=.dict #[] } }⟩:=.push h.inv _
  have fF:t.s.heap.objs.size ∉ frs X.fs:=fun m=>by obtain ⟨_,o,e,_⟩:=Heap.FunFrames.mem h.here.fm.frames m; exact aX e hn
  have fs':=h.inv.pM hn
  refine wpAny_Dict_pairs (knd:=P.kind) (gk.sh X.env pos) (fun q=>?_) (by rw [gk.len]; exact hl) ?_
  ·have:=gk.len X.env pos
   rw [q] at this
   cases xs with
   | nil=>exact (by cases hx)
   | cons _ _=>exact (by cases this)
  refine gk.ev X σ ⟨t.g,t.H,_⟩ pos _ ex _ R (h.after a0) q (f.go a0 fun ps vs t1 q a1 a1' r1=>?_)
  obtain ⟨es,c1,c2,c3⟩:=r1
  have d1:t1.s.heap.get? t.s.heap.objs.size = some _:=a1.keep.same _ _ gD f1 fF
  refine ⟨es,c1,⟨_,_,0,d1,⟨rfl,rfl,rfl⟩,rfl,fun e he=>by simp at he,.nil,List.nodup_nil⟩,fun h' hd' sb=>?_⟩
  obtain ⟨ep,hda⟩:=hd'.dictAt
  have z1:¬ t1.g.Z t.s.heap.objs.size:=fun z=>(a1.le.kh _ z).elim f2 (aX gD)
  have m1:t.s.heap.objs.size ∉ t1.g.μ:=fun m=>(a1.le.mem m).elim f1 (aX gD)
  have kp:∀ b o,b ∉ [t.s.heap.objs.size] -> t1.s.heap.get? b = some o -> h'.get? b = some o:=fun b o m e=>(sb.2 b fun q=>m (List.mem_singleton.2 q)).trans e
  have a2:fJ X t ⟨t1.g,t1.H,{ t1.s with heap:=h',toks:=t1.s.toks + vs.length }⟩:=a1'.off kp fun b hb=>by rw [List.mem_singleton.1 hb]; exact ⟨hn,z1,m1,fs'⟩
  rw [hx] at q
  exact vH q a2 hda (fun h=>(by cases h)) hn m1 z1 fs' ((aU.merged .nil c2).mono (g:=t1.g) (fun _ _ e=>e) (fun _ z=>z) fun b o z e=>kp b o (fun m=>z1 (List.mem_singleton.1 m ▸ z)) e) fun w H' v g' s' q a r=>f.ok w v ⟨g',H',s'⟩ q a r)
  ⟨fun _=>rfl,fun _ _=>rfl,fun _ _=>rfl,fun a en w h=>h⟩ fun _=>rfl
end
end
end
end Mine
end
section
open PySem PySem.W PyProof.Rows PySem.Calls
namespace Mine
noncomputable section
section
section
variable {n d b':Nat} {ks:List (Str × NameKind)} {X:Cx} {σ:Loc} {a b c:Expr} {x y z:TE} {pos:Pos} {t:St}
theorem lC {x:Str} (h:aQ ks x = true):ks.lookup x = some .globalImplicit:=of_decide_eq_true h
theorem dS {f:Str} {p:Pos} {mg mb:Str -> Option Value} {v:Value} (N:Ec P mg mb) (h:At b' ks X σ t) (hd:(f == aM) = false) (hf:aQ ks f = true)
  (hv:mg f = some v \/ (mg f = none /\ mb f = some v)) {Q E:Value -> Shared -> Prop} (q:Q v t.s):wpAny P.M X.A (eval (.Name f p) X.env) Q E t.s:=by
 have hg':t.s.heap.Ns X.env.globals mg:=by rw [h.here.fm.globals]; exact N.hg.keeps h.inv.jM
 refine Name_function_global h.here.fm.kind (h.kn.glob f (lC hf)) (hv.elim (fun e=>loadGlobal_global hg' e q) fun e=>loadGlobal_builtin hg' e.1 ?_ e.2 q) hd
 rw [h.here.fm.builtins]; exact N.hb.keeps h.inv.jM
theorem Dz (G:dT P) {x:Str} {v:AV} (hd:(x == aM) = false) (hl:aQ ks x = true) (hv:Bv.lookup (nm x) = some v):Good n d ks (.Name x pos) (.lit v) :=
 .val (fun X σ t p ex Q R h q f=>G.ns.elim fun mg N=>N.elim fun mb N=>(N.glob x v hv).elim fun u e=>dS N h hd hl (.inl e.1) (f.ok v u t q h.refl (e.2 t.g t.s.heap h.inv.old)))
  ⟨fun _=>rfl,fun _ _=>rfl,fun _ _=>rfl,fun a en w h=>h⟩ fun _=>rfl
end
end
end
end Mine
end
section
open PySem PySem.W PyProof.Rows PySem.Calls
namespace Mine
noncomputable section
section
theorem jl {prog:Program} {w:World} {x:Nm}:∀ {xs:List DictEntry} {es:List (AK × Value)},Pairs (my prog w) xs es ->
  xs.find? (·.key.isStr (toS x)) = none /\ valueAt es (.s x) = none \/ ∃ e,xs.find? (·.key.isStr (toS x)) = some e /\ valueAt es (.s x) = some e.val
 | _,_,.nil=>.inl ⟨rfl,rfl⟩
 | _,_,.cons (e:=e) (kv:=kv) (es:=es) h1 h2 r=>by
  obtain ⟨k,v⟩:=kv
  have hk:e.key.isStr (toS x) = decide (k = .s x):=by
   have h1:fW k e.key = true:=h1
   cases k with
   | s y=>obtain ⟨t,ht⟩:=d9 h1; rw [ht,Bool.eq_iff_iff]; simp [Value.isStr]
   | i n=>obtain ⟨t,ht⟩:=iG h1; rw [ht]; simp [Value.isStr]
  unfold valueAt
  simp only [List.find?_cons,hk]
  by_cases q:k = .s x
  ·subst q; exact .inr ⟨e,by simp,by simp [h2]⟩
  ·simp only [q,decide_false]
   have:=jl (x:=x) r
   unfold valueAt at this
   exact this
theorem kg {prog:Program} {w:World}:∀ {xs:List DictEntry} {es:List (AK × Value)},Pairs (my prog w) xs es -> xs.any (·.refKey) = false
 | _,_,.nil=>rfl
 | _,_,.cons (e:=e) (kv:=kv) h1 h2 r=>by
  obtain ⟨k,v⟩:=kv
  have h1:fW k e.key = true:=h1
  have:e.refKey = false:=by
   cases k with
   | s y=>obtain ⟨t,ht⟩:=d9 h1; unfold DictEntry.refKey; rw [ht]
   | i n=>obtain ⟨t,ht⟩:=iG h1; unfold DictEntry.refKey; rw [ht]
  simp [this,kg r]
theorem eE.none {g:Gh} {h:Heap} {x:Nm} {fs:List (Nm × AV)} {es:List (AK × Value)} (r:eE P g h fs es):fs.lookup x = Option.none -> valueAt es (.s x) = Option.none :=
 r.bT (motive:=fun fs es=>fs.lookup x = Option.none -> valueAt es (.s x) = Option.none) (fun _=>rfl) fun {k a v as vs} z _ ih e=>by
  rw [List.lookup_cons] at e
  by_cases q:x = k
  ·subst q; rw [beq_self_eq_true] at e; cases e
  ·rw [beq_false_of_ne q] at e
   refine Eq.trans ?_ (ih e)
   unfold valueAt
   rw [List.find?_cons,decide_eq_false fun w=>q (by injection w with w; exact w.symm)]
theorem Dp {g:Gh} {h:Heap} {a:AV} {v:Value} (r:VR P g h a v):handedIn v = true:=by cases r <;> rfl
section
variable {M:Model} {A:Around} {E:Value -> Shared -> Prop} {s:Shared} {Q:Value -> Shared -> Prop}
theorem zq {f:Value} {trees:List (Bool × Sem Value)} {Q:Args -> Shared -> Prop} (hp:∀ t ∈ trees,t.1 = false) (h:wpAny M A (spliced trees) (fun vs s'=>Q ⟨vs,[]⟩ s') E s) :
  wpAny M A (evalArgs f true trees []) Q E s:=by
 cases trees with
 | nil=>
  unfold evalArgs
  show wpAny M A (spliced [] >>= _) Q E s
  exact wpAny_bind (wpAny_mono h (fun vs s' z=>wpAny_bind (wpAny_pure (wpAny_holding (wpAny_bind (wpAny_pure (wpAny_bind (wpAny_pure (wpAny_pure z)))))))) fun _ _ z=>z)
 | cons t rest=>
  obtain ⟨b,t⟩:=t
  have:b = false:=hp _ List.mem_cons_self
  subst this
  exact evalArgs_plain h
theorem cu {pos:Pos} {f:Value} {first:List Value} {trees:List (Bool × Sem Value)} (hp:∀ t ∈ trees,t.1 = false)
  (h:wpAny M A (spliced trees) (fun vs s₁=>(∃ k,(k = Keeper.frame \/ k = Keeper.machine) /\ ∀ {Q':Keeper -> Shared -> Prop},Q' k s₁ -> wpAny M A (keeperOf f) Q' E s₁) /\ wpAny M A (call f (first ++ vs)) Q E s₁) E s) :
  wpAny M A (callWith pos f first trees []) Q E s:=by
 unfold callWith
 refine wpAny_bind (wpAny_holding (zq hp (wpAny_mono h (fun vs s₁ h₁=>wpAny_bind (wpAny_standAt ?_)) fun _ _ x=>x)))
 obtain ⟨⟨k,hk,hq⟩,h₁⟩:=h₁
 have hs:(trees.any (·.1) || ([]:List (Option Str × Sem Value)).any (·.1.isNone)) = false:=by
  rw [List.any_eq_false.2 fun t ht=>by rw [hp t ht]; exact Bool.false_ne_true]; rfl
 have tail:∀ {t:Sem Value},wpAny M A t Q E s₁ -> wpAny M A (t >>= fun r=>holding [r] point >>= fun _=>pure r) Q E s₁ :=
  fun ht=>wpAny_bind (wpAny_mono ht (fun r s₂ hr=>wpAny_bind (wpAny_holding (wpAny_point (wpAny_pure hr)))) fun _ _ x=>x)
 have tail':∀ {c:Prop} [Decidable c] {t u:Sem Value},wpAny M A t Q E s₁ -> wpAny M A u Q E s₁ -> wpAny M A (if c then t else u) Q E s₁:=fun x y=>by split <;> assumption
 refine wpAny_bind (hq ?_)
 rw [hs]
 rcases hk with rfl | rfl
 ·refine tail' ?_ ?_
  ·exact tail h₁
  ·exact tail (wpAny_keep h₁)
 ·exact tail h₁
end
section
variable {A:Around} {E:Value -> Shared -> Prop}
end
section
variable {n d b':Nat} {ks:List (Str × NameKind)} {X:Cx} {σ:Loc} {a b c:Expr} {x y z:TE} {pos:Pos} {t:St} {g:Gh} {H:Hp} {s:Shared} {A:Around} {Q E:Value -> Shared -> Prop} {F:List Addr} {es:List Expr} {xs:List TE}
theorem Bx (G:dT P) (i:Inv g H s.heap) {x:Nm} {y a:AV} {o:Value} (hm:x ∈ dj) (ra:VR P g s.heap a o) (hl:((tU a).bind fun p=>p.2.lookup x) = some y)
  (h:∀ v t,VR P g s.heap y v -> Q v { s with toks:=t }):wpAny P.M A (getAttr o (toS x) true) Q E s:=by
 refine bnd hl fun p h1 hl=>?_
 cases a <;> cases h1
 obtain ⟨C,dd,ad,es,ep,rfl,z,z',hc,ho,hd,rf⟩:=ra.inv
 obtain ⟨od,I,xs,hx,hd,hk,hp⟩:=qC (c:=x) ho hd
 obtain ⟨u,e1,e2⟩:=rf.lookup hl
 obtain ⟨pg,attr,ha,hn⟩:=G.attr x hm _ _ hc
 have hlk:lookIn (toS x) od = some (some u):=by
  unfold lookIn
  rw [hd]
  dsimp only
  rcases jl (x:=x) hp with ⟨q1,q2⟩ | ⟨e,q1,q2⟩
  ·rw [q2] at e1; exact gG e1
  ·rw [q1]; rw [q2] at e1; cases e1; rfl
 exact get_value (i.oU G.T) I (plainGet_of pg).1 (findObj_own (G.T.cls _ _ hc).hasDict ha hn hlk) (Dp e2) (h u _ e2)
theorem DX {value:Expr} {env:Env} {x:Str} {pos:Pos} (sh:Shape value) (h:wpAny P.M A (eval value env) (fun o s₁=>wpAny P.M A (getAttr o x true) Q E s₁) E s) :
  wpAny P.M A (eval (.Attribute value x pos) env) Q E s:=by
 rw [arm_eval_Attribute]
 exact wpAny_bind (wpAny_mono (sh.base _ _ _ h) (fun o s₁ h₁=>wpAny_bind (wpAny_standAt (wpAny_bind (wpAny_holding (wpAny_mono h₁ (fun r s₂ h₂=>wpAny_bind (wpAny_letTemporaryGo (wpAny_pure h₂))) fun _ _ z=>z))))) fun _ _ z=>z)
theorem DF (G:dT P) {x:Str} (hm:nm x ∈ dj) (ga:Good n d ks a y):Good n d ks (.Attribute a x pos) (.attr y (nm x)) :=
 .val (fun X σ t p ex Q R h q f=>DX ga.sh (ga.ev X σ t _ ex _ R h q (f.go h.refl fun v v' t1 q a1 a1' r1=>aW q fun w hw q=>by
   have:=Bx (Q:=Q) (E:=R) (A:=X.A) G (h.after a1).inv hm r1 hw fun v tk rv=>f.ok _ v (t1.tok tk) q (a1'.il tk) rv
   rw [bJ] at this
   exact this)))
  ⟨fun _=>rfl,fun _ _=>rfl,fun _ _=>rfl,fun a en w h=>h⟩ fun _=>rfl
theorem M1 (i:Inv g H s.heap) {b:Bi} {a:AV} {p:AP} {u:Value} (e:gV b a H p) (ra:VR P g s.heap a u) (hh:A.handled = none) (h:nN F g.μ g s p Q):wpAny P.M A (call (Ao b) [u]) Q E s:=by
 cases b with
 | len=>
  unfold gV at e
  exact aW e fun vs e1 e=>J9 i e1 ra e.1 fun t k=>h _ _ _ g _ e.2 (.toks i k) (.int _ _)
 | abs=>
  unfold gV at e
  exact aW e fun m e1 e=>by obtain ⟨tk,rfl⟩:=ra.cD e1; exact Mb fun t k=>h _ _ _ g _ e (.toks i k) (.int _ _)
 | ord=>
  unfold gV at e
  exact aW e fun m e1 e=>aW e fun k e2 e=>by
   obtain ⟨tk,rfl⟩:=ra.jX e1
   cases m with
   | nil=>exact gG e2
   | cons w r=>cases r with
    | cons _ _=>exact gG e2
    | nil=>cases e2; exact JM fun t k=>h _ _ _ g _ e (.toks i k) (.int _ _)
 | chr=>
  unfold gV at e
  exact aW e fun m e1 e=>by obtain ⟨tk,rfl⟩:=ra.cD e1; exact LB e.1.1 e.1.2 fun t k=>h _ _ _ g _ e.2 (.toks i k) (.str _ _)
 | bytes=>
  unfold gV at e
  exact aW e fun vs e1 e=>aW e fun ns e2 e=>FT i e1 ra e2 e.1.1 e.1.2 hh fun h' t k kk=>h _ _ _ g _ e.2 (.grow i kk) (BP e.1.2)
 | sum=>
  unfold gV at e
  exact aW e fun vs e1 e=>aW e fun ns e2 e=>Jx i e1 ra e2 hh fun h' t k kk=>h _ _ _ g _ e.2 (.grow i kk) (.int _ _)
 | sorted=>exact vL i e ra hh h
 | dict fz=>exact zv i e ra hh h
 | list=>exact yS i e ra h
noncomputable def Kept (A:Around) (fv:Value):Prop:=∃ k,(k = Keeper.frame \/ k = Keeper.machine) /\ ∀ {E:Value -> Shared -> Prop} {M:Model} {s:Shared} {Q':Keeper -> Shared -> Prop},Q' k s -> wpAny M A (keeperOf fv) Q' E s
theorem mQ {t:String}:Kept A (.type t):=⟨.machine,.inr rfl,fun h=>wpAny_pure h⟩
theorem l7 {t:String}:Kept A (.builtin t):=⟨.machine,.inr rfl,fun h=>wpAny_pure h⟩
theorem II {b:Bi}:Kept A (Ao b):=by cases b <;> first | exact mQ | exact l7
theorem iZ (gs:rV n d ks es xs) (sh:∀ e ∈ es,Shape e) (env:Env) (pos:Pos):∀ t ∈ backTo pos (starEach es env),t.1 = false:=by
 clear gs
 induction es with
 | nil=>exact fun t ht=>absurd ht List.not_mem_nil
 | cons e es ih=>
  rw [(sh e List.mem_cons_self).star]
  exact List.forall_mem_cons.2 ⟨rfl,ih fun e h=>sh e (List.mem_cons_of_mem _ h)⟩
theorem I3 (G:dT P) {f:Str} {p':Pos} {b:Bi} (hd:(f == aM) = false) (hf:aQ ks f = true) (hb:BU f = some b \/ ((f == ("dict":Str)) = true /\ ∃ fz,b = .dict fz)) (ga:Good n d ks a x):Good n d ks (.Call (.Name f p') [a] [] pos) (.bi b x) :=
 .val (fun X σ t p ex Q R h q f'=>G.ns.elim fun mg N=>N.elim fun mb N=>by
  have hv:mg f = none /\ mb f = some (Ao b):=by
   rcases hb with hb | ⟨hb,fz,rfl⟩
   ·exact N.bi f b hb
   ·rw [beq_iff_eq] at hb; subst hb; exact N.dict
  rw [arm_eval_Call_Name']
  refine wpAny_bind (dS N h hd hf (.inr hv) ?_)
  show wpAny P.M X.A (callWith pos (Ao b) [] (backTo pos (starEach [a] X.env)) []) Q R t.s
  rw [ga.sh.star]
  obtain ⟨kk,hk,hq⟩:=II (A:=X.A) (b:=b)
  refine cu (fun t ht=>by rw [List.mem_singleton.1 ht]) (spliced_cons (ga.ev X σ t _ ex _ R h q (f'.go h.refl fun v v' t1 q a1 a1' r1=>spliced_nil ⟨⟨kk,hk,hq⟩,?_⟩)))
  exact M1 (F:=frs X.fs) (h.after a1).inv q r1 h.here.handled fun w H' w' g2 s2 q a2 r2=>f'.ok w w' ⟨g2,H',s2⟩ q (a1'.then a2) r2)
  ⟨fun _=>rfl,fun _ _=>rfl,fun _ _=>rfl,fun a en w h=>h⟩ fun _=>rfl
theorem Dy (G:dT P) {f t':Str} {p' q':Pos} {ty:Ty} (hd:(f == aM) = false) (hf:aQ ks f = true) (hi:(f == ("isinstance":Str)) = true) (hd':(t' == aM) = false) (ht:aQ ks t' = true) (hty:Ek t' = some ty) (ga:Good n d ks a x) :
  Good n d ks (.Call (.Name f p') [a,.Name t' q'] [] pos) (.isin x ty) :=
 .val (fun X σ t p ex Q R h q f'=>G.ns.elim fun mg N=>N.elim fun mb N=>(N.ty t' ty hty).elim fun tv ht1=>by
  rw [beq_iff_eq] at hi; subst hi
  rw [arm_eval_Call_Name']
  refine wpAny_bind (dS N h hd hf (.inr N.isin) ?_)
  show wpAny P.M X.A (callWith pos (.builtin "isinstance") [] (backTo pos (starEach [a,.Name t' q'] X.env)) []) Q R t.s
  rw [ga.sh.star]
  obtain ⟨kk,hk,hq⟩:=l7 (A:=X.A) (t:="isinstance")
  refine cu (List.forall_mem_cons.2 ⟨rfl,List.forall_mem_cons.2 ⟨rfl,fun t ht=>absurd ht List.not_mem_nil⟩⟩) (spliced_cons (ga.ev X σ t _ ex _ R h q (f'.go h.refl fun v v' t1 q a1 a1' r1=>?_)))
  refine spliced_cons (dS N (h.after a1) hd' ht ht1.2 (spliced_nil ⟨⟨kk,hk,hq⟩,?_⟩))
  exact IZ G.T (h.after a1).inv q.1 rfl r1 ht1.1 fun tk=>f'.ok _ _ (t1.tok tk) q.2 (a1'.il tk) (.bool _))
  ⟨fun _=>rfl,fun _ _=>rfl,fun _ _=>rfl,fun a en w h=>h⟩ fun _=>rfl
end
end
end
end Mine
end
section
open PySem PySem.W PyProof.Rows PySem.Calls
namespace Mine
noncomputable section
section
noncomputable def Lv (F:List Addr) (C:Addr -> Prop) (h h':Heap):Prop :=
 ∀ b o,h.get? b = some o -> C b -> (b ∉ F -> h'.get? b = some o) /\ ∃ sl,h'.get? b = some { o with slots:=sl }
theorem Lv.refl (F:List Addr) (C:Addr -> Prop) (h:Heap):Lv F C h h:=fun b o e _=>⟨fun _=>e,o.slots,e⟩
theorem Lv.trans {F:List Addr} {C:Addr -> Prop} {h h₁ h':Heap} (x:Lv F C h h₁) (y:Lv F C h₁ h'):Lv F C h h':=fun b o e c=>by
 obtain ⟨x1,sl,x2⟩:=x b o e c
 obtain ⟨y1,zH,y2⟩:=y b _ x2 c
 exact ⟨fun n=>(y b _ (x1 n) c).1 n,zH,y2⟩
theorem Lv.update {F:List Addr} {C:Addr -> Prop} {h:Heap} {a:Addr} (f:Obj -> Obj) (n:¬ C a):Lv F C h (h.update a f):=fun b o e c=>by
 have:a ≠ b:=fun q=>n (q ▸ c)
 have e':(h.update a f).get? b = some o:=by rw [Heap.get?_update_other _ _ this]; exact e
 exact ⟨fun _=>e',o.slots,e'⟩
theorem Lv.push {F:List Addr} {C:Addr -> Prop} {h:Heap} (o:Obj):Lv F C h (h.push o):=fun b o' e c=>by
 have e':=Heap.get?_push_of_some o e
 exact ⟨fun _=>e',o'.slots,e'⟩
theorem Lv.slots {F:List Addr} {C:Addr -> Prop} {h h':Heap} (x:Heap.SlotsOnly F h h'):Lv F C h h':=fun b o e c=>⟨fun n=>(x.2.1 b n).trans e,x.2.2 b o e⟩
noncomputable def fh (B:Heap) (g:Gh) (b:Addr):Prop:=B.get? b ≠ none \/ g.Z b \/ b ∈ g.μ
noncomputable def jt (B:Heap) (g:Gh) (c:Nm) (x:Value) (h:Heap):Prop :=
 ∃ e oe vs C T oT ts,x = .ref e /\ ¬ fh B g e /\ P.exc c = some C /\ h.get? e = some oe /\ oe.cls = .ref C /\ oe.data = .fields vs /\
  vs[1]? = some (.ref T) /\ ¬ fh B g T /\ T ≠ e /\ h.get? T = some oT /\ oT.data = .fields ts /\ 3 < ts.size
section
variable {B:Heap} {g:Gh} {c:Nm} {x:Value} {h h':Heap} {A:Around} {s:Shared} {E:Value -> Shared -> Prop}
theorem zP {e:Addr} (h1:B.get? e = none) (h2:¬ g.Z e) (h3:e ∉ g.μ):¬ fh B g e:=fun q=>q.elim (fun q=>q h1) fun q=>q.elim h2 h3
theorem sr {e:Addr} (h:¬ fh B g e):B.get? e = none /\ ¬ g.Z e /\ e ∉ g.μ :=
 ⟨by cases q:B.get? e with | none=>rfl | some o=>exact (h (.inl (by rw [q]; exact fun w=>by cases w))).elim,fun q=>h (.inr (.inl q)),fun q=>h (.inr (.inr q))⟩
end
end
namespace GJ
noncomputable def Gq (B:PySem.Heap) (g:Mine.Gh) (c:Mine.Nm) (h:PySem.Heap):Prop:=∀ (x:PySem.Value) (y:jt B g c x h),kY B g c h x
noncomputable def kq:PySem.Heap × Mine.Gh × Mine.Nm × PySem.Heap:=cx fun p=>Gq p.1 p.2.1 p.2.2.1 p.2.2.2
noncomputable def B:=kq.1
noncomputable def g:=kq.2.1
noncomputable def c:=kq.2.2.1
noncomputable def h:=kq.2.2.2
theorem tq:Gq B g c h:=by
 intro x y
 obtain ⟨e,oe,vs,C,T,oT,ts,h1,h2,h3,h4,h5,h6,h7,h8,h9,tg,h11,h12⟩:=y
 obtain ⟨a1,a2,a3⟩:=sr h2
 obtain ⟨b1,b2,b3⟩:=sr h8
 subst h1
 exact ⟨e,oe,vs,C,a1,a2,a3,h3,h4,h5,h6,(Array.getElem?_eq_some_iff.mp h7).1,.inr ⟨T,oT,ts,h7,b1,b2,b3,h9,tg,h11,h12⟩⟩
end GJ
section
section
variable {B:Heap} {g:Gh} {c:Nm} {x:Value} {h h':Heap} {A:Around} {s:Shared} {E:Value -> Shared -> Prop}
theorem jt.DP (y:jt B g c x h):kY B g c h x :=
 bD (p:=fun p=>GJ.Gq p.1 p.2.1 p.2.2.1 p.2.2.2) GJ.tq (B,g,c,h) x y
theorem jA {fr:Option Addr} {Q:Unit -> Shared -> Prop} (y:jt B g c x s.heap) (F:List Addr)
  (q:∀ h',jt B g c x h' -> Lv F (fh B g) s.heap h' -> Q () { s with heap:=h' }):wpAny P.M A (setFlight x fr) Q E s:=by
 obtain ⟨e,oe,vs,C,T,oT,ts,rfl,h2,h3,h4,h5,h6,h7,h8,h9,tg,h11,h12⟩:=y
 unfold setFlight
 refine wpAny_bind (wpAny_field h4 h6 h7 ?_)
 rw [if_pos (show (Value.ref T != Value.none) = true from by simp)]
 refine wpAny_setField tg h11 h12 (q _ ?_ (Lv.update _ h8))
 have hd:=Obj.data_mapFields h11 (·.setIfInBounds 3 (fr.elim Value.none fun f=>rawInt f))
 refine ⟨e,oe,vs,C,T,_,_,rfl,h2,h3,?_,h5,h6,h7,h8,h9,Heap.get?_update_self _ tg (Obj.isFreed_of_fields hd),hd,by simp [h12]⟩
 rw [Heap.get?_update_other _ _ h9]; exact h4
theorem zx {env:Env} (y:jt B g c x s.heap) (F:List Addr)
  (q:∀ h',jt B g c x h' -> Lv F (fh B g) s.heap h' -> E x { s with heap:=h' }):cameBackBy P.M A env E x s:=by
 have y':=y
 obtain ⟨e,oe,vs,C,T,oT,ts,rfl,h2,h3,h4,h5,h6,h7,h8,h9,tg,h11,h12⟩:=y'
 unfold cameBackBy
 refine wpAny_bind (wpAny_field h4 h6 h7 ?_)
 rw [if_neg (show ¬ (Value.ref T == Value.none) = true from by simp)]
 exact jA y F q
theorem qQ {env:Env} {outer:List Env} {L e:Addr} {oe:Obj} {vs:Array Value} {C:Addr} {head:Value} {hadNext:Bool} {Q:Unit -> Shared -> Prop}
  (hfr:A.frames = some (env :: outer)) (hl:s.heap.FunFrames {} (env :: outer)) (hf:env.frame = some L) (hP:∀ b ∈ frs (env :: outer),fh B g b)
  (live:∀ b,fh B g b -> ∃ o,s.heap.get? b = some o)
  (h2:¬ fh B g e) (hc:P.exc c = some C) (he:s.heap.get? e = some oe) (hcl:oe.cls = .ref C) (hd:oe.data = .fields vs) (hsz:1 < vs.size)
  (q:∀ h',jt B g c (.ref e) h' -> Lv (frs (env :: outer)) (fh B g) s.heap h' -> Q () { s with heap:=h' }) :
  wpAny P.M A (do let a ← frameOf env; let pl ← entryPlaceOf L hadNext; let b ← EntryCells.newEntry head a .none (rawInt L) .none pl; setField (.ref e) 1 b) Q E s:=by
 refine wpAny_bind (wpAny_frameOf_fun hfr hl hf fun h₁ hs₁=>?_)
 refine wpAny_bind (wpAny_entryPlaceOf fun pl hpl=>?_)
 unfold EntryCells.newEntry newFields
 refine wpAny_bind (wpAny_newObj_type ?_ (hpl.sizeOk5 _ _ _ _ _))
 have hef:e ∉ frs (env :: outer):=fun m=>h2 (hP e m)
 have N7:h₁.get? e = some oe:=(hs₁.2.1 e hef).trans he
 generalize hO:({ cls:=.type "traceback",dict:=none,data:=.fields ([head,.ref L,.none,rawInt L,.none] ++ (if pl.isEmpty then List.replicate 6 Value.none else pl)).toArray }:Obj) = O
 have Og:O.data = .fields ([head,.ref L,.none,rawInt L,.none] ++ (if pl.isEmpty then List.replicate 6 Value.none else pl)).toArray:=by rw [← hO]
 have N6:=Heap.get?_push_of_some (h:=h₁) O N7
 have Of:h₁.objs.size ≠ e:=Nat.ne_of_gt (Heap.lt_size N7)
 have QS:¬ fh B g h₁.objs.size:=fun p=>by
  obtain ⟨o,w⟩:=live _ p
  obtain ⟨sl,w'⟩:=hs₁.2.2 _ o w
  exact absurd (Heap.lt_size w') (Nat.lt_irrefl _)
 refine wpAny_setField N6 hd hsz (q _ ?_ ?_)
 ·have N8:=Obj.data_mapFields hd (·.setIfInBounds 1 (Value.ref h₁.objs.size))
  refine ⟨e,_,_,C,h₁.objs.size,O,_,rfl,h2,hc,Heap.get?_update_self _ N6 (Obj.isFreed_of_fields N8),?_,N8,by simp [hsz],QS,Of,?_,Og,by simp only [List.size_toArray,List.length_append,List.length_cons,List.length_nil] <;> omega⟩
  ·rw [← hcl]; exact Obj.cls_mapFields _ _
  ·rw [Heap.get?_update_other _ _ (Ne.symm Of)]
   exact Heap.get?_push_size h₁ (Obj.isFreed_of_fields Og)
 ·exact ((Lv.slots hs₁).trans (Lv.push O)).trans (Lv.update _ h2)
end
end
namespace GI
noncomputable def Gq (B:PySem.Heap) (g:Mine.Gh) (c:Mine.Nm) (A:PySem.Around) (s:PySem.Shared) (E:PySem.Value -> PySem.Shared -> Prop) (env:PySem.Env) (outer:List PySem.Env) (L:PySem.Addr) (Q:Unit -> PySem.Shared -> Prop):Prop:=∀ (x:PySem.Value) (y:kY B g c s.heap x) (hfr:A.frames = some (env :: outer)) (hl:s.heap.FunFrames {} (env :: outer)) (hf:env.frame = some L) (hP:∀ b ∈ frs (env :: outer),fh B g b) (live:∀ b,fh B g b -> ∃ o,s.heap.get? b = some o) (q:∀ h',jt B g c x h' -> Lv (frs (env :: outer)) (fh B g) s.heap h' -> Q () { s with heap:=h' }),wpAny P.M A (noteFrame x env) Q E s
noncomputable def kq:PySem.Heap × Mine.Gh × Mine.Nm × PySem.Around × PySem.Shared × (PySem.Value -> PySem.Shared -> Prop) × PySem.Env × List PySem.Env × PySem.Addr × (Unit -> PySem.Shared -> Prop):=cx fun p=>Gq p.1 p.2.1 p.2.2.1 p.2.2.2.1 p.2.2.2.2.1 p.2.2.2.2.2.1 p.2.2.2.2.2.2.1 p.2.2.2.2.2.2.2.1 p.2.2.2.2.2.2.2.2.1 p.2.2.2.2.2.2.2.2.2
noncomputable def B:=kq.1
noncomputable def g:=kq.2.1
noncomputable def c:=kq.2.2.1
noncomputable def A:=kq.2.2.2.1
noncomputable def s:=kq.2.2.2.2.1
noncomputable def E:=kq.2.2.2.2.2.1
noncomputable def env:=kq.2.2.2.2.2.2.1
noncomputable def outer:=kq.2.2.2.2.2.2.2.1
noncomputable def L:=kq.2.2.2.2.2.2.2.2.1
noncomputable def Q:=kq.2.2.2.2.2.2.2.2.2
theorem tq:Gq B g c A s E env outer L Q:=by
 intro x y hfr hl hf hP live q
 obtain ⟨e,oe,vs,C,k1,k2,k3,hc,he,hcl,hd,hsz,w⟩:=y
 have h2:=zP k1 k2 k3
 unfold noteFrame
 simp only [hf]
 rcases w with w | ⟨T,oT,ts,t1,t2,t3,t4,t5,t6,t7,t8⟩
 ·refine wpAny_bind (wpAny_field he hd w ?_)
  rw [if_neg (by decide)]
  exact qQ hfr hl hf hP live h2 hc he hcl hd hsz q
 ·have hT:=zP t2 t3 t4
  refine wpAny_bind (wpAny_field he hd t1 ?_)
  rw [if_pos (show (Value.ref T != Value.none) = true from by simp)]
  refine wpAny_bind (wpAny_field t6 t7 (Array.getElem?_eq_getElem t8) ?_)
  split
  ·have z:jt B g c (.ref e) s.heap:=⟨e,oe,vs,C,T,oT,ts,rfl,h2,hc,he,hcl,hd,t1,hT,t5,t6,t7,t8⟩
   exact wpAny_pure (q _ z (.refl _ _ _))
  ·refine wpAny_bind (wpAny_setField t6 t7 t8 ?_)
   have other:∀ b,b ≠ T -> (s.heap.update T (Obj.mapFields (·.setIfInBounds 3 Value.none))).get? b = s.heap.get? b:=fun b hb=>Heap.get?_update_other _ _ (Ne.symm hb)
   have pT:∀ b,fh B g b -> b ≠ T:=fun b hb q=>hT (q ▸ hb)
   refine qQ (s:={ s with heap:=s.heap.update T (Obj.mapFields (·.setIfInBounds 3 Value.none)) }) hfr ?_ hf hP (fun b hb=>?_) h2 hc ((other e (Ne.symm t5)).trans he) hcl hd hsz fun h' z lv=>q h' z ((Lv.update _ hT).trans lv)
   ·refine hl.of_keeps fun b o hb hnf=>⟨o,(other b fun w=>?_).trans hb,rfl⟩
    subst w; rw [t6] at hb; injection hb with hb; subst hb; exact hnf ts t7
   ·obtain ⟨o,w⟩:=live b hb
    exact ⟨o,(other b (pT b hb)).trans w⟩
end GI
section
section
variable {B:Heap} {g:Gh} {c:Nm} {x:Value} {h h':Heap} {A:Around} {s:Shared} {E:Value -> Shared -> Prop}
theorem lT {env:Env} {outer:List Env} {L:Addr} {Q:Unit -> Shared -> Prop} (y:kY B g c s.heap x) (hfr:A.frames = some (env :: outer)) (hl:s.heap.FunFrames {} (env :: outer)) (hf:env.frame = some L) (hP:∀ b ∈ frs (env :: outer),fh B g b) (live:∀ b,fh B g b -> ∃ o,s.heap.get? b = some o) (q:∀ h',jt B g c x h' -> Lv (frs (env :: outer)) (fh B g) s.heap h' -> Q () { s with heap:=h' }):wpAny P.M A (noteFrame x env) Q E s :=
 bD (p:=fun p=>GI.Gq p.1 p.2.1 p.2.2.1 p.2.2.2.1 p.2.2.2.2.1 p.2.2.2.2.2.1 p.2.2.2.2.2.2.1 p.2.2.2.2.2.2.2.1 p.2.2.2.2.2.2.2.2.1 p.2.2.2.2.2.2.2.2.2) GI.tq (B,g,c,A,s,E,env,outer,L,Q) x y hfr hl hf hP live q
theorem A3 {env:Env} {outer:List Env} {L:Addr} {Q:Unit -> Shared -> Prop} (y:kY B g c s.heap x)
  (hfr:A.frames = some (env :: outer)) (hl:s.heap.FunFrames {} (env :: outer)) (hf:env.frame = some L) (hP:∀ b ∈ frs (env :: outer),fh B g b)
  (live:∀ b,fh B g b -> ∃ o,s.heap.get? b = some o)
  (q:∀ h',jt B g c x h' -> Lv (frs (env :: outer)) (fh B g) s.heap h' -> Q () { s with heap:=h' }):wpAny P.M A (leaving env x) Q E s:=by
 unfold leaving
 refine wpAny_bind (lT y hfr hl hf hP live fun h₁ y₁ Qg=>?_)
 exact jA (s:={ s with heap:=h₁ }) y₁ (frs (env :: outer)) fun h₂ y₂ Qf=>q h₂ y₂ (Qg.trans Qf)
end
theorem After.noted {F W:List Addr} {g g':Gh} {s s':Shared} {H':Hp} {B h':Heap} (a:After F W g s g' H' s') (hB:∀ b o,s.heap.get? b = some o -> B.get? b ≠ none) (hF:∀ b ∈ F,¬ g'.Z b /\ b ∉ g'.μ)
  (sy:∃ o,s.heap.get? sysModules = some o) (lv:Lv F (fh B g') s'.heap h'):After F W g s g' H' { s' with heap:=h' }:=by
 have xn:∀ b o,s.heap.get? b = some o -> fh B g' b:=fun b o e=>.inl (hB b o e)
 have k:∀ b o,(g'.Z b \/ b ∈ g'.μ) -> s'.heap.get? b = some o -> h'.get? b = some o:=fun b o w e=>(lv b o e (.inr w)).1 fun m=>w.elim (hF b m).1 (hF b m).2
 refine ⟨a.inv.on k ?_,a.le,⟨fun b o e=>?_,fun b o e n f=>?_,fun b o e n=>?_,fun b o e n=>?_⟩,a.gens,a.os⟩
 ·obtain ⟨o,e⟩:=sy
  obtain ⟨o',e'⟩:=a.keep.live _ o e
  obtain ⟨_,sl,yg⟩:=lv _ o' e' (xn _ o e)
  exact ⟨_,yg⟩
 ·obtain ⟨o',e'⟩:=a.keep.live b o e
  obtain ⟨_,sl,yg⟩:=lv _ o' e' (xn _ o e)
  exact ⟨_,yg⟩
 ·exact (lv b o (a.keep.same b o e n f) (xn b o e)).1 f
 ·obtain ⟨sl,e'⟩:=a.keep.slots b o e n
  obtain ⟨_,zH,yg⟩:=lv b _ e' (xn b o e)
  exact ⟨zH,yg⟩
 ·obtain ⟨o',e',n'⟩:=a.keep.nf b o e n
  obtain ⟨_,zH,yg⟩:=lv b _ e' (xn b o e)
  exact ⟨_,yg,n'⟩
theorem iD {h h':Heap} (k:∀ b o,h.get? b = some o -> NF o -> ∃ o',h'.get? b = some o' /\ NF o'):∀ {fs:List Env},h.FunFrames {} fs -> h'.FunFrames {} fs
 | [],_=>trivial
 | env :: rest,⟨hk,⟨L,o,hf,hn,ho,hd⟩,hr⟩=>by
  obtain ⟨o',e,n⟩:=k L o ho hd
  exact ⟨hk,⟨L,o',hf,hn,e,n⟩,iD k hr⟩
end
end
end Mine
end
section
open PySem PySem.W PyProof.Rows PySem.Calls
namespace Mine
noncomputable section
section
section
variable {ks:List (Str × NameKind)}
theorem pW {x:Str} (h:isVar ks x = true):ks.lookup x = some .local \/ ks.lookup x = some .cell:=(of_decide_eq_true h).2
theorem kR {x:Str} (h:isVar ks x = true):nm x ≠ dot0:=(of_decide_eq_true h).1
end
noncomputable abbrev fG (X:Cx) (t t':St):Prop:=After (frs X.fs) (X.own ++ t.g.μ) t.g t.s t'.g t'.H t'.s
structure gj (n:Nat) (ks:List (Str × NameKind)) (X:Cx) (σ:Loc) (t:St):Prop where
 at_:At (2 * n + 2 + 2) ks X σ t
 top:∃ fs,X.fs = X.env :: fs
 frame:X.env.frame ≠ none
structure Ends (X:Cx) (t:St) (nm bk:LP) (rt:AP) (ex:EP) (Q:PySem.Flow -> Shared -> Prop) (R:Value -> Shared -> Prop):Prop where
 n:∀ σ' t',nm σ' t'.H -> fG X t t' -> Fm X.fs X.own X.env σ' t'.g t'.s.heap -> Q .next t'.s
 b:∀ σ' t',bk σ' t'.H -> fG X t t' -> Fm X.fs X.own X.env σ' t'.g t'.s.heap -> Q .brk t'.s
 r:∀ v u t',rt v t'.H -> fG X t t' -> VR P t'.g t'.s.heap v u -> Q (.ret u) t'.s
 e:∀ c x t',ex c t'.H -> fG X t t' -> kY t.s.heap t'.g c t'.s.heap x -> R x t'.s
noncomputable def lg (n:Nat) (ks:List (Str × NameKind)) (st:Stmt) (x:TS):Prop:=∀ X σ t nm bk rt ex Q R,gj n ks X σ t -> x (WF n) σ t.H nm bk rt ex -> Ends X t nm bk rt ex Q R -> wpAny P.M X.A (PySem.exec st X.env) Q R t.s
noncomputable def fB (n:Nat) (ks:List (Str × NameKind)) (sts:List Stmt) (xs:List TS):Prop:=∀ X σ t nm bk rt ex Q R,gj n ks X σ t -> aH (WF n) xs σ t.H nm bk rt ex -> Ends X t nm bk rt ex Q R -> wpAny P.M X.A (PySem.execs sts X.env) Q R t.s
structure B4 (D:Df):Prop where
 kind:D.sc.kind = .function
 co:D.sc.isCoroutine = false
 gen:D.sc.isGenerator = false
 nodup:D.params.Nodup
 vars:∀ x ∈ D.params,isVar D.sc.names (toS x) = true
 free:∀ x,D.sc.names.lookup x ≠ some .free
theorem gB {α β:Type} [BEq β] [LawfulBEq β] {p:β × α} {l:List (β × α)} (h:p ∈ l):(l.lookup p.1).isSome = true:=List.lookup_isSome_iff.mpr ⟨p,h,beq_self_eq_true _⟩
theorem om {α β:Type} [BEq β] [LawfulBEq β] {k:β} {l:List (β × α)} (h:(l.map (·.1)).Nodup):l.reverse.lookup k = l.lookup k:=by
 induction l with
 | nil=>rfl
 | cons p r ih=>
  obtain ⟨n1,n2⟩:=List.nodup_cons.mp h
  rw [List.reverse_cons,List.lookup_append,ih n2,List.lookup_cons,List.lookup_cons]
  cases q:k == p.1 with
  | true=>
   cases eq_of_beq q
   have:r.lookup p.1 = none:=List.lookup_eq_none_iff.mpr fun y hy=>bne_iff_ne.mpr fun w=>n1 (show p.1 ∈ r.map (·.1) from w ▸ List.mem_map_of_mem hy)
   rw [this]; rfl
  | false=>exact Option.or_none
theorem zB {k:Str -> Option NameKind} {x:Str} {bs:List (Str × Value)}:∀ {m:Str -> Option Value},x ∉ bs.map (·.1) -> bindL k bs m x = m x:=by
 induction bs with
 | nil=>exact fun _=>rfl
 | cons p r ih=>
  intro m h
  refine (ih fun q=>h (List.mem_cons_of_mem _ q)).trans ?_
  by_cases c:k p.1 = some .local
  ·rw [if_pos c]; exact if_neg (c:=x = p.1) fun q=>h (q ▸ List.mem_cons_self)
  ·rw [if_neg c]
theorem zC {k:Str -> Option NameKind} {x:Str} {bs:List (Str × Value)}:∀ {m:Str -> Option Value},x ∉ bs.map (·.1) -> bindC k bs m x = m x:=by
 induction bs with
 | nil=>exact fun _=>rfl
 | cons p r ih=>
  intro m h
  refine (ih fun q=>h (List.mem_cons_of_mem _ q)).trans ?_
  by_cases c:k p.1 = some .local
  ·rw [if_pos c]
  ·rw [if_neg c]; exact if_neg (c:=x = p.1) fun q=>h (q ▸ List.mem_cons_self)
theorem rB {ps:List Nm} {us:List Value} {x:Str} (h:x ∈ ((ps.map toS).zip us).map (·.1)):x ∈ ps.map toS:=by
 obtain ⟨p,hp,rfl⟩:=List.mem_map.mp h
 exact (List.of_mem_zip hp).1
theorem km {x:Nm} {v:AV} {ps:List Nm} {vs:List AV} (e:look (ps.zip vs) x = some v):x ∈ ps:=by
 induction ps generalizing vs with
 | nil=>cases e
 | cons p ps ih=>
  cases vs with
  | nil=>cases e
  | cons w vs=>
   by_cases q:x = p
   ·exact q ▸ List.mem_cons_self
   ·unfold look at e
    rw [List.zip_cons_cons,List.lookup_cons,beq_false_of_ne q] at e
    exact List.mem_cons_of_mem _ (ih e)
theorem FY {g:Gh} {h:Heap} {k:Str -> Option NameKind} {x:Nm} {ps:List Nm} {vs:List AV} {us:List Value} {m cm:Str -> Option Value} {v:AV} (nd:ps.Nodup) (r:aC P g h vs us) (e:look (ps.zip vs) x = some v) :
  ∃ u,VR P g h v u /\ (k (toS x) = some .local -> bindL k ((ps.map toS).zip us) m (toS x) = some u) /\ (k (toS x) = some .cell -> bindC k ((ps.map toS).zip us) cm (toS x) = some u) :=
 r.bT (motive:=fun vs us=>∀ (ps:List Nm) m cm,ps.Nodup -> look (ps.zip vs) x = some v -> ∃ u,VR P g h v u /\ (k (toS x) = some .local -> bindL k ((ps.map toS).zip us) m (toS x) = some u) /\ (k (toS x) = some .cell -> bindC k ((ps.map toS).zip us) cm (toS x) = some u))
  (fun ps m cm _ e=>by rw [List.zip_nil_right] at e; cases e) (fun {a u as us} r _ ih ps m cm nd e=>by
  cases ps with
  | nil=>cases e
  | cons p ps=>
   obtain ⟨P7,P6⟩:=List.nodup_cons.mp nd
   unfold look at e
   rw [List.zip_cons_cons,List.lookup_cons] at e
   by_cases q:x = p
   ·subst q
    rw [beq_self_eq_true] at e; cases e
    have Nr:toS x ∉ ((ps.map toS).zip us).map (·.1):=fun w=>by
     obtain ⟨y,hy,hxy⟩:=List.mem_map.mp (rB w)
     exact P7 (j7 hxy ▸ hy)
    refine ⟨u,r,fun hk=>?_,fun hk=>?_⟩
    ·refine (zB Nr).trans ?_
     rw [if_pos hk]; exact if_pos rfl
    ·refine (zC Nr).trans ?_
     rw [if_neg (by rw [hk]; exact nofun)]; exact if_pos rfl
   ·rw [beq_false_of_ne q] at e
    exact ih ps _ _ P6 e) ps m cm nd e
noncomputable def ownOf (env:Env) (L:Addr):List Addr:=env.cells.map fun p=>(env.cells.lookup p.1).getD L
structure Pre (n:Nat) (A:Around) (fs:List Env) (g:Gh) (H:Hp) (s:Shared):Prop where
 inv:Inv g H s.heap
 bH:∀ b ∈ frs fs,¬ g.Z b /\ b ∉ g.μ
 Rc:s.heap.FunFrames {} fs
 frames:A.frames = some fs
 handled:A.handled = none
 depth:A.depth + 2 * n < recursionLimit
 units:A.units + 10 * n < cLine
 gens:s.gens = #[]
structure Mr (fs:List Env) (t:St) (p:AP) (ex:EP) (Q R:Value -> Shared -> Prop):Prop where
 ok:∀ a b (t':St),p a t'.H -> After (frs fs) t.g.μ t.g t.s t'.g t'.H t'.s -> VR P t'.g t'.s.heap a b -> Q b t'.s
 exc:∀ c x (t':St),ex c t'.H -> After (frs fs) t.g.μ t.g t.s t'.g t'.H t'.s -> kY t.s.heap t'.g c t'.s.heap x -> R x t'.s
end
namespace GH
noncomputable def Gq (xs:List Mine.TS) (a:PySem.Addr) (vs:List Mine.AV) (us:List PySem.Value) (A:PySem.Around) (fs:List PySem.Env) (g:Mine.Gh) (H:Mine.Hp) (s:PySem.Shared) (Q:PySem.Value -> PySem.Shared -> Prop) (E:PySem.Value -> PySem.Shared -> Prop) (p:Mine.AP) (ex:Mine.EP):Prop:=∀ (n:Nat) (G:dT P) (D:Df) (dk:B4 D) (body:fB n D.sc.names D.body xs) (F:kL P D a) (hlen:vs.length = D.params.length) (h:Pre (2 * n + 5) A fs g H s) (rv:aC P g s.heap vs us) (o:aH (WF n) xs (D.params.zip vs) H (fun _ H=>p .none H) (fun _ _=>False) p ex) (f:Mr fs ⟨g,H,s⟩ p ex Q E),wpAny P.M A (call (.ref a) us) Q E s
noncomputable def kq:List Mine.TS × PySem.Addr × List Mine.AV × List PySem.Value × PySem.Around × List PySem.Env × Mine.Gh × Mine.Hp × PySem.Shared × (PySem.Value -> PySem.Shared -> Prop) × (PySem.Value -> PySem.Shared -> Prop) × Mine.AP × Mine.EP:=cx fun p=>Gq p.1 p.2.1 p.2.2.1 p.2.2.2.1 p.2.2.2.2.1 p.2.2.2.2.2.1 p.2.2.2.2.2.2.1 p.2.2.2.2.2.2.2.1 p.2.2.2.2.2.2.2.2.1 p.2.2.2.2.2.2.2.2.2.1 p.2.2.2.2.2.2.2.2.2.2.1 p.2.2.2.2.2.2.2.2.2.2.2.1 p.2.2.2.2.2.2.2.2.2.2.2.2
noncomputable def xs:=kq.1
noncomputable def a:=kq.2.1
noncomputable def vs:=kq.2.2.1
noncomputable def us:=kq.2.2.2.1
noncomputable def A:=kq.2.2.2.2.1
noncomputable def fs:=kq.2.2.2.2.2.1
noncomputable def g:=kq.2.2.2.2.2.2.1
noncomputable def H:=kq.2.2.2.2.2.2.2.1
noncomputable def s:=kq.2.2.2.2.2.2.2.2.1
noncomputable def Q:=kq.2.2.2.2.2.2.2.2.2.1
noncomputable def E:=kq.2.2.2.2.2.2.2.2.2.2.1
noncomputable def p:=kq.2.2.2.2.2.2.2.2.2.2.2.1
noncomputable def ex:=kq.2.2.2.2.2.2.2.2.2.2.2.2
theorem tq:Gq xs a vs us A fs g H s Q E p ex:=by
 intro n G D dk body F hlen h rv o f
 obtain ⟨fd,F,HG⟩:=F.all
 obtain ⟨ob,f1,f2⟩:=F.obj
 have f3:=F.body
 have f4:=F.code
 have f5:=F.closure
 have f6:=F.globals
 have f7:=F.builtins
 have f8:fd.scope.kind = .function:=F.sc ▸ dk.kind
 have f9:fd.scope.isCoroutine = false:=F.sc ▸ dk.co
 have Lo:fd.scope.isGenerator = false:=F.sc ▸ dk.gen
 have Ln:=dk.nodup
 have HF:∀ x ∈ D.params,isVar fd.scope.names (toS x) = true:=F.sc ▸ dk.vars
 have DN:∀ x,fd.scope.names.lookup x ≠ some .free:=F.sc ▸ dk.free
 have Lm:fB n fd.scope.names D.body xs:=F.sc ▸ body
 clear F dk body
 have KP:=h.inv.jM
 have E9:A.depth < recursionLimit:=uG (k:=0) h.depth (Nat.zero_le _)
 have Dl:∀ x ∈ (D.params.map toS).zip us,fd.scope.names.lookup x.1 = some .local \/ (fd.scope.names.lookup x.1 = some .cell /\ ((cellsFrom (s.heap.objs.size + 1) fd.scope.names []).lookup x.1).isSome = true):=fun x hx=>by
  obtain ⟨p,hp,Ht⟩:=List.mem_map.mp (List.of_mem_zip (a:=x.1) (b:=x.2) hx).1
  rw [← Ht]
  rcases pW (HF p hp) with q | q
  ·exact .inl q
  ·exact .inr ⟨q,cellsFrom_some _ _ _ (.inl q)⟩
 refine wpAny_call (codeAny_call_cells E9 (KP _ _ f1) f2 (G.nolimit.keeps KP) (f4.keeps KP) f3 (HG us (by rw [← rv.length,hlen])) f5 Dl (fun s₁ ic=>?_) f9 Lo f8)
 obtain ⟨h₁,tk,hs₁⟩:=ic.toInCall.same
 have kp:∀ b o,s.heap.get? b = some o -> s₁.heap.get? b = some o:=ic.toInCall.keep
 have Hw:s₁.gens = s.gens:=by rw [hs₁]
 have QD:s₁.os = s.os:=by rw [hs₁]
 generalize hL:s.heap.objs.size = L at ic Dl ⊢
 have K3:∀ b,L <= b -> s.heap.get? b = none:=fun b hb=>Heap.get?_none_of_le (by rw [hL]; exact hb)
 have i₁:Inv g H s₁.heap:=h.inv.grow kp
 generalize hc:callEnvC fd L a = cenv at ic ⊢
 have hcl:cenv.locals = L:=by rw [← hc]; rfl
 have hcs:cenv.cells = cellsFrom (L + 1) fd.scope.names []:=by rw [← hc]; rfl
 have hcf:cenv.frame = some L:=by rw [← hc]; rfl
 have hck:∀ x,cenv.kindOf x = fd.scope.names.lookup x:=fun x=>by rw [← hc]; rfl
 have xC:cenv.scope.kind = .function:=by rw [← hc]; exact f8
 rw [hcl] at ic
 have own':∀ b ∈ L :: ownOf cenv L,L <= b /\ ∃ o,s₁.heap.get? b = some o:=fun b hb=>by
  rcases List.mem_cons.mp hb with rfl | hb
  ·obtain ⟨o,es,ep,e,_⟩:=ic.toInCall.ns
   exact ⟨Nat.le_refl _,o,e⟩
  ·obtain ⟨⟨x,c⟩,hx,rfl⟩:=List.mem_map.mp hb
   obtain ⟨d,hd⟩:=Option.isSome_iff_exists.mp (gB hx)
   simp only [hd,Option.getD_some]
   obtain ⟨o,e,_⟩:=ic.cell x d hd
   exact ⟨Nat.le_of_lt (ic.above x d (mem_of_lookup hd)),o,e⟩
 have fresh':∀ b,L <= b -> ¬ g.Z b /\ b ∉ g.μ:=fun b hb=>let ⟨p,q⟩:=h.inv.fresh (K3 b hb); ⟨q,p⟩
 have su:look (D.params.zip vs) dot0 = none:=by
  cases q:look (D.params.zip vs) dot0 with
  | none=>rfl
  | some v=>
   have:dot0 ∈ D.params:=km q
   have:=kR (HF _ this)
   simp at this
 have hfm:Fm (cenv :: fs) (L :: ownOf cenv L) cenv (D.params.zip vs) g s₁.heap:=by
  refine ⟨xC,su,by rw [← hc]; exact f6,by rw [← hc]; exact f7,by rw [hcl]; exact List.mem_cons_self,fun x c e=>List.mem_cons_of_mem _ (List.mem_map.mpr ⟨_,mem_of_lookup e,by simp [e]⟩),fun b hb=>?_,fun b hb=>?_,?_,fun b hb=>?_,ic.apart,fun x c e=>?_,fun x c e=>⟨_,ic.cell x c e⟩,?_⟩
  ·obtain ⟨q1,q2⟩:=own' b hb
   exact ⟨(fresh' b q1).1,(fresh' b q1).2,q2⟩
  ·rw [show frs (cenv :: fs) = L :: frs fs from List.filterMap_cons_some hcf] at hb
   rcases List.mem_cons.mp hb with rfl | hb
   ·exact fresh' b (Nat.le_refl _)
   ·exact h.bH b hb
  ·exact Heap.FunFrames.cons (by rw [xC]; exact fun q=>by cases q) hcf ic.toInCall.ns (by rfl) (eW (fun b hb o e=>⟨o.slots,kp b o e⟩) h.Rc)
  ·rw [hcf] at hb; cases hb; simp [frs,hcf]
  ·rw [hcl]; exact Nat.ne_of_gt (ic.above x c (mem_of_lookup e))
  ·refine ⟨_,by rw [hcl]; exact ic.toInCall.ns,fun x v e=>?_⟩
   obtain ⟨u,r,q1,q2⟩:=FY (k:=cenv.kindOf) (m:=fun _=>none) (cm:=fun _=>none) Ln rv e
   refine ⟨u,r.mono (fun _ _ e=>e) (fun _ z=>z) fun b o _ e=>kp b o e,q1,fun kk=>?_⟩
   rcases kk with kk | kk
   ·obtain ⟨c,hc'⟩:=Option.isSome_iff_exists.mp (cellsFrom_some _ (L + 1) _ (.inl <| show fd.scope.names.lookup (toS x) = some .cell by rw [← hck]; exact kk))
    rw [← hcs] at hc'
    exact ⟨c,hc',by have:=ic.cell _ _ hc'; rw [q2 kk] at this; exact this⟩
   ·rw [hck] at kk; exact (DN _ kk).elim
 have hkn:Kn fd.scope.names cenv:=by
  refine ⟨fun x e=>by rw [hck]; exact e,fun x e=>by rw [hck]; exact e,fun x e=>⟨by rw [hck]; exact e,?_⟩,fun x e=>(DN x e).elim⟩
  rw [hcs]; exact Option.isSome_iff_exists.mp (cellsFrom_some _ _ _ (.inl e))
 have hh:gj n fd.scope.names ⟨A.deeper cenv,cenv :: fs,L :: ownOf cenv L,cenv⟩ (D.params.zip vs) ⟨g,H,s₁⟩ :=
  ⟨⟨⟨i₁,hfm,Around.frames_deeper h.frames,h.handled,LL (k:=1) h.depth (by decide),LL (k:=3) h.units (by decide),by rw [Hw]; exact h.gens⟩,hkn⟩,⟨fs,rfl⟩,by rw [hcf]; exact fun q=>nomatch q⟩
 have back:∀ {g' H' s'},After (frs (cenv :: fs)) (L :: ownOf cenv L ++ g.μ) g s₁ g' H' s' -> After (frs fs) g.μ g s g' H' s':=fun {g' H' s'} x=>by
  have hw:∀ b o,s.heap.get? b = some o -> b ∉ g.μ -> b ∉ L :: ownOf cenv L ++ g.μ:=fun b o e n m=>(List.mem_append.mp m).elim (fun q=>aX e (K3 b (own' b q).1)) n
  have Dj:∀ b o,s.heap.get? b = some o -> b ∉ frs fs -> b ∉ frs (cenv :: fs):=fun b o e n m=>by
   rw [show frs (cenv :: fs) = L :: frs fs from List.filterMap_cons_some hcf] at m
   rcases List.mem_cons.mp m with rfl | m
   ·exact aX e (K3 _ (Nat.le_refl _))
   ·exact n m
  refine ⟨x.inv,?_,⟨fun b o e=>x.keep.live b o (kp b o e),fun b o e n f=>x.keep.same b o (kp b o e) (hw b o e n) (Dj b o e f),fun b o e n=>x.keep.slots b o (kp b o e) (hw b o e n),fun b o e n=>x.keep.nf b o (kp b o e) n⟩,x.gens.trans Hw,x.os.trans QD⟩
  obtain ⟨ext,e1,e2⟩:=x.le.μ
  have fr:∀ b,s₁.heap.get? b = none -> s.heap.get? b = none:=fun b e=>by
   cases q:s.heap.get? b with
   | none=>rfl
   | some o=>have:=kp b o q; rw [this] at e; cases e
  exact ⟨⟨ext,e1,fun b hb=>fr b (e2 b hb)⟩,x.le.Z,fun b z=>(x.le.kh b z).imp id (fr b)⟩
 have fr:∀ b,s₁.heap.get? b = none -> s.heap.get? b = none:=fun b e=>by
  cases q:s.heap.get? b with
  | none=>rfl
  | some o=>have:=kp b o q; rw [this] at e; cases e
 refine Lm _ _ _ _ _ _ _ (fun f s'=>Q (match f with | .ret v=>v | _=>.none) s')
  (fun e s'=>wpAny P.M (A.deeper cenv) (leaving cenv e) (fun _ s''=>E e s'') (fun e' s''=>E e' s'') s') hh o
  ⟨fun σ' t' q a _=>f.ok _ _ t' q (back a) .none,fun _ _ q _ _=>q.elim,fun v u t' q a r=>f.ok v u t' q (back a) r,fun c x t' q ax y=>?_⟩
 have hF:∀ b ∈ frs (cenv :: fs),fh s₁.heap t'.g b:=fun b hb=>by
  obtain ⟨_,o,e,_⟩:=Heap.FunFrames.mem hfm.frames hb
  exact .inl (by rw [e]; exact fun q=>nomatch q)
 have live:∀ b,fh s₁.heap t'.g b -> ∃ o,t'.s.heap.get? b = some o:=fun b p=>by
  rcases p with p | p | p
  ·cases q:s₁.heap.get? b with
   | none=>exact (p q).elim
   | some o=>exact ax.keep.live b o q
  ·exact ax.inv.oj b p
  ·exact ax.inv.oi b p
 have Ra:t'.s.heap.FunFrames {} (cenv :: fs):=iD ax.keep.nf hfm.frames
 refine A3 y (Around.frames_deeper h.frames) Ra hcf hF live fun h' y' lv=>?_
 have Rz:=After.noted ax (fun b o e=>by rw [e]; exact fun q=>nomatch q) (fun b hb=>?_) (let ⟨o,e⟩:=h.inv.iu; ⟨o,kp _ o e⟩) lv
 ·exact f.exc c x ⟨t'.g,t'.H,_⟩ q (back Rz) (y'.DP.base fr)
 ·obtain ⟨q1,q2⟩:=hfm.bH b hb
  obtain ⟨_,o,e,_⟩:=Heap.FunFrames.mem hfm.frames hb
  exact ⟨fun z=>(ax.le.kh b z).elim q1 (aX e),fun z=>(ax.le.mem z).elim q2 (aX e)⟩
end GH
section
theorem vE {n:Nat} (G:dT P) {D:Df} (dk:B4 D) {xs:List TS} (body:fB n D.sc.names D.body xs) {a:Addr} {vs:List AV} {us:List Value} (F:kL P D a) (hlen:vs.length = D.params.length) {A:Around} {fs:List Env} {g:Gh} {H:Hp} {s:Shared} {Q E:Value -> Shared -> Prop} {p:AP} {ex:EP} (h:Pre (2 * n + 5) A fs g H s) (rv:aC P g s.heap vs us) (o:aH (WF n) xs (D.params.zip vs) H (fun _ H=>p .none H) (fun _ _=>False) p ex) (f:Mr fs ⟨g,H,s⟩ p ex Q E):wpAny P.M A (call (.ref a) us) Q E s :=
 bD (p:=fun p=>GH.Gq p.1 p.2.1 p.2.2.1 p.2.2.2.1 p.2.2.2.2.1 p.2.2.2.2.2.1 p.2.2.2.2.2.2.1 p.2.2.2.2.2.2.2.1 p.2.2.2.2.2.2.2.2.1 p.2.2.2.2.2.2.2.2.2.1 p.2.2.2.2.2.2.2.2.2.2.1 p.2.2.2.2.2.2.2.2.2.2.2.1 p.2.2.2.2.2.2.2.2.2.2.2.2) GH.tq (xs,a,vs,us,A,fs,g,H,s,Q,E,p,ex) n G D dk body F hlen h rv o f
end
end
end Mine
end
section
open PySem PySem.W PyProof.Rows PySem.Calls
namespace Mine
noncomputable section
section
noncomputable def nQ (n:Nat):Prop:=∀ f D a,kT f = some D -> kL P D a -> ∀ d X ks σ t vs us (p:AP) (ex:EP) Q R,At (2 * n + (d + 1) + 2) ks X σ t -> aC P t.g t.s.heap vs us -> WF n f vs t.H p ex -> Fi X t (VR P) p ex Q R -> wpAny P.M X.A (call (.ref a) us) Q R t.s
theorem Ia {f:Nm} {vs:List AV} {H:Hp} {p:AP} {ex:EP} (h:WF 0 f vs H p ex):False:=by with_unfolding_all exact h
theorem zD {n:Nat} {f:Nm} {vs:List AV} {H:Hp} {p:AP} {ex:EP} (h:WF (n + 1) f vs H p ex):∃ fn,aG.lookup f = some fn /\ fn.params.length = vs.length /\ aH (WF n) fn.body (fn.params.zip vs) H (fun _ H=>p .none H) (fun _ _=>False) p ex:=by
 with_unfolding_all exact aW (o:=aG.lookup f) h fun fn e z=>⟨fn,e,z⟩
theorem DT:nQ 0:=fun f D a _ _ d X ks σ t vs us p ex Q R _ _ w _=>(Ia w).elim
noncomputable def BodyOk (n:Nat):Prop:=∀ f D fn,kT f = some D -> aG.lookup f = some fn -> fn.params = D.params /\ B4 D /\ fB n D.sc.names D.body fn.body
theorem Here.pre {b:Nat} {A:Around} {fs:List Env} {own:List Addr} {env:Env} {σ:Loc} {g:Gh} {H:Hp} {s:Shared} (h:Here b A fs own env σ g H s):Pre b A fs g H s:=⟨h.inv,h.fm.bH,h.fm.frames,h.frames,h.handled,h.depth,h.units,h.gens⟩
theorem DU {n:Nat} (G:dT P) (B:BodyOk n):nQ (n + 1):=fun f D a hD F d X ks σ t vs us p ex Q R h rv w fi=>by
 obtain ⟨fn,e,hl,w⟩:=zD w
 obtain ⟨ep,dk,body⟩:=B f D fn hD e
 rw [ep] at hl w
 exact vE G dk body F hl.symm (h.here.less (Nat.add_le_add_right (Nat.le_add_right (2 * n + 2) d) 3)).pre rv w ⟨fi.ok,fi.exc⟩
section
variable {n d b':Nat} {ks:List (Str × NameKind)} {X:Cx} {σ:Loc} {a b c:Expr} {x y z:TE} {pos:Pos} {t:St} {A:Around} {es:List Expr} {xs:List TE}
variable (n d ks) in
structure kX (es:List Expr) (xs:List TE):Prop where
 ev:rV n d ks es xs
 sh:∀ e ∈ es,Shape e
theorem Dt:kX n d ks [] []:=⟨Fj,fun _ h=>absurd h List.not_mem_nil⟩
theorem Bo (ga:Good n d ks a x) (gs:kX n d ks es xs):kX n d ks (a :: es) (x :: xs):=⟨DB ga gs.ev,List.forall_mem_cons.2 ⟨ga.sh,gs.sh⟩⟩
theorem Nh {M A} {E:Value -> Shared -> Prop} {α:Type} {Q:α -> Shared -> Prop} {s} {c:Bool} {x y:Sem α} (hc:c = true) (h:wpAny M A x Q E s):wpAny M A (if c = true then x else y) Q E s:=by rw [if_pos hc]; exact h
theorem vF {M A Q E s} {f:Str} {p pos:Pos} {args:List Expr} (hf:(f == ("super":Str)) = false) (attr:Str) (env:Env) (whole:Sem Value) (h:wpAny M A whole Q E s) :
  wpAny M A (attributeBase (.Call (.Name f p) args [] pos) attr env whole) Q E s:=by
 cases args with
 | cons _ _=>exact h
 | nil=>exact Nh (by rw [bne,hf]; rfl) h
theorem u5 {D:Df} {a:Addr} (Fa:kL P D a) {s:Shared} (k:∀ b o,P.h₀.get? b = some o -> s.heap.get? b = some o) {E:Value -> Shared -> Prop} :
  ∃ k,(k = Keeper.frame \/ k = Keeper.machine) /\ ∀ {Q':Keeper -> Shared -> Prop},Q' k s -> wpAny P.M A (keeperOf (.ref a)) Q' E s:=by
 obtain ⟨fd,F,_⟩:=Fa.all
 obtain ⟨ob,f1,f2⟩:=F.obj
 refine ⟨.frame,.inl rfl,fun {Q'} q=>?_⟩
 unfold keeperOf
 refine wpAny_bind (wpAny_load (k _ _ f1) ?_)
 rw [f2]
 exact wpAny_pure q
theorem DE (G:dT P) (I:nQ n) {f:Str} {p':Pos} {D:Df} (hd:(f == aM) = false) (hs:(f == ("super":Str)) = false) (hf:aQ ks f = true) (E8:(nm f).contains 46 = false) (hD:kT (nm f) = some D) (gs:kX n (d + 1) ks es xs):Good n (d + 1) ks (.Call (.Name f p') es [] pos) (.call (nm f) xs) :=
 .val (fun X σ t p ex Q R h q f'=>G.ns.elim fun mg N=>N.elim fun mb N=>(N.fn f D E8 hD).elim fun a ha=>by
  rw [arm_eval_Call_Name']
  refine wpAny_bind (dS N h hd hf (.inl ha.1) ?_)
  refine cu (iZ gs.ev gs.sh X.env pos) ?_
  refine gs.ev X σ t pos _ ex _ R h q (f'.go h.refl fun vs us t1 q a1 a1' r1=>?_)
  obtain ⟨kk,hk,hq⟩:=u5 (A:=X.A) (E:=R) ha.2 (h.after a1).inv.jM
  exact ⟨⟨kk,hk,hq⟩,I _ D a hD ha.2 d X ks σ t1 vs us p ex Q R (h.after a1) r1.1 q (f'.then a1)⟩)
  ⟨fun _=>rfl,fun _ _=>rfl,fun _ _=>rfl,fun a en w h=>vF hs a en w h⟩ fun _=>rfl
end
end
end
end Mine
end
section
open PySem PySem.W PyProof.Rows PySem.Calls
set_option maxRecDepth 100000
namespace Mine
noncomputable section
section
theorem P5:toS zW = "append":=by decide +kernel
theorem P4:toS zV = "extend":=by decide +kernel
theorem P0:toS J4 = "pop":=by decide +kernel
theorem Nq:toS EN = "get":=by decide +kernel
theorem PY:toS zU = "update":=by decide +kernel
theorem PZ:toS qR = "startswith":=by decide +kernel
theorem P1:toS Hg = "join":=by decide +kernel
theorem A0:typeOf (.builtin "list.append") = pure (.type "method_descriptor"):=by kernel_rfl
theorem AZ:typeOf (.builtin "list.extend") = pure (.type "method_descriptor"):=by kernel_rfl
theorem IA:typeOf (.builtin "list.pop") = pure (.type "method_descriptor"):=by kernel_rfl
theorem zT:typeOf (.builtin "dict.get") = pure (.type "method_descriptor"):=by kernel_rfl
theorem AY:typeOf (.builtin "dict.update") = pure (.type "method_descriptor"):=by kernel_rfl
theorem EM:typeOf (.builtin "str.join") = pure (.type "method_descriptor"):=by kernel_rfl
noncomputable def mkId:Mk -> String
 | .append=>"list.append" | .extend=>"list.extend" | .pop=>"list.pop" | .get=>"dict.get" | .update=>"dict.update" | .startswith=>"bytes.startswith" | .join=>"str.join"
theorem uI {a:AV} {l:Nat} (e:BV a = some l):a = .lst l:=by cases a <;> cases e; rfl
theorem Jl {a:AV} {l:Nat} (e:L7 a = some l):a = .dct l:=by cases a <;> cases e; rfl
theorem D0 {a:AV} {l:List AV} (e:L1 a = some l):a = .ah l:=by cases a <;> cases e; rfl
theorem Jk {a:AV} {l:List (AK × AV)} (e:LZ a = some l):a = .aj l:=by cases a <;> cases e; rfl
theorem DY {a:AV} {l:List Nat} (e:LV a = some l):a = .bytes l:=by cases a <;> cases e; rfl
theorem pK {α:Type} {l:List α} {x:α} (e:oneOf l = some x):l = [x]:=by
 cases l with
 | nil=>exact gG e
 | cons y r=>cases r with
  | nil=>cases e; rfl
  | cons _ _=>exact gG e
theorem iS {H:Hp} {l:Nat} {xs:List AV} (e:listOf H (.lst l) = some xs):H[l]? = some (.list xs):=(ou e).elim (fun ⟨_,q,h⟩=>by cases q; exact h) fun q=>(by cases q)
theorem Jb {H:Hp} {l:Nat} {xs:List (AK × AV)} (e:dictOf H (.dct l) = some xs):∃ it,H[l]? = some (.dict it xs):=(tO e).elim (fun ⟨_,it,q,h⟩=>by cases q; exact ⟨it,h⟩) fun q=>(by cases q)
theorem ifs {α:Type} {p:Prop} [Decidable p] {a c:α} {o:Option α} {C:Prop} (e:(if p then some a else o) = some c) (h:p -> a = c -> C) (k:o = some c -> C):C:=by
 by_cases q:p
 ·rw [if_pos q] at e; exact h q (Option.some.inj e)
 ·rw [if_neg q] at e; exact k e
section
variable {n d:Nat} {ks:List (Str × NameKind)} {X:Cx} {σ:Loc} {A:Around} {g:Gh} {H:Hp} {s:Shared} {E:Value -> Shared -> Prop} {F:List Addr}
theorem aC.one {h:Heap} {v:AV} {us:List Value} (r:aC P g h [v] us):∃ u,us = [u] /\ VR P g h v u:=let ⟨u,us',e,r1,r2⟩:=r.hd; ⟨u,e.trans (congrArg (u :: ·) r2.emp),r1⟩
theorem vS {c:Array UInt8} {tk:Tok} {pl:Sem Bool} {Q:Value × List Value -> Shared -> Prop} (q:Q (.builtin "bytes.startswith",[.bytes c tk]) s):wpAny P.M A (getMethod (.bytes c tk) "startswith" pl) Q E s:=by
 have h1:=@getMethod_builtin P.M A E s (.bytes c tk) "bytes" "startswith" "bytes.startswith" pl Q
 have h2:=h1 rfl
 have h3:=h2 PySem.W.FB.plainAttrs_bytes
 have h4:=h3 PySem.W.FB.slot_bytes_startswith
 have h5:=h4 PySem.W.FB.type_bytes_startswith
 exact h5 (fun a h=>by cases h) q
theorem I4 {c:Str} {tk:Tok} {pl:Sem Bool} {Q:Value × List Value -> Shared -> Prop} (q:Q (.builtin "str.join",[.str c tk]) s):wpAny P.M A (getMethod (.str c tk) "join" pl) Q E s:=by
 have h1:=@getMethod_builtin P.M A E s (.str c tk) "str" "join" "str.join" pl Q
 have h2:=h1 rfl
 have h3:=h2 PySem.F.plainAttrs_str
 have h4:=h3 PySem.F.slot_str_join
 have h5:=h4 EM
 exact h5 (fun a h=>by cases h) q
theorem uw {u:Value} {ad:Addr} {vs:Array Value} {CL:Str} {id:String} {pl:Sem Bool} {Q:Value × List Value -> Shared -> Prop} (hu:u = .ref ad) (p:s.heap.PlainList ad vs) (sl:Slot "list" CL id) (ty:typeOf (.builtin id) = pure (.type "method_descriptor")) (q:Q (.builtin id,[u]) s):wpAny P.M A (getMethod u CL pl) Q E s:=by
 subst hu
 have p':=p
 obtain ⟨n,e⟩:=p'
 exact getMethod_builtin (aI p).typeIs PySem.F.plainAttrs_list sl ty (fun b hb=>by cases hb; exact ⟨_,e,rfl⟩) q
theorem ux {u:Value} {ad:Addr} {es:List (AK × Value)} {ep:Nat} {CL:Str} {id:String} {pl:Sem Bool} {Q:Value × List Value -> Shared -> Prop} (hu:u = .ref ad) (p:s.heap.DictAt P.kind ad es ep) (sl:Slot "dict" CL id) (ty:typeOf (.builtin id) = pure (.type "method_descriptor")) (q:Q (.builtin id,[u]) s):wpAny P.M A (getMethod u CL pl) Q E s:=by
 subst hu
 have p':=p
 obtain ⟨o,xs,e,hx,_⟩:=p'
 exact getMethod_builtin p.dictOf.typeIs PySem.F.plainAttrs_dict sl ty (fun b hb=>by cases hb; exact ⟨_,e,hx.2.1⟩) q
theorem I5 (i:Inv g H s.heap) {x:AV} {m:Nm} {u:Value} {k:Mk} {pl:Sem Bool} {Q:Value × List Value -> Shared -> Prop} (hm:sI H x m = some k) (r:VR P g s.heap x u)
  (q:Q (.builtin (mkId k),[u]) s):wpAny P.M A (getMethod u (toS m) pl) Q E s:=by
 unfold sI at hm
 cases x with
 | lst l=>
  refine bnd hm fun xs hx e=>?_
  obtain ⟨ad,vs,hu,p,_⟩:=iA i hx r
  refine ifs e (fun w e=>?_) fun e=>ifs e (fun w e=>?_) fun e=>ifs e (fun w e=>?_) fun e=>gG e
  ·subst e w; rw [P5]; exact uw hu p PySem.F.slot_list_append A0 q
  ·subst e w; rw [P4]; exact uw hu p PySem.F.slot_list_extend AZ q
  ·subst e w; rw [P0]; exact uw hu p PySem.F.slot_list_pop IA q
 | dct l=>
  refine bnd hm fun xs hx e=>?_
  obtain ⟨ad,es,ep,hu,_,p,_⟩:=di i hx r
  refine ifs e (fun w e=>?_) fun e=>ifs e (fun w e=>?_) fun e=>gG e
  ·subst e w; rw [Nq]; exact ux hu p PySem.F.slot_dict_get zT q
  ·subst e w; rw [PY]; exact ux hu p PySem.F.slot_dict_update AY q
 | aj kk=>
  refine ifs hm (fun w e=>?_) fun e=>gG e
  obtain ⟨ad,es,ep,hu,_,p,_⟩:=di i (a:=.aj kk) rfl r
  subst e w; rw [Nq]; exact ux hu p PySem.F.slot_dict_get zT q
 | bytes b=>
  refine ifs hm (fun w e=>?_) fun e=>gG e
  obtain ⟨c,tk,_,rfl⟩:=r.inv
  subst e w; rw [PZ]; exact vS q
 | str b=>
  refine ifs hm (fun w e=>?_) fun e=>gG e
  obtain ⟨tk,rfl⟩:=r.inv
  subst e w; rw [P1]; exact I4 q
 | _=>exact gG hm
end
end
namespace GG
noncomputable def Gq (A:PySem.Around) (g:Mine.Gh) (H:Mine.Hp) (s:PySem.Shared) (E:PySem.Value -> PySem.Shared -> Prop) (F:List PySem.Addr) (p:Mine.AP) (Q:PySem.Value -> PySem.Shared -> Prop):Prop:=∀ (i:Inv g H s.heap) (x:AV) (k:Mk) (vs:List AV) (u:Value) (us:List Value) (e:ik k x vs H p) (r:VR P g s.heap x u) (rs:aC P g s.heap vs us) (hap:Apart F g.μ g) (q:nN F g.μ g s p Q),wpAny P.M A (call (.builtin (mkId k)) (u :: us)) Q E s
noncomputable def kq:PySem.Around × Mine.Gh × Mine.Hp × PySem.Shared × (PySem.Value -> PySem.Shared -> Prop) × List PySem.Addr × Mine.AP × (PySem.Value -> PySem.Shared -> Prop):=cx fun p=>Gq p.1 p.2.1 p.2.2.1 p.2.2.2.1 p.2.2.2.2.1 p.2.2.2.2.2.1 p.2.2.2.2.2.2.1 p.2.2.2.2.2.2.2
noncomputable def A:=kq.1
noncomputable def g:=kq.2.1
noncomputable def H:=kq.2.2.1
noncomputable def s:=kq.2.2.2.1
noncomputable def E:=kq.2.2.2.2.1
noncomputable def F:=kq.2.2.2.2.2.1
noncomputable def p:=kq.2.2.2.2.2.2.1
noncomputable def Q:=kq.2.2.2.2.2.2.2
theorem tq:Gq A g H s E F p Q:=by
 intro i x k vs u us e r rs hap q
 unfold ik at e
 cases k with
 | append=>
  refine aW e fun l e1 f1=>aW f1 fun xs e2 f2=>aW f2 fun v e3 f3=>?_
  cases uI e1; cases pK e3
  obtain ⟨a,rfl,hl⟩:=r.inv
  obtain ⟨u1,rfl,r1⟩:=rs.one
  exact D4 (F:=F) i (iS e2) hl r1 f3.1 fun s' a=>q _ _ _ g s' f3.2 a .none
 | extend=>
  refine aW e fun l e1 f1=>aW f1 fun xs e2 f2=>aW f2 fun ws e3 f3=>?_
  cases uI e1
  obtain ⟨a,rfl,hl⟩:=r.inv
  refine bnd e3 fun v e3 e4=>?_
  cases pK e3; cases D0 e4
  obtain ⟨u1,rfl,r1⟩:=rs.one
  obtain ⟨zs,b,rfl,_,p,rr⟩:=r1.inv
  exact DO (F:=F) i (iS e2) hl p rr f3.1 fun s' a=>q _ _ _ g s' f3.2 a .none
 | pop=>
  refine aW e fun l e1 f1=>aW f1 fun xs e2 f2=>?_
  clear e
  cases uI e1
  obtain ⟨a,rfl,hl⟩:=r.inv
  obtain ⟨hz,e⟩:=f2
  clear f1
  cases vs with
  | nil=>
   cases rs.emp
   exact aW e fun v e3 e=>yI (F:=F) i (iS e2) hl e3 hz hap fun w s' a r=>q _ _ w g s' e a r
  | cons v vs=>
   obtain ⟨⟨rfl,e3⟩,e⟩:=e
   obtain ⟨u1,rfl,r1⟩:=rs.one
   obtain ⟨tk,rfl⟩:=r1.cD e3
   refine aW e fun v e4 e=>?_
   cases xs with
   | nil=>exact gG e4
   | cons y ys=>
    cases e4
    exact wR (F:=F) i (iS e2) hl hz hap fun w s' a r=>q _ _ w g s' e a r
 | get=>
  refine aW e fun kvs hd f=>?_
  clear e
  cases vs with
  | nil=>exact f.elim
  | cons v vs=>
   refine aW f fun kk hk e=>?_
   clear f
   cases vs with
   | nil=>
    obtain ⟨u1,rfl,r1⟩:=rs.one
    exact I7 i hd r (iB hk r1) fun v t rv=>q _ _ v g _ e (.toks i t) rv
   | cons w vs=>
    obtain ⟨rfl,e⟩:=e
    obtain ⟨u1,us,rfl,r1,rs⟩:=rs.hd
    obtain ⟨u2,rfl,r2⟩:=rs.one
    exact I6 i hd r (iB hk r1) r2 fun v t rv=>q _ _ v g _ e (.toks i t) rv
 | update=>
  refine aW e fun l e1 f1=>aW f1 fun kvs hd f2=>aW f2 fun ws e3 f3=>?_
  cases Jl e1
  obtain ⟨a,rfl,hl⟩:=r.inv
  refine bnd e3 fun v e3 e4=>?_
  cases pK e3; cases Jk e4
  obtain ⟨u1,rfl,r1⟩:=rs.one
  obtain ⟨it,h0⟩:=Jb hd
  exact B8 (F:=F) i h0 hl r1 f3.1 hap fun s' a=>q _ _ _ g s' f3.2 a .none
 | startswith=>
  refine aW e fun b e1 f1=>aW f1 fun c e3 f3=>?_
  cases DY e1
  refine bnd e3 fun v e3 e4=>?_
  cases pK e3; cases DY e4
  obtain ⟨u1,rfl,r1⟩:=rs.one
  obtain ⟨c',tk,rfl,rfl⟩:=r1.inv
  obtain ⟨b',tk',rfl,rfl⟩:=r.inv
  exact vJ (q _ _ _ g s f3 (.refl i) (.bool _))
 | join=>
  refine aW e fun b e1 f1=>aW f1 fun v e3 f2=>aW f2 fun xs e2 f3=>aW f3 fun ss e4 f4=>?_
  cases DZ e1; cases pK e3
  obtain ⟨tk,rfl⟩:=r.inv
  obtain ⟨u1,rfl,r1⟩:=rs.one
  exact IX i e2 r1 e4 f4.1.1 f4.1.2.2 f4.1.2.1 fun t k=>q _ _ _ g _ f4.2 (.toks i k) (.str _ _)
end GG
section
section
variable {n d:Nat} {ks:List (Str × NameKind)} {X:Cx} {σ:Loc} {A:Around} {g:Gh} {H:Hp} {s:Shared} {E:Value -> Shared -> Prop} {F:List Addr}
theorem yQ (i:Inv g H s.heap) {x:AV} {k:Mk} {vs:List AV} {u:Value} {us:List Value} {p:AP} {Q:Value -> Shared -> Prop} (e:ik k x vs H p) (r:VR P g s.heap x u) (rs:aC P g s.heap vs us) (hap:Apart F g.μ g) (q:nN F g.μ g s p Q):wpAny P.M A (call (.builtin (mkId k)) (u :: us)) Q E s :=
 bD (p:=fun p=>GG.Gq p.1 p.2.1 p.2.2.1 p.2.2.2.1 p.2.2.2.2.1 p.2.2.2.2.2.1 p.2.2.2.2.2.2.1 p.2.2.2.2.2.2.2) GG.tq (A,g,H,s,E,F,p,Q) i x k vs u us e r rs hap q
end
end
end
end Mine
end
section
open PySem PySem.W PyProof.Rows PySem.Calls
namespace Mine
noncomputable section
section
section
variable {n d b':Nat} {ks:List (Str × NameKind)} {X:Cx} {σ:Loc} {a b c:Expr} {x y z:TE} {pos:Pos} {t:St} {A:Around} {es:List Expr} {xs:List TE}
theorem uX {env:Env} {s:Shared} {Q E:Value -> Shared -> Prop} {o:Expr} {m:Str} {apos pos:Pos} {args:List Expr} (sh:Shape o) (hp:(apos.endLine == pos.line) = true) (hl:args.length < 30) (ht:∀ t ∈ backTo pos (starEach args env),t.1 = false)
  (h:wpAny P.M A (eval o env) (fun ov s₁=>∀ pl,wpAny P.M A (getMethod ov m pl) (fun fx s₂=>wpAny P.M A (callWith pos fx.1 fx.2 (backTo pos (starEach args env)) []) Q E s₂) E s₁) E s) :
  wpAny P.M A (eval (.Call (.Attribute o m apos) args [] pos) env) Q E s:=by
 have hfew:methodCallForm (args.length + ([]:List Keyword).length) (backTo pos (starEach args env)) (backToKw pos (keywordEach [] env)) = true:=by
  unfold methodCallForm
  rw [Bool.and_eq_true,Bool.and_eq_true]
  refine ⟨⟨?_,rfl⟩,?_⟩
  ·rw [List.all_eq_true]
   intro t hh; rw [ht t hh]; rfl
  ·show decide (args.length + 0 + 0 < 30) = true
   simpa using hl
 have e:eval (.Call (.Attribute o m apos) args [] pos) env = (do
   let ov ← attributeBase o m env (eval o env)
   standAt apos.atName
   methodCall o m apos pos env ov (args.length + ([]:List Keyword).length) (backTo pos (starEach args env)) (backToKw pos (keywordEach [] env))):=rfl
 rw [e]
 refine wpAny_bind (wpAny_mono (sh.base _ _ _ h) (fun ov s₁ h₁=>wpAny_bind (wpAny_standAt ?_)) fun _ _ z=>z)
 unfold methodCall
 rw [hfew]
 refine wpAny_bind (wpAny_holding ?_)
 unfold calleeOf
 rw [if_pos rfl]
 refine wpAny_mono (h₁ _) (fun fx s₂ h₂=>?_) fun _ _ z=>z
 unfold methodCallPos
 rw [hp]
 exact wpAny_bind (wpAny_pure h₂)
theorem LX {a:AV} {q:Nm × List (Nm × AV)} (e:tU a = some q):a = .inst q.1 q.2:=by cases a <;> cases e; rfl
theorem DG (G:dT P) {g:Gh} {H:Hp} {s:Shared} {Q:Value × List Value -> Shared -> Prop} {E:Value -> Shared -> Prop} (i:Inv g H s.heap) {cn:Nm} {fl:List (Nm × AV)} {u:Value} {m:Str} {pl:Sem Bool} (r:VR P g s.heap (.inst cn fl) u)
  (hm:gq.contains (cn ++ 46 :: nm m) = true) (hn:fl.lookup (nm m) = none) (q:∀ D a,kT (cn ++ 46 :: nm m) = some D -> kL P D a -> Q (.ref a,[u]) s):wpAny P.M A (getMethod u m pl) Q E s:=by
 obtain ⟨C,dd,ad,R5,ep,rfl,z,z',hc,ho,N9,rf⟩:=r.inv
 obtain ⟨od,In,ys,hx,hd,hk,NZ⟩:=qC (c:=cn) ho N9
 obtain ⟨D,a,hD,hfind,hty,Fa⟩:=G.aF _ _ _ hc hm
 rw [bJ] at hfind
 have pg:=plainGet_of (G.pg m _ _ hc)
 have hsh:shadowIn (some od) m = some false:=by
  unfold shadowIn lookIn
  dsimp only
  rw [hd]
  dsimp only
  have:=rf.none hn
  rcases jl (x:=nm m) NZ with ⟨q1,q2⟩ | ⟨e,q1,q2⟩
  ·rw [bJ] at q1
   rw [q1]
   have:ys.toList.any (·.refKey) = false:=kg NZ
   simp [this]
  ·rw [q2] at this; exact (by cases this)
 exact method_fn (i.oU G.T) In pg.1 pg.2 hfind hty hsh (q D a hD Fa)
theorem Du (G:dT P) (I:nQ n) {m:Str} {apos:Pos} (hp:(apos.endLine == pos.line) = true) (hl:es.length < 30) (ga:Good n (d + 1) ks a x) (gs:kX n (d + 1) ks es xs):Good n (d + 1) ks (.Call (.Attribute a m apos) es [] pos) (.aF x (nm m) xs) :=
 .val (fun X σ t p ex Q R h q f=>uX ga.sh hp hl (iZ gs.ev gs.sh X.env pos) (ga.ev X σ t _ ex _ R h q (f.go h.refl fun v u t1 q a1 a1' r1 pl=>by
  have h1:=h.after a1
  unfold nO at q
  cases e1:tU v with
  | some w=>
   rw [e1] at q
   cases LX e1
   refine DG G h1.inv r1 q.1.1 q.1.2 fun D ad hD Fa=>cu (iZ gs.ev gs.sh X.env pos) ?_
   refine gs.ev X σ t1 pos _ ex _ R h1 q.2 (f.go a1 fun vs us t2 q a2 a2' r2=>?_)
   obtain ⟨kk,hk',hq⟩:=u5 (A:=X.A) (E:=R) Fa (h1.after a2).inv.jM
   exact ⟨⟨kk,hk',hq⟩,I _ D ad hD Fa d X ks σ t2 _ _ p ex Q R (h1.after a2) (.cons (h1.vr a2 r1) r2.1) q (f.then a2')⟩
  | none=>
   rw [e1] at q
   refine aW q fun k hid q=>?_
   have gm:=I5 (A:=X.A) (E:=R) (pl:=pl) (Q:=fun fx s₂=>wpAny P.M X.A (callWith pos fx.1 fx.2 (backTo pos (starEach es X.env)) []) Q R s₂) h1.inv hid r1
   rw [bJ] at gm
   refine gm (cu (iZ gs.ev gs.sh X.env pos) ?_)
   refine gs.ev X σ t1 pos _ ex _ R h1 q (f.go a1 fun vs us t2 q a2 a2' r2=>?_)
   obtain ⟨kk,hk,hq⟩:=l7 (A:=X.A) (t:=mkId k)
   exact ⟨⟨kk,hk,hq⟩,yQ (F:=frs X.fs) (h1.after a2).inv q (h1.vr a2 r1) r2.1 (h1.after a2).here.apart fun w H' v g3 s3 q a3 r3=>f.ok w v ⟨g3,H',s3⟩ q (a2'.then a3) r3⟩)))
  ⟨fun _=>rfl,fun _ _=>rfl,fun _ _=>rfl,fun a en w h=>h⟩ fun _=>rfl
end
end
end
end Mine
end
section
open PySem PySem.W PyProof.Rows PySem.Calls
namespace Mine
noncomputable section
section
section
variable {n:Nat} {A:Around} {fs:List Env} {own:List Addr} {env:Env} {σ:Loc} {g:Gh} {H:Hp} {s:Shared} {ks:List (Str × NameKind)} {E:Value -> Shared -> Prop} {F:List Addr}
end
end
namespace GF
noncomputable def Gq (A:PySem.Around) (s:PySem.Shared) (E:PySem.Value -> PySem.Shared -> Prop) (d:PySem.Addr) (es:List (Mine.AK × PySem.Value)) (ep:Nat) (x:Mine.Nm) (v:PySem.Value) (Q:Unit -> PySem.Shared -> Prop):Prop:=∀ (knd:PySem.KeyKind P.prog P.w AK) (hkd:knd = P.kind) (hm:s.heap.DictAt knd d es ep) (hn:AK.s x ∉ es.map (·.1)) (hz:es.length <= 1000) (hQ:∀ h',h'.DictAt knd d (es ++ [(.s x,v)]) (ep + 1) -> Heap.SameBut d s.heap h' -> Q () { s with heap:=h',toks:=s.toks + 1 }),wpAny P.M A (nsSet d (toS x) v) Q E s
noncomputable def kq:PySem.Around × PySem.Shared × (PySem.Value -> PySem.Shared -> Prop) × PySem.Addr × List (Mine.AK × PySem.Value) × Nat × Mine.Nm × PySem.Value × (Unit -> PySem.Shared -> Prop):=cx fun p=>Gq p.1 p.2.1 p.2.2.1 p.2.2.2.1 p.2.2.2.2.1 p.2.2.2.2.2.1 p.2.2.2.2.2.2.1 p.2.2.2.2.2.2.2.1 p.2.2.2.2.2.2.2.2
noncomputable def A:=kq.1
noncomputable def s:=kq.2.1
noncomputable def E:=kq.2.2.1
noncomputable def d:=kq.2.2.2.1
noncomputable def es:=kq.2.2.2.2.1
noncomputable def ep:=kq.2.2.2.2.2.1
noncomputable def x:=kq.2.2.2.2.2.2.1
noncomputable def v:=kq.2.2.2.2.2.2.2.1
noncomputable def Q:=kq.2.2.2.2.2.2.2.2
theorem tq:Gq A s E d es ep x v Q:=by
 intro knd hkd hm hn hz hQ
 subst hkd
 obtain ⟨o,xs,ho,hx,hd,hk,hp,hnd⟩:=hm
 have hany:xs.toList.any (·.refKey) = false:=kg hp
 have hnone:xs.findIdx? (·.key.isStr (toS x)) = none:=by
  rcases jl (x:=x) hp with ⟨q1,q2⟩ | ⟨e,q1,q2⟩
  ·rw [List.find?_eq_none] at q1
   rw [Array.findIdx?_eq_none_iff]
   intro e he
   have:=q1 e (by simpa using he)
   simpa using this
  ·exfalso
   refine hn ?_
   unfold valueAt at q2
   obtain ⟨kv,h1,h2⟩:=Option.map_eq_some_iff.mp q2
   exact List.mem_map.mpr ⟨kv,List.mem_of_find?_eq_some h1,by simpa using List.find?_some h1⟩
 unfold nsSet
 refine wpAny_bind (wpAny_bind (wpAny_askSetting (wpAny_pure (wpAny_bind (wpAny_mkText (wpAny_bind (wpAny_loadPart ho ?_)))))))
 rw [hd]
 dsimp only
 have c:aRefKeyMayBeTheName (toS x) xs = false:=by
  rw [aRefKeyMayBeTheName_eq]
  unfold aRefKeyMayBeTheNameByArray
  have:xs.any (·.refKey) = false:=by rw [← Array.any_toList]; exact hany
  rw [this,Bool.and_false]
 rw [c]
 refine wpAny_updatePart ho ?_
 obtain ⟨oc,od,dt,sl⟩:=o
 dsimp only at hd
 subst hd
 obtain ⟨Dg,NS,NR⟩:=hx
 dsimp only at Dg NS NR
 refine hQ _ ?_ (Heap.SameBut.update ..)
 have E5:∀ hh kk vv,Obj.putName (toS x) hh kk vv ⟨oc,od,.dict xs ep,sl⟩ = ⟨oc,od,.dict (xs.push ⟨hh,kk,vv⟩) (ep + 1),sl⟩:=fun hh kk vv=>by
  simp only [Obj.putName_eq,Obj.putNameByArray,hnone]
 refine ⟨_,_,Heap.get?_update_self _ ho (by rw [E5]; rfl),?_,by rw [E5],?_,?_,?_⟩
 ·rw [E5]; exact ⟨Dg,NS,NR⟩
 ·exact hk.push (k:=AK.s x) (by exact beq_self_eq_true (toS x)) _
 ·rw [Array.toList_push]
  exact hp.append (k:=AK.s x) (by exact beq_self_eq_true (toS x)) _ v
 ·rw [List.map_append,List.nodup_append]
  refine ⟨hnd,by simp,fun a ha b hb e=>?_⟩
  simp at hb; subst hb; subst e; exact hn ha
end GF
section
section
variable {n:Nat} {A:Around} {fs:List Env} {own:List Addr} {env:Env} {σ:Loc} {g:Gh} {H:Hp} {s:Shared} {ks:List (Str × NameKind)} {E:Value -> Shared -> Prop} {F:List Addr}
theorem CJ {knd:PySem.KeyKind P.prog P.w AK} (hkd:knd = P.kind) {d:Addr} {es:List (AK × Value)} {ep:Nat} {x:Nm} {v:Value} {Q:Unit -> Shared -> Prop} (hm:s.heap.DictAt knd d es ep) (hn:AK.s x ∉ es.map (·.1)) (hz:es.length <= 1000) (hQ:∀ h',h'.DictAt knd d (es ++ [(.s x,v)]) (ep + 1) -> Heap.SameBut d s.heap h' -> Q () { s with heap:=h',toks:=s.toks + 1 }):wpAny P.M A (nsSet d (toS x) v) Q E s :=
 bD (p:=fun p=>GF.Gq p.1 p.2.1 p.2.2.1 p.2.2.2.1 p.2.2.2.2.1 p.2.2.2.2.2.1 p.2.2.2.2.2.2.1 p.2.2.2.2.2.2.2.1 p.2.2.2.2.2.2.2.2) GF.tq (A,s,E,d,es,ep,x,v,Q) knd hkd hm hn hz hQ
end
end
namespace GD
noncomputable def Gq (A:PySem.Around) (g:Mine.Gh) (H:Mine.Hp) (s:PySem.Shared) (E:PySem.Value -> PySem.Shared -> Prop) (C:PySem.Addr) (x:PySem.Addr) (d:PySem.Addr) (y:Mine.Nm) (es:List (Mine.AK × PySem.Value)) (ep:Nat) (v:PySem.Value) (Q:Unit -> PySem.Shared -> Prop):Prop:=∀ (i:Inv g H s.heap) (T:oN P) (hx:s.heap.get? x = some (instObj C d)) (dd:s.heap.DictAt P.kind d es ep) (hD:hasDictIn P.K C = true) (mh:findIn P.K (.ref C) "__setattr__" = some (some (.builtin "object.__setattr__"))) (hov:plainOver P.K C = true) (htk:takerIn P.K C (toS y) = some none) (hn:AK.s y ∉ es.map (·.1)) (hz:es.length <= 1000) (q:∀ h' tk,h'.DictAt P.kind d (es ++ [(.s y,v)]) (ep + 1) -> Heap.SameBut d s.heap h' -> Q () { s with heap:=h',toks:=tk }),wpAny P.M A (setAttr (.ref x) (toS y) v) Q E s
noncomputable def kq:PySem.Around × Mine.Gh × Mine.Hp × PySem.Shared × (PySem.Value -> PySem.Shared -> Prop) × PySem.Addr × PySem.Addr × PySem.Addr × Mine.Nm × List (Mine.AK × PySem.Value) × Nat × PySem.Value × (Unit -> PySem.Shared -> Prop):=cx fun p=>Gq p.1 p.2.1 p.2.2.1 p.2.2.2.1 p.2.2.2.2.1 p.2.2.2.2.2.1 p.2.2.2.2.2.2.1 p.2.2.2.2.2.2.2.1 p.2.2.2.2.2.2.2.2.1 p.2.2.2.2.2.2.2.2.2.1 p.2.2.2.2.2.2.2.2.2.2.1 p.2.2.2.2.2.2.2.2.2.2.2.1 p.2.2.2.2.2.2.2.2.2.2.2.2
noncomputable def A:=kq.1
noncomputable def g:=kq.2.1
noncomputable def H:=kq.2.2.1
noncomputable def s:=kq.2.2.2.1
noncomputable def E:=kq.2.2.2.2.1
noncomputable def C:=kq.2.2.2.2.2.1
noncomputable def x:=kq.2.2.2.2.2.2.1
noncomputable def d:=kq.2.2.2.2.2.2.2.1
noncomputable def y:=kq.2.2.2.2.2.2.2.2.1
noncomputable def es:=kq.2.2.2.2.2.2.2.2.2.1
noncomputable def ep:=kq.2.2.2.2.2.2.2.2.2.2.1
noncomputable def v:=kq.2.2.2.2.2.2.2.2.2.2.2.1
noncomputable def Q:=kq.2.2.2.2.2.2.2.2.2.2.2.2
theorem tq:Gq A g H s E C x d y es ep v Q:=by
 intro i T hx dd hD mh hov htk hn hz q
 obtain ⟨od,In,xs,hox,hod,hkk,hpp⟩:=qC (c:=[]) hx dd
 have X:=i.oU T
 refine set_plain X In mh (osa_open (s:={ s with toks:=s.toks + 1 }) X In hov htk fun b=>?_)
 obtain ⟨cd,hc,hd'⟩:=any_some hD
 refine wpAny_bind (wpAny_pure (wpAny_bind (wpAny_bind (wpAny_loadPart (s:={ s with toks:=s.toks + 1 }) hx (wpAny_bind (Looks.here (s:={ s with toks:=s.toks + 1 }) (looks_clsIn X hc) ?_))))))
 rw [hd']
 refine wpAny_pure (a:=some d) (wpAny_bind (wpAny_pure (wpAny_bind ?_)))
 refine CJ (s:={ s with toks:=s.toks + 1 }) rfl dd hn hz fun h' d' sb=>?_
 obtain ⟨o',xs',e',hx',hd2,_,hp2,_⟩:=d'
 refine wpAny_bind (wpAny_lookBehind e' (by rw [hd2]; exact pastItsLine_dict (by have:=hp2.length; rw [Array.length_toList] at this; rw [this,List.length_append,sizeLine_eq]; simp; omega)) ?_)
 exact wpAny_pure (q h' _ ⟨o',xs',e',hx',hd2,‹_›,hp2,‹_›⟩ sb)
end GD
section
section
variable {n:Nat} {A:Around} {fs:List Env} {own:List Addr} {env:Env} {σ:Loc} {g:Gh} {H:Hp} {s:Shared} {ks:List (Str × NameKind)} {E:Value -> Shared -> Prop} {F:List Addr}
theorem yG (i:Inv g H s.heap) (T:oN P) {C x d:Addr} {y:Nm} {es:List (AK × Value)} {ep:Nat} {v:Value} {Q:Unit -> Shared -> Prop} (hx:s.heap.get? x = some (instObj C d)) (dd:s.heap.DictAt P.kind d es ep) (hD:hasDictIn P.K C = true) (mh:findIn P.K (.ref C) "__setattr__" = some (some (.builtin "object.__setattr__"))) (hov:plainOver P.K C = true) (htk:takerIn P.K C (toS y) = some none) (hn:AK.s y ∉ es.map (·.1)) (hz:es.length <= 1000) (q:∀ h' tk,h'.DictAt P.kind d (es ++ [(.s y,v)]) (ep + 1) -> Heap.SameBut d s.heap h' -> Q () { s with heap:=h',toks:=tk }):wpAny P.M A (setAttr (.ref x) (toS y) v) Q E s :=
 bD (p:=fun p=>GD.Gq p.1 p.2.1 p.2.2.1 p.2.2.2.1 p.2.2.2.2.1 p.2.2.2.2.2.1 p.2.2.2.2.2.2.1 p.2.2.2.2.2.2.2.1 p.2.2.2.2.2.2.2.2.1 p.2.2.2.2.2.2.2.2.2.1 p.2.2.2.2.2.2.2.2.2.2.1 p.2.2.2.2.2.2.2.2.2.2.2.1 p.2.2.2.2.2.2.2.2.2.2.2.2) GD.tq (A,g,H,s,E,C,x,d,y,es,ep,v,Q) i T hx dd hD mh hov htk hn hz q
theorem nS (v o:Expr) (x:Str) (p:Pos) (l:Nat) (env:Env):swapsWith v (some (.Attribute o x p)) l env = pure false:=by cases v <;> rfl
theorem Ca (v o i:Expr) (p:Pos) (l:Nat) (env:Env):swapsWith v (some (.Subscript o i p)) l env = pure false:=by cases v <;> rfl
theorem eE.append {h:Heap} {a:List (Nm × AV)} {v:List (AK × Value)} {y:Nm} {z:AV} {u:Value} (r:eE P g h a v) (q:VR P g h z u):eE P g h (a ++ [(y,z)]) (v ++ [(.s y,u)]) :=
 r.bT (motive:=fun a v=>eE P g h (a ++ [(y,z)]) (v ++ [(AK.s y,u)])) (eE.cons (k:=y) q .nil) fun x _ ih=>.cons x ih
theorem eE.keys {h:Heap} {a:List (Nm × AV)} {v:List (AK × Value)} (r:eE P g h a v):v.map (·.1) = (a.map (·.1)).map .s :=
 r.bT (motive:=fun a v=>v.map (·.1) = (a.map (·.1)).map .s) rfl fun _ _ ih=>congrArg (_ :: ·) ih
theorem Here.D7 {W:List Addr} {g':Gh} {H':Hp} {s':Shared} (x:Here n A fs own env σ g H s) (a:After (frs fs) W g s g' H' s') (hW:∀ b ∈ W,b ∉ own /\ b ∉ frs fs /\ ¬ g.Z b):Here n A fs own env σ g' H' s' :=
 ⟨a.inv,x.fm.after a.le a.keep (fun b hb=>⟨(hW b hb).1,(hW b hb).2.1⟩) (fun b hb=>(hW b hb).2.2),x.frames,x.handled,x.depth,x.units,a.gens.trans x.gens⟩
theorem After.a8 (i:Inv g H s.heap) {d:Addr} {h':Heap} {tk:Nat} (hz:¬ g.Z d) (hm:d ∉ g.μ) (sb:Heap.SameBut d s.heap h') (nf:∃ o,h'.get? d = some o /\ NF o):After F [d] g s g H { s with heap:=h',toks:=tk }:=by
 have ne:∀ b,(g.Z b \/ b ∈ g.μ) -> b ≠ d:=fun b w q=>by subst q; exact w.elim hz hm
 have al:∀ b o,s.heap.get? b = some o -> ∃ o',h'.get? b = some o':=fun b o e=>by
  by_cases q:b = d
  ·subst q; obtain ⟨o',e',_⟩:=nf; exact ⟨o',e'⟩
  ·exact ⟨o,(sb.2 b q).trans e⟩
 refine ⟨i.on (fun b o w e=>(sb.2 b (ne b w)).trans e) (let ⟨o,e⟩:=i.iu; al _ o e),.refl _ _,⟨al,fun b o e n f=>(sb.2 b fun q=>n (by simp [q])).trans e,fun b o e n=>⟨o.slots,(sb.2 b fun q=>n (by simp [q])).trans e⟩,fun b o e n=>?_⟩,rfl,rfl⟩
 by_cases q:b = d
 ·subst q; exact nf
 ·exact ⟨o,(sb.2 b q).trans e,n⟩
structure uM (own:List Addr) (fs:List Env) (g:Gh) (h:Heap) (d:Addr):Prop where
 z:¬ g.Z d
 m:d ∉ g.μ
 o:d ∉ own
 f:d ∉ frs fs
 l:∃ ob,h.get? d = some ob
theorem uM.after {W:List Addr} {g':Gh} {H':Hp} {s':Shared} {d:Addr} (p:uM own fs g s.heap d) (a:After F W g s g' H' s'):uM own fs g' s'.heap d:=by
 obtain ⟨ob,e⟩:=p.l
 exact ⟨fun z=>(a.le.kh d z).elim p.z (aX e),fun z=>(a.le.mem z).elim p.m (aX e),p.o,p.f,a.keep.live d ob e⟩
end
theorem Ni:WF 0 = wY:=by with_unfolding_all rfl
class inductive lG (ks:List (Str × NameKind)) (self:Str):List Stmt -> List (Nm × TE) -> Prop
 | nil:lG ks self [] []
 | cons {x p q v e pos body r}:Good 0 0 ks v e -> nm x ∈ dj -> lG ks self body r -> lG ks self (.Assign [.Attribute (.Name self p) x q] v pos :: body) ((nm x,e) :: r)
structure HZ (ks:List (Str × NameKind)) (sf:Str) (C x d:Addr) (X:Cx) (σ:Loc) (t:St) (done:List (Nm × AV)):Prop where
 h:At 2 ks X σ t
 ns:∃ m,t.s.heap.Ns X.env.locals m /\ m sf = some (.ref x)
 px:uM X.own X.fs t.g t.s.heap x
 pd:uM X.own X.fs t.g t.s.heap d
 ob:t.s.heap.get? x = some (instObj C d)
 dd:∃ es ep,t.s.heap.DictAt P.kind d es ep /\ eE P t.g t.s.heap done es
theorem E3 (T:oN P) {ks:List (Str × NameKind)} {self:Str} {c:Nm} {D:Cf} {C x d:Addr} {X:Cx} {σ:Loc} (CA:ClsAt P c D C) (QA:(self == aM) = false) (xC:X.env.kindOf self = some .local) (hxd:x ≠ d) {Q:PySem.Flow -> Shared -> Prop} {E:Value -> Shared -> Prop}
  {body:List Stmt} {r:List (Nm × TE)} (g:lG ks self body r):∀ (t:St) (done:List (Nm × AV)) (p:List (Nm × AV) -> Hp -> Prop),HZ ks self C x d X σ t done -> runN wY σ r t.H p -> ((done.map (·.1)) ++ (r.map (·.1))).Nodup -> done.length + r.length <= 100 ->
   (∀ HD t',p HD t'.H -> After (frs X.fs) (d :: t.g.μ) t.g t.s t'.g t'.H t'.s -> HZ ks self C x d X σ t' (done ++ HD) -> Q .next t'.s) -> wpAny P.M X.A (PySem.execs body X.env) Q E t.s:=by
 induction g with
 | nil=>
  intro t done p N e _ _ q
  exact wpAny_execs_nil (q [] t e (.refl N.h.inv) (by rw [List.append_nil]; exact N))
 | @cons y JJ pq v e' pos' body' r ge hy gr ih=>
  intro t done p N e hnd hz q
  obtain ⟨h,⟨m,hm1,hm2⟩,px,pd,hx,es,ep,dd,rf⟩:=N
  refine wpAny_execs_cons (plainObj_wpAny_Assign_Attribute (ge.ev X σ t _ ee _ E h (Ni ▸ e) ⟨fun w w' t1 e a1 r1=>?_,fun _ _ _ f _ _=>f.elim⟩) (nS _ _ _ _ _ _))
  rw [Ni] at e
  have h1:=h.after a1
  have PW:=px.after a1
  have uT:=pd.after a1
  have Dg:t1.s.heap.get? x = some (instObj C d):=a1.keep.same x _ hx px.m px.f
  have Rn:t1.s.heap.DictAt P.kind d es ep:=dd.at fun o z=>a1.keep.same d o z pd.m pd.f
  have PO:=After.Nj a1 h.here.apart rf
  have lo:X.env.locals ∉ t.g.μ:=(h.here.fm.ownOut _ h.here.fm.eU).2.1
  have Np:t1.s.heap.Ns X.env.locals m:=dB hm1 fun o e=>a1.keep.slots _ o e lo
  refine wpAny_Name (wpAny_loadName_local h1.here.fm.kind xC Np hm2 ?_) QA
  have hkeys:AK.s (nm y) ∉ es.map (·.1):=fun w=>by
   rw [rf.keys] at w
   obtain ⟨z,hz1,hz2⟩:=List.mem_map.mp w
   cases hz2
   exact (List.nodup_append.1 hnd).2.2 _ hz1 _ List.mem_cons_self rfl
  have hlen:es.length <= 1000:=by
   have h1:=congrArg List.length rf.keys
   rw [List.length_map,List.length_map,List.length_map] at h1
   rw [h1]; exact Nat.le_trans (Nat.le_trans (Nat.le_add_right ..) hz) (by decide)
  rw [show y = toS (nm y) from (bJ y).symm]
  refine yG h1.inv T Dg Rn (T.cls _ _ CA.cls).hasDict CA.wc CA.over (CA.Jv _ hy) hkeys hlen fun h' tk d' sb=>?_
  have a2:After (frs X.fs) [d] t1.g t1.s t1.g t1.H { t1.s with heap:=h',toks:=tk }:=.a8 h1.inv uT.z uT.m sb (by obtain ⟨o,xs,e,_,dt,_⟩:=d'; exact ⟨o,e,fun vs q=>by rw [dt] at q; exact nomatch q⟩)
  have h2:=h1.here.D7 a2 fun b hb=>by rw [List.mem_singleton.1 hb]; exact ⟨uT.o,uT.f,uT.z⟩
  have OM:Apart (frs X.fs) [d] t1.g:=fun b z=>⟨fun q=>uT.z (List.mem_singleton.1 q ▸ z),(h1.here.apart b z).2⟩
  have D9:After (frs X.fs) (d :: t.g.μ) t.g t.s t1.g t1.H { t1.s with heap:=h',toks:=tk } :=
   After.trans (W:=d :: t.g.μ) (W':=[d]) ⟨a1.inv,a1.le,a1.keep.weaken fun b hb=>.inl (List.mem_cons_of_mem _ hb),a1.gens,a1.os⟩ a2 fun b hb=>.inl (by rw [List.mem_singleton.1 hb]; exact List.mem_cons_self)
  refine ih ⟨t1.g,t1.H,{ t1.s with heap:=h',toks:=tk }⟩ (done ++ [(nm y,w)]) _ ⟨⟨h2,h.kn⟩,⟨m,?_,hm2⟩,PW.after a2,uT.after a2,(sb.2 x hxd).trans Dg,_,_,d',(After.Nj a2 OM PO).append (After.vr a2 OM r1)⟩ e ?_ ?_ fun HD t' e a3 N'=>?_
  ·exact dB Np fun o e=>⟨o.slots,(sb.2 _ fun q=>uT.o (q ▸ h1.here.fm.eU)).trans e⟩
  ·rw [List.map_append,List.append_assoc]; exact hnd
  ·rw [List.length_append,Nat.add_assoc,Nat.add_comm [_].length]; exact hz
  ·rw [List.append_assoc] at N'
   refine q _ t' e (D9.trans a3 fun b hb=>?_) N'
   exact (List.mem_cons.mp hb).elim (fun e=>.inl (by rw [e]; exact List.mem_cons_self)) fun hb=>(D9.le.mem hb).imp (List.mem_cons_of_mem _) id
end
end
end Mine
end
section
open PySem PySem.W PyProof.Rows PySem.Calls
namespace Mine
noncomputable section
section
section
variable {n:Nat} {A:Around} {fs:List Env} {own:List Addr} {env:Env} {σ:Loc} {g:Gh} {H:Hp} {s:Shared} {ks:List (Str × NameKind)} {Q:Value -> Shared -> Prop} {E:Value -> Shared -> Prop} {F:List Addr}
theorem aC.drop {h:Heap} {a:List AV} {v:List Value} (n:Nat) (r:aC P g h a v):aC P g h (a.drop n) (v.drop n) :=
 r.bT (motive:=fun a v=>∀ n,aC P g h (a.drop n) (v.drop n)) (fun n=>by rw [List.drop_nil,List.drop_nil]; exact .nil) (fun x r ih n=>by
  cases n with
  | zero=>exact .cons x r
  | succ n=>exact ih n) n
theorem Eg {h:Heap} {x:Nm} {ps:List Nm} {vs:List AV} {us:List Value} {v:AV} (r:aC P g h vs us) (e:look (ps.zip vs) x = some v):∃ u,VR P g h v u /\ ((ps.map toS).zip us).lookup (toS x) = some u :=
 r.bT (motive:=fun vs us=>∀ ps:List Nm,look (ps.zip vs) x = some v -> ∃ u,VR P g h v u /\ ((ps.map toS).zip us).lookup (toS x) = some u) (fun ps e=>by rw [List.zip_nil_right] at e; cases e) (fun {a u as us} r _ ih ps e=>by
  cases ps with
  | nil=>cases e
  | cons p ps=>
   unfold look at e
   rw [List.zip_cons_cons,List.lookup_cons] at e
   rw [List.map_cons,List.zip_cons_cons,List.lookup_cons]
   by_cases q:x = p
   ·subst q; rw [beq_self_eq_true] at e; cases e
    exact ⟨u,r,by rw [beq_self_eq_true]⟩
   ·rw [beq_false_of_ne q] at e
    rw [beq_false_of_ne fun w=>q (j7 w)]
    exact ih ps e) ps e
theorem tW {ps:List Nm} {us:List Value} (h:ps.Nodup):(((ps.map toS).zip us).map (·.1)).Nodup:=by
 induction ps generalizing us with
 | nil=>exact .nil
 | cons p ps ih=>
  cases us with
  | nil=>exact .nil
  | cons u us=>
   obtain ⟨h1,h2⟩:=List.nodup_cons.mp h
   refine List.nodup_cons.mpr ⟨fun w=>?_,ih h2⟩
   obtain ⟨q,hq,QB⟩:=List.mem_map.mp (rB w)
   exact h1 (j7 QB ▸ hq)
theorem wG (C:Addr) (us:List Value) (A:Around):(A.under (.builtin "type.__call__" ⟨.ref C :: us,[]⟩)).frames = A.frames:=by
 unfold Around.under
 dsimp only
 rw [pushEnvs_eq,show (Code.builtin "type.__call__" ⟨.ref C :: us,[]⟩).envs = [] from rfl]
 cases A.frames <;> rfl
theorem yD (C:Addr) (us:List Value) (A:Around):(A.under (.builtin "type.__call__" ⟨.ref C :: us,[]⟩)).units = A.units + 1:=rfl
theorem A6 {C:Addr} (X:P.K.In s.heap) (hk:keepIn P.K (.ref C) = true) :
  ∃ k,(k = Keeper.frame \/ k = Keeper.machine) /\ ∀ {Q':Keeper -> Shared -> Prop},Q' k s -> wpAny P.M A (keeperOf (.ref C)) Q' E s:=by
 obtain ⟨k,h1,h2⟩:=looks_keep (M:=P.M) hk X
 exact ⟨k,h1,fun q=>h2.here q⟩
structure yx (cl:Cl) (D:Cf):Prop where
 params:cl.params = D.params
 bb:cl.bb = D.bb
 jn:lG D.sc.names D.self D.body cl.jn
 names:(cl.jn.map (·.1)).Nodup
 len:cl.jn.length <= 100
 kind:D.sc.kind = .function
 co:D.sc.isCoroutine = false
 gen:D.sc.isGenerator = false
 Mx:nm D.self ∉ D.params
 nodup:D.params.Nodup
 My:D.sc.names.lookup D.self = some .local
 Mz:(D.self == aM) = false
 pl:∀ x ∈ D.params,D.sc.names.lookup (toS x) = some .local /\ x ≠ dot0
 jD:∀ x ∈ D.sc.names,x.2 ≠ .cell
 free:∀ x,D.sc.names.lookup x ≠ some .free
end
end
namespace GC
noncomputable def Gq (σ:Mine.Loc) (ks:List (PySem.Str × PySem.NameKind)) (Q:PySem.Value -> PySem.Shared -> Prop) (E:PySem.Value -> PySem.Shared -> Prop) (c:Mine.Nm) (C:PySem.Addr) (b:Nat) (vs:List Mine.AV) (us:List PySem.Value) (p:Mine.AP):Prop:=∀ (G:dT P) (cl:Cl) (D:Cf) (CO:yx cl D) (CA:ClsAt P c D C) (X:Cx) (t:St) (σ':Loc) (h:At (b + 3) ks X σ t) (rv:aC P t.g t.s.heap vs us) (hb:bindParams cl.params cl.bb vs = some σ') (ei:runN wY σ' cl.jn t.H fun fs H=>p (.inst c fs) H) (q:nN (frs X.fs) t.g.μ t.g t.s p Q),wpAny P.M X.A (call (.ref C) us) Q E t.s
noncomputable def kq:Mine.Loc × List (PySem.Str × PySem.NameKind) × (PySem.Value -> PySem.Shared -> Prop) × (PySem.Value -> PySem.Shared -> Prop) × Mine.Nm × PySem.Addr × Nat × List Mine.AV × List PySem.Value × Mine.AP:=cx fun p=>Gq p.1 p.2.1 p.2.2.1 p.2.2.2.1 p.2.2.2.2.1 p.2.2.2.2.2.1 p.2.2.2.2.2.2.1 p.2.2.2.2.2.2.2.1 p.2.2.2.2.2.2.2.2.1 p.2.2.2.2.2.2.2.2.2
noncomputable def σ:=kq.1
noncomputable def ks:=kq.2.1
noncomputable def Q:=kq.2.2.1
noncomputable def E:=kq.2.2.2.1
noncomputable def c:=kq.2.2.2.2.1
noncomputable def C:=kq.2.2.2.2.2.1
noncomputable def b:=kq.2.2.2.2.2.2.1
noncomputable def vs:=kq.2.2.2.2.2.2.2.1
noncomputable def us:=kq.2.2.2.2.2.2.2.2.1
noncomputable def p:=kq.2.2.2.2.2.2.2.2.2
theorem tq:Gq σ ks Q E c C b vs us p:=by
 intro G cl D CO CA X t σ' h rv hb ei q
 rw [CO.params,CO.bb] at hb
 obtain ⟨fI,hfind,hty,⟨fd,bx,F,HG,Ln,HF⟩⟩:=CA.init
 obtain ⟨o,f1,f2⟩:=F.obj
 have f3:=F.body
 have f4:=F.code
 have f5:=F.closure
 have f6:=F.globals
 have f7:=F.builtins
 have f8:fd.scope.kind = .function:=F.sc ▸ CO.kind
 have f9:fd.scope.isCoroutine = false:=F.sc ▸ CO.co
 have Lo:fd.scope.isGenerator = false:=F.sc ▸ CO.gen
 have DN:=CO.Mx
 have Lm:=CO.nodup
 have Ot:fd.scope.names.lookup D.self = some .local:=F.sc ▸ CO.My
 have Rf:=CO.Mz
 have Oq:∀ x ∈ D.params,fd.scope.names.lookup (toS x) = some .local /\ x ≠ dot0:=F.sc ▸ CO.pl
 have Ll:∀ x ∈ fd.scope.names,x.2 ≠ .cell:=F.sc ▸ CO.jD
 have Oo:∀ x,fd.scope.names.lookup x ≠ some .free:=F.sc ▸ CO.free
 have Rd:lG fd.scope.names D.self D.body cl.jn:=F.sc ▸ CO.jn
 obtain ⟨g,H,⟨hh,gg,dr,tk,os⟩⟩:=t
 obtain ⟨A,fs,own,env⟩:=X
 dsimp only at h rv ei q ⊢
 have X:=h.inv.oU G.T
 have hc:=CA.cls
 refine wpAny_call (make_core (makes_of X CA.makes) (looks_findIn X hfind) (fun self=>bind_fn X self hty) (.inl rfl) ?_)
 have R4:=ba hh
 have R3:hh.get? (hh.objs.size + 1) = none:=Heap.get?_none_of_le (Nat.le_succ _)
 have MS:((hh.push emptyDict).push (instObj C hh.objs.size)).get? (hh.objs.size + 1) = some (instObj C hh.objs.size):=by
  have:=Heap.get?_push_size (hh.push emptyDict) (o:=instObj C hh.objs.size) rfl
  rw [Heap.size_push] at this; exact this
 have MT:((hh.push emptyDict).push (instObj C hh.objs.size)).get? hh.objs.size = some emptyDict:=Heap.get?_push_of_some _ (Heap.get?_push_size _ rfl)
 have je:∀ b o,hh.get? b = some o -> ((hh.push emptyDict).push (instObj C hh.objs.size)).get? b = some o:=fun b o e=>Heap.get?_push_of_some _ (Heap.get?_push_of_some _ e)
 have PK:((hh.push emptyDict).push (instObj C hh.objs.size)).objs.size = hh.objs.size + 2:=by rw [Heap.size_push,Heap.size_push]
 generalize R2:(hh.push emptyDict).push (instObj C hh.objs.size) = h2 at *
 generalize hd:hh.objs.size = d at *
 have i₀:=h.inv
 have k₀:=i₀.jM
 have kk:∀ b o,P.h₀.get? b = some o -> h2.get? b = some o:=fun b o e=>je b o (k₀ b o e)
 unfold bindParams at hb
 split at hb
 case isFalse=>cases hb
 rename_i hlen
 cases hb
 have hvl:=rv.length
 have Dn:=HF ⟨h2,gg,dr,tk,os⟩ (.ref (d + 1)) us kk (hvl ▸ hlen.1) (by rw [HG,← hvl]; exact hlen.2)
 generalize Hx:((D.self,Value.ref (d + 1)) :: (D.params.map toS).zip (us ++ bx.drop (bx.length - (D.params.length - us.length)))) = binds at Dn
 have E9:(A.under (.builtin "type.__call__" ⟨.ref C :: us,[]⟩)).depth < recursionLimit:=by rw [depth_under_kw]; exact uG (k:=1) h.here.depth (Nat.le_trans (by decide) (Nat.mul_le_mul_left 2 (Nat.le_add_left 3 b)))
 refine codeAny_call_def E9 (kk _ _ f1) f2 (G.nolimit.keeps kk) (f4.keeps kk) f3 Dn Ll ?_ (fun h₁ hns hkeep=>?_) f9 Lo f8
 ·intro y hy
  rw [← Hx] at hy
  rcases List.mem_cons.mp hy with rfl | hy
  ·exact Ot
  ·obtain ⟨p,hp,KA⟩:=List.mem_map.mp (List.of_mem_zip (a:=y.1) (b:=y.2) hy).1
   rw [← KA]; exact (Oq p hp).1
 dsimp only at hns hkeep ⊢
 rw [PK] at hns ⊢
 generalize xG:callEnv fd (d + 2) fI = cenv
 have xH:cenv.locals = d + 2:=by rw [← xG]; rfl
 have hcs:cenv.cells = []:=by rw [← xG]; exact f5
 have hcf:cenv.frame = some (d + 2):=by rw [← xG]; rfl
 have hck:∀ x,cenv.kindOf x = fd.scope.names.lookup x:=fun x=>by rw [← xG]; rfl
 have xC:cenv.scope.kind = .function:=by rw [← xG]; exact f8
 have kp:∀ b o,hh.get? b = some o -> h₁.get? b = some o:=fun b o e=>hkeep b o (je b o e)
 have i₁:Inv g H h₁:=i₀.grow kp
 have oX:∀ b,d <= b -> hh.get? b = none:=fun b hb=>Heap.get?_none_of_le (by rw [hd]; exact hb)
 have fresh':∀ b,d <= b -> ¬ g.Z b /\ b ∉ g.μ:=fun b hb=>let ⟨p,q⟩:=i₀.fresh (oX b hb); ⟨q,p⟩
 have Pf:∀ b,d <= b -> b ∉ frs fs:=fun b hb m=>by
  obtain ⟨_,o,e,_⟩:=Heap.FunFrames.mem h.here.fm.frames m
  exact aX e (oX b hb)
 have nodup:(binds.map (·.1)).Nodup:=by
  rw [← Hx,List.map_cons,List.nodup_cons]
  refine ⟨fun w=>?_,tW Lm⟩
  obtain ⟨p,hp,KA⟩:=List.mem_map.mp (rB w)
  have:p = nm D.self:=by have w:toS p = D.self:=KA; rw [← w,CM]
  exact DN (this ▸ hp)
 have PM:aC P g h₁ (vs ++ D.bb.drop (D.bb.length - (D.params.length - vs.length))) (us ++ bx.drop (bx.length - (D.params.length - us.length))):=by
  refine aC.append (rv.mono (fun _ _ e=>e) (fun _ z=>z) fun b o _ e=>kp b o e) ?_
  rw [HG,hvl]
  exact (Ln g h₁).drop _
 have su:look (D.params.zip (vs ++ D.bb.drop (D.bb.length - (D.params.length - vs.length)))) dot0 = none:=by
  cases q:look (D.params.zip (vs ++ D.bb.drop (D.bb.length - (D.params.length - vs.length)))) dot0 with
  | none=>rfl
  | some v=>exact ((Oq _ (km q)).2 rfl).elim
 have hfm:Fm (cenv :: fs) [d + 2] cenv (D.params.zip (vs ++ D.bb.drop (D.bb.length - (D.params.length - vs.length)))) g h₁:=by
  refine ⟨xC,su,by rw [← xG]; exact f6,by rw [← xG]; exact f7,by rw [xH]; simp,fun x c e=>(by rw [hcs] at e; cases e),fun b hb=>?_,fun b hb=>?_,?_,fun b hb=>?_,by rw [hcs]; exact List.Pairwise.nil,fun x c e=>(by rw [hcs] at e; cases e),fun x c e=>(by rw [hcs] at e; cases e),?_⟩
  ·simp at hb; subst hb
   obtain ⟨o,es,ep,e,_⟩:=hns
   exact ⟨(fresh' _ (Nat.le_add_right d 2)).1,(fresh' _ (Nat.le_add_right d 2)).2,o,e⟩
  ·simp only [frs,List.filterMap_cons,hcf] at hb
   rcases List.mem_cons.mp hb with rfl | hb
   ·exact fresh' _ (Nat.le_add_right d 2)
   ·exact h.here.fm.bH b hb
  ·exact Heap.FunFrames.cons (by rw [xC]; exact fun q=>by cases q) hcf hns (by rfl) (eW (fun b hb o e=>⟨o.slots,kp b o e⟩) h.here.fm.frames)
  ·rw [hcf] at hb; cases hb; simp [frs,hcf]
  ·refine ⟨_,by rw [xH]; exact hns,fun x v e=>?_⟩
   obtain ⟨u,r,q1⟩:=Eg PM e
   refine ⟨u,r,fun _=>?_,fun w=>?_⟩
   ·rw [om nodup,← Hx,List.lookup_cons]
    have:(toS x == D.self) = false:=beq_false_of_ne fun w=>DN (by have:=km e; rw [← w]; simpa using this)
    rw [this]; exact q1
   ·exfalso
    rcases w with w | w
    ·rw [hck] at w; exact Ll _ (mem_of_lookup w) rfl
    ·rw [hck] at w; exact Oo _ w
 have hkn:Kn fd.scope.names cenv:=by
  refine ⟨fun x e=>by rw [hck]; exact e,fun x e=>by rw [hck]; exact e,fun x e=>(Ll _ (mem_of_lookup e) rfl).elim,fun x e=>(Oo x e).elim⟩
 have MR:Here 2 ((A.under (.builtin "type.__call__" ⟨.ref C :: us,[]⟩)).deeper cenv) (cenv :: fs) [d + 2] cenv (D.params.zip (vs ++ D.bb.drop (D.bb.length - (D.params.length - vs.length)))) g H ⟨h₁,gg,dr,tk + binds.length,os⟩ :=
  ⟨i₁,hfm,Around.frames_deeper (by rw [wG]; exact h.here.frames),h.here.handled,by show (A.under _).depth + 1 + 2 * 2 < _; rw [depth_under_kw]; exact uG (k:=6) h.here.depth (Nat.mul_le_mul_left 2 (Nat.le_add_left 3 b)),by show (A.under _).units + 3 + 10 * 2 < _; rw [yD]; exact uG (k:=24) h.here.units (Nat.le_trans (by decide) (Nat.mul_le_mul_left 10 (Nat.le_add_left 3 b))),h.here.gens⟩
 have xA:h₁.get? (d + 1) = some (instObj C d):=hkeep _ _ MS
 have hd₁:h₁.get? d = some emptyDict:=hkeep _ _ MT
 have px:∀ b:Nat,(b = d \/ b = d + 1) -> uM [d + 2] (cenv :: fs) g h₁ b:=fun b hb=>by
  have hb':d <= b /\ b ≠ d + 2:=hb.elim (fun e=>e ▸ ⟨Nat.le_refl _,fun q=>nomatch Nat.left_eq_add.mp q⟩) fun e=>e ▸ ⟨Nat.le_succ _,fun q=>Nat.succ_ne_self _ q.symm⟩
  refine ⟨(fresh' b hb'.1).1,(fresh' b hb'.1).2,fun m=>?_,fun m=>?_,by rcases hb with rfl | rfl; exact ⟨_,hd₁⟩; exact ⟨_,xA⟩⟩
  ·exact hb'.2 (by simpa using m)
  ·simp only [frs,List.filterMap_cons,hcf] at m
   rcases List.mem_cons.mp m with m | m
   ·exact hb'.2 m
   ·exact Pf b hb'.1 m
 have Ro:h₁.DictAt P.kind d [] 0:=⟨_,_,hd₁,⟨rfl,rfl,rfl⟩,rfl,fun e he=>by simp at he,.nil,by simp⟩
 refine E3 (X:=⟨(A.under (.builtin "type.__call__" ⟨.ref C :: us,[]⟩)).deeper cenv,cenv :: fs,[d + 2],cenv⟩) G.T CA Rf (by rw [hck]; exact Ot) (Nat.succ_ne_self d) Rd ⟨g,H,⟨h₁,gg,dr,tk + binds.length,os⟩⟩ [] _ ⟨⟨MR,hkn⟩,⟨_,by rw [xH]; exact hns,?_⟩,px _ (.inr rfl),px _ (.inl rfl),xA,[],0,Ro,.nil⟩ ei CO.names (by rw [List.length_nil,Nat.zero_add]; exact CO.len) fun HD t' e a N'=>?_
 ·rw [om nodup,← Hx,List.lookup_cons,beq_self_eq_true]
 refine ⟨rfl,?_⟩
 obtain ⟨g',H',s'⟩:=t'
 obtain ⟨_,_,JJ,Nn,hx',es',j5,Rp,PQ⟩:=N'
 have back:After (frs fs) g.μ g ⟨hh,gg,dr,tk,os⟩ g' H' s':=by
  have hw:∀ b o,hh.get? b = some o -> b ∉ g.μ -> b ∉ d :: g.μ:=fun b o e n m=>by
   rcases List.mem_cons.mp m with rfl | m
   ·exact aX e (oX _ (Nat.le_refl _))
   ·exact n m
  have Dj:∀ b o,hh.get? b = some o -> b ∉ frs fs -> b ∉ frs (cenv :: fs):=fun b o e n m=>by
   simp only [frs,List.filterMap_cons,hcf] at m
   rcases List.mem_cons.mp m with rfl | m
   ·exact aX e (oX _ (Nat.le_add_right d 2))
   ·exact n m
  refine ⟨a.inv,?_,⟨fun b o e=>a.keep.live b o (kp b o e),fun b o e n f=>a.keep.same b o (kp b o e) (hw b o e n) (Dj b o e f),fun b o e n=>a.keep.slots b o (kp b o e) (hw b o e n),fun b o e n=>a.keep.nf b o (kp b o e) n⟩,a.gens,a.os⟩
  obtain ⟨ext,e1,e2⟩:=a.le.μ
  have fr:∀ b,h₁.get? b = none -> hh.get? b = none:=fun b e=>by
   cases q:hh.get? b with
   | none=>rfl
   | some o=>have:=kp b o q; rw [this] at e; cases e
  exact ⟨⟨ext,e1,fun b hb=>fr b (e2 b hb)⟩,a.le.Z,fun b z=>(a.le.kh b z).imp id (fr b)⟩
 have c1:=back.freeze Nn.l (oX _ (Nat.le_refl _)) Nn.m
 have c2:=c1.freeze JJ.l (oX _ (Nat.le_succ d)) JJ.m
 exact q _ _ _ _ _ e c2 (.inst (Or.inr rfl) (Or.inl (Or.inr rfl)) hc hx' Rp PQ.freeze.freeze)
end GC
section
section
variable {n:Nat} {A:Around} {fs:List Env} {own:List Addr} {env:Env} {σ:Loc} {g:Gh} {H:Hp} {s:Shared} {ks:List (Str × NameKind)} {Q:Value -> Shared -> Prop} {E:Value -> Shared -> Prop} {F:List Addr}
theorem IB (G:dT P) {c:Nm} {cl:Cl} {D:Cf} {C:Addr} (CO:yx cl D) (CA:ClsAt P c D C) {b:Nat} {X:Cx} {t:St} {vs:List AV} {us:List Value} {σ':Loc} {p:AP} (h:At (b + 3) ks X σ t) (rv:aC P t.g t.s.heap vs us) (hb:bindParams cl.params cl.bb vs = some σ') (ei:runN wY σ' cl.jn t.H fun fs H=>p (.inst c fs) H) (q:nN (frs X.fs) t.g.μ t.g t.s p Q):wpAny P.M X.A (call (.ref C) us) Q E t.s :=
 bD (p:=fun p=>GC.Gq p.1 p.2.1 p.2.2.1 p.2.2.2.1 p.2.2.2.2.1 p.2.2.2.2.2.1 p.2.2.2.2.2.2.1 p.2.2.2.2.2.2.2.1 p.2.2.2.2.2.2.2.2.1 p.2.2.2.2.2.2.2.2.2) GC.tq (σ,ks,Q,E,c,C,b,vs,us,p) G cl D CO CA X t σ' h rv hb ei q
end
section
variable {n d:Nat} {ks:List (Str × NameKind)} {pos:Pos} {es:List Expr} {xs:List TE}
theorem Fl (G:dT P) {f:Str} {p':Pos} {cl:Cl} {D:Cf} (hd:(f == aM) = false) (hs:(f == ("super":Str)) = false) (hf:aQ ks f = true) (hc:gQ.lookup (nm f) = some cl) (hD:vC (nm f) = some D) (CO:yx cl D) (gs:kX n (d + 1) ks es xs):Good n (d + 1) ks (.Call (.Name f p') es [] pos) (.new (nm f) xs) :=
 .val (fun X σ t p ex Q R h q f'=>G.ns.elim fun mg N=>N.elim fun mb N=>(N.cl f D hD (by rw [hc]; rfl)).elim fun C ha=>by
  rw [arm_eval_Call_Name']
  refine wpAny_bind (dS N h hd hf (.inl ha.1) ?_)
  refine cu (iZ gs.ev gs.sh X.env pos) ?_
  refine gs.ev X σ t pos _ ex _ R h q (f'.go h.refl fun vs us t1 q a1 a1' r1=>?_)
  have h1:=h.after a1
  refine ⟨A6 (h1.inv.oU G.T) ha.2.MO,?_⟩
  unfold Mp at q
  refine aW q fun R8 e q=>aW q fun σ' hb q=>?_
  cases hc.symm.trans e
  exact IB (b:=2 * n + d) G CO ha.2 h1 r1.1 hb q fun w H' v g' s' q a r=>f'.ok w v ⟨g',H',s'⟩ q (a1'.then a) r)
  ⟨fun _=>rfl,fun _ _=>rfl,fun _ _=>rfl,fun a en w h=>vF hs a en w h⟩ fun _=>rfl
end
end
end
end Mine
end
section
open PySem PySem.W PyProof.Rows PySem.Calls
namespace Mine
noncomputable section
section
section
variable {n d:Nat} {ks:List (Str × NameKind)} {X:Cx} {σ σ':Loc} {t t1:St} {a b c:Expr} {x y z:TE} {pos:Pos} {st:Stmt} {sts uR:List Stmt} {u:TS} {us Nk:List TS} {nm bk RX:LP} {rt:AP} {ex:EP} {Q Q2:PySem.Flow -> Shared -> Prop} {R:Value -> Shared -> Prop}
theorem fG.then (a:fG X t t1) {t2:St} (b:fG X t1 t2):fG X t t2:=After.dJ a b
theorem fJ.toS (a:fJ X t t1):fG X t t1:=After.toS a
theorem gj.to (h:gj n ks X σ t) (a:fG X t t1) (m:Fm X.fs X.own X.env σ' t1.g t1.s.heap):gj n ks X σ' t1:=⟨⟨⟨a.inv,m,h.at_.here.frames,h.at_.here.handled,h.at_.here.depth,h.at_.here.units,a.gens.trans h.at_.here.gens⟩,h.at_.kn⟩,h.top,h.frame⟩
theorem gj.after (h:gj n ks X σ t) (a:fJ X t t1):gj n ks X σ t1:=⟨h.at_.after a,h.top,h.frame⟩
theorem gj.fm (h:gj n ks X σ t):Fm X.fs X.own X.env σ t.g t.s.heap:=h.at_.here.fm
theorem gj.refl (h:gj n ks X σ t):fG X t t:=h.at_.here.refl
theorem Ends.then (f:Ends X t nm bk rt ex Q R) (a:fG X t t1):Ends X t1 nm bk rt ex Q R :=
 ⟨fun σ' t' q b m=>f.n σ' t' q (a.then b) m,fun σ' t' q b m=>f.b σ' t' q (a.then b) m,fun v u t' q b r=>f.r v u t' q (a.then b) r,fun c x t' q b y=>f.e c x t' q (a.then b) (y.base fun b=>a.keep.fresh)⟩
theorem Ends.val {p:AP} {Q1:Value -> Shared -> Prop} (f:Ends X t nm bk rt ex Q R) (k:∀ v u t',p v t'.H -> fJ X t t' -> VR P t'.g t'.s.heap v u -> Q1 u t'.s):Fi X t (VR P) p ex Q1 R:=⟨k,fun c x t' q a y=>f.e c x t' q a.toS y⟩
theorem Im:fB n ks [] []:=fun X σ t nm bk rt ex Q R h q f=>wpAny_execs_nil (f.n σ t q h.refl h.fm)
theorem EG (g1:lg n ks st u) (g2:fB n ks sts us):fB n ks (st :: sts) (u :: us):=fun X σ t nm bk rt ex Q R h q f=>
 wpAny_execs_cons (g1 X σ t _ bk rt ex _ R h q ⟨fun σ' t1 q a m=>g2 X σ' t1 nm bk rt ex Q R (h.to a m) q (f.then a),f.b,f.r,f.e⟩)
theorem zO:lg n ks st .bad:=fun X σ t nm bk rt ex Q R h q f=>q.elim
theorem Il (g:Good n 2 ks a x):lg n ks (.Return (some a) pos) (.ret x):=fun X σ t nm bk rt ex Q R h q f=>
 wpAny_Return_some (g.ev X σ t rt ex _ R h.at_ q (f.val fun v u t' q a r=>f.r v u t' q a.toS r))
theorem EF (g:Good n 2 ks a x) (hc:s7 a = false):lg n ks (.Expr a pos) (.expr x):=fun X σ t nm bk rt ex Q R h q f=>
 wpAny_Expr_any (g.ev X σ t _ ex _ R h.at_ q (f.val fun v u t' q a r=>f.n σ t' q a.toS (h.after a).fm)) (by unfold interactive; rw [h.fm.kind]; rfl) (by cases a <;> first | rfl | exact nomatch hc)
theorem Iq:lg n ks (.Break pos) .brk:=fun X σ t nm bk rt ex Q R h q f=>wpAny_Break (f.b σ t q h.refl h.fm)
theorem Io (g:Good n 2 ks a x) (g1:fB n ks sts us) (g2:fB n ks uR Nk):lg n ks (.If a sts uR pos) (.ite x us Nk):=fun X σ t nm bk rt ex Q R h q f=>
 wpAny_If (g.ts X σ t (fun b H=>Br b _ _) ex _ R h.at_ q ⟨fun b b' t1 q a r=>by
  cases r
  exact mV q (fun e q=>by subst e; exact g1 X σ t1 nm bk rt ex Q R (h.after a) q (f.then a.toS)) fun e q=>by subst e; exact g2 X σ t1 nm bk rt ex Q R (h.after a) q (f.then a.toS),fun c x t' q a y=>f.e c x t' q a.toS y⟩)
theorem yL {p':Pos} (go:Good n 2 ks a x) (gi:Good n 2 ks b y) (gv:Good n 2 ks c z) {X:Cx} {σ:Loc} {t:St} {nm bk:LP} {rt:AP} {ex:EP} {Q:PySem.Flow -> Shared -> Prop} {R:Value -> Shared -> Prop} (h:gj n ks X σ t) (q:(.store x y z:TS) (WF n) σ t.H nm bk rt ex) (f:Ends X t nm bk rt ex Q R):wpAny P.M X.A (PySem.exec (.Assign [.Subscript a b p'] c pos) X.env) Q R t.s:=by
 refine wpAny_Assign_Subscript (gv.ev X σ t _ ex _ R h.at_ q (f.val fun v1 u1 t1 q a1 r1=>?_)) (Ca _ _ _ _ _ _)
 have h1:=h.after a1
 refine go.ev X σ t1 _ ex _ R h1.at_ q ((f.then a1.toS).val fun v2 u2 t2 q a2 r2=>?_)
 have h2:=h1.after a2
 refine gi.ev X σ t2 _ ex _ R h2.at_ q (((f.then a1.toS).then a2.toS).val fun v3 u3 t3 q a3 r3=>?_)
 have h3:=h2.after a3
 have r1':=h2.at_.vr a3 (h1.at_.vr a2 r1)
 have r2':=h2.at_.vr a3 r2
 have f3:=((f.then a1.toS).then a2.toS).then a3.toS
 unfold HY at q
 cases v2 with
 | dct l=>
  refine aW q fun o ho q=>?_
  cases o with
  | list _=>exact q.elim
  | dict it kvs=>
   refine aW q fun k hk q=>?_
   obtain ⟨ad,rfl,hl⟩:=r2'.inv
   refine AF (F:=frs X.fs) h3.at_.inv ho hl (iB hk r3) r1' q.1 h3.at_.here.apart fun s' a=>?_
   exact f3.n σ ⟨t3.g,_,s'⟩ q.2 (After.toS a) (h3.at_.here.after a).fm
 | lst l=>
  refine aW q fun vs hv q=>aW q fun m hm q=>?_
  obtain ⟨ad,rfl,hl⟩:=r2'.inv
  obtain ⟨tk,rfl⟩:=r3.cD hm
  refine AE (F:=frs X.fs) h3.at_.inv (iS hv) hl r1' q.1 fun s' a=>?_
  exact f3.n σ ⟨t3.g,_,s'⟩ q.2 (After.toS a) (h3.at_.here.after a).fm
 | _=>exact q.elim
theorem Cw {p':Pos} (go:Good n 2 ks a x) (gi:Good n 2 ks b y) (gv:Good n 2 ks c z):lg n ks (.Assign [.Subscript a b p'] c pos) (.store x y z):=fun X σ t nm bk rt ex Q R h q f=>yL go gi gv h q f
end
end
end
end Mine
end
section
open PySem PySem.W PyProof.Rows PySem.Calls
namespace Mine
noncomputable section
section
class inductive ef (ks:List (Str × NameKind)):List Expr -> List Nm -> Prop
 | nil:ef ks [] []
 | cons {x p es xs}:isVar ks x = true -> ef ks es xs -> ef ks (.Name x p :: es) (nm x :: xs)
class inductive fX (ks:List (Str × NameKind)):Expr -> bq -> Prop
 | one {x p}:isVar ks x = true -> fX ks (.Name x p) (.one (nm x))
 | many {es xs k p}:ef ks es xs -> xs.Nodup -> fX ks (.Tuple es k p) (.many xs)
noncomputable def BZ (env:Env) (x:Str):Prop:=env.kindOf x = some .local \/ (env.kindOf x = some .cell /\ ∃ c,env.cells.lookup x = some c)
section
variable {n:Nat} {A:Around} {fs:List Env} {own ow pr W F:List Addr} {env:Env} {σ σ':Loc} {g g':Gh} {H H':Hp} {s s':Shared} {h h':Heap} {ks:List (Str × NameKind)} {E:Value -> Shared -> Prop}
theorem Kn.var (k:Kn ks env) {x:Str} (h:isVar ks x = true):BZ env x:=by
 rcases pW h with q | q
 ·exact .inl (k.loc x q)
 ·exact .inr (k.yo x q)
theorem Fm.look (m:Fm fs own env σ g h) (e:∀ x,look σ' x = Mine.look σ x):Fm fs own env σ' g h :=
 ⟨m.kind,(e dot0).trans m.jC,m.globals,m.builtins,m.eU,m.du,m.ownOut,m.bH,m.frames,m.isFrame,m.dO,m.fy,m.cells,let ⟨mm,hn,hv⟩:=m.vals; ⟨mm,hn,fun x v q=>hv x v ((e x).symm.trans q)⟩⟩
theorem jy (x y:Nm) (v:AV) (σ:Loc):look ((x,v) :: σ) y = if y = x then some v else look σ y:=by
 unfold look
 rw [List.lookup_cons]
 by_cases q:y = x
 ·subst q; simp
 ·rw [beq_false_of_ne q,if_neg q]
end
end
namespace GB
noncomputable def Gq (A:PySem.Around) (fs:List PySem.Env) (own:List PySem.Addr) (ow:List PySem.Addr) (F:List PySem.Addr) (env:PySem.Env) (σ:Mine.Loc) (g:Mine.Gh) (H:Mine.Hp) (s:PySem.Shared) (E:PySem.Value -> PySem.Shared -> Prop) (x:PySem.Str) (v:Mine.AV) (u:PySem.Value) (Q:Unit -> PySem.Shared -> Prop):Prop:=∀ (i:Inv g H s.heap) (m:Fm fs own env σ g s.heap) (vx:BZ env x) (nd:nm x ≠ dot0) (hw:∀ a ∈ own,(env.kindOf x = some .local -> a = env.locals) -> a ∈ ow) (rv:VR P g s.heap v u) (hQ:∀ s',After F ow g s g H s' -> Fm fs own env ((nm x,v) :: σ) g s'.heap -> Q () s'),wpAny P.M A (storeName env x u) Q E s
noncomputable def kq:PySem.Around × List PySem.Env × List PySem.Addr × List PySem.Addr × List PySem.Addr × PySem.Env × Mine.Loc × Mine.Gh × Mine.Hp × PySem.Shared × (PySem.Value -> PySem.Shared -> Prop) × PySem.Str × Mine.AV × PySem.Value × (Unit -> PySem.Shared -> Prop):=cx fun p=>Gq p.1 p.2.1 p.2.2.1 p.2.2.2.1 p.2.2.2.2.1 p.2.2.2.2.2.1 p.2.2.2.2.2.2.1 p.2.2.2.2.2.2.2.1 p.2.2.2.2.2.2.2.2.1 p.2.2.2.2.2.2.2.2.2.1 p.2.2.2.2.2.2.2.2.2.2.1 p.2.2.2.2.2.2.2.2.2.2.2.1 p.2.2.2.2.2.2.2.2.2.2.2.2.1 p.2.2.2.2.2.2.2.2.2.2.2.2.2.1 p.2.2.2.2.2.2.2.2.2.2.2.2.2.2
noncomputable def A:=kq.1
noncomputable def fs:=kq.2.1
noncomputable def own:=kq.2.2.1
noncomputable def ow:=kq.2.2.2.1
noncomputable def F:=kq.2.2.2.2.1
noncomputable def env:=kq.2.2.2.2.2.1
noncomputable def σ:=kq.2.2.2.2.2.2.1
noncomputable def g:=kq.2.2.2.2.2.2.2.1
noncomputable def H:=kq.2.2.2.2.2.2.2.2.1
noncomputable def s:=kq.2.2.2.2.2.2.2.2.2.1
noncomputable def E:=kq.2.2.2.2.2.2.2.2.2.2.1
noncomputable def x:=kq.2.2.2.2.2.2.2.2.2.2.2.1
noncomputable def v:=kq.2.2.2.2.2.2.2.2.2.2.2.2.1
noncomputable def u:=kq.2.2.2.2.2.2.2.2.2.2.2.2.2.1
noncomputable def Q:=kq.2.2.2.2.2.2.2.2.2.2.2.2.2.2
theorem tq:Gq A fs own ow F env σ g H s E x v u Q:=by
 intro i m vx nd hw rv hQ
 have fin:∀ {a:Addr} {h':Heap} {t:Nat},a ∈ own -> a ∈ ow -> Heap.SameBut a s.heap h' -> (∃ o,h'.get? a = some o /\ NF o) -> After F ow g s g H { s with heap:=h',toks:=t }:=fun {a h' t} ha hw sb nf=>by
  obtain ⟨q1,q2,_⟩:=m.ownOut _ ha
  have a1:After F [a] g s g H { s with heap:=h',toks:=t }:=.a8 i q1 q2 sb nf
  exact ⟨a1.inv,a1.le,a1.keep.weaken fun b hb=>by simp at hb; subst hb; exact .inl hw,a1.gens,a1.os⟩
 have common:∀ {a:Addr} {h':Heap},a ∈ own -> Heap.SameBut a s.heap h' -> (∃ o,h'.get? a = some o /\ NF o) -> (∀ b o,g.Z b -> s.heap.get? b = some o -> h'.get? b = some o) /\ (∀ b ∈ own,∃ o,h'.get? b = some o) /\ h'.FunFrames {} fs:=fun {a h'} ha sb nf=>by
  obtain ⟨q1,q2,_⟩:=m.ownOut _ ha
  refine ⟨fun b o z e=>(sb.2 b fun q=>q1 (q ▸ z)).trans e,fun b hb=>?_,iD (fun b o e n=>?_) m.frames⟩
  ·by_cases q:b = a
   ·subst q; obtain ⟨o,e,_⟩:=nf; exact ⟨o,e⟩
   ·obtain ⟨_,_,o,e⟩:=m.ownOut b hb
    exact ⟨o,(sb.2 b q).trans e⟩
  ·by_cases q:b = a
   ·subst q; exact nf
   ·exact ⟨o,(sb.2 b q).trans e,n⟩
 obtain ⟨mm,hn,hv⟩:=m.vals
 have jC:look ((nm x,v) :: σ) dot0 = none:=by rw [jy,if_neg (Ne.symm nd)]; exact m.jC
 rcases vx with vx | ⟨vx,c,hc⟩
 ·refine wpAny_storeName_local vx hn (fun h' hn' sb=>?_) (by rw [m.kind]; rfl)
  have nf:∃ o,h'.get? env.locals = some o /\ NF o:=by
   obtain ⟨o,es,ep,e,d,_⟩:=hn'
   exact ⟨o,e,fun vs q=>by rw [d] at q; cases q⟩
  obtain ⟨k1,k2,k3⟩:=common m.eU sb nf
  refine hQ _ (fin m.eU (hw _ m.eU fun _=>rfl) sb nf) ⟨m.kind,jC,m.globals,m.builtins,m.eU,m.du,fun b hb=>⟨(m.ownOut b hb).1,(m.ownOut b hb).2.1,k2 b hb⟩,m.bH,k3,m.isFrame,m.dO,m.fy,fun y c e=>?_,?_⟩
  ·obtain ⟨w,hw⟩:=m.cells y c e
   exact ⟨w,hw.sameBut sb (m.fy y c e)⟩
  ·refine ⟨_,hn',fun y w e=>?_⟩
   rw [jy] at e
   split at e
   ·rename_i q; cases e
    subst q
    refine ⟨u,rv.mono (fun _ _ e=>e) (fun _ z=>z) k1,fun _=>by simp,fun kk=>?_⟩
    rw [bJ] at kk
    rw [vx] at kk; rcases kk with kk | kk <;> cases kk
   ·rename_i q
    obtain ⟨u',r',q1,q2⟩:=hv y w e
    refine ⟨u',r'.mono (fun _ _ e=>e) (fun _ z=>z) k1,fun kk=>?_,fun kk=>?_⟩
    ·have:¬ toS y = x:=fun w=>q (by rw [← w]; simp)
     simp only [this,if_false]; exact q1 kk
    ·obtain ⟨c,hc1,hc2⟩:=q2 kk
     exact ⟨c,hc1,hc2.sameBut sb (m.fy _ c hc1)⟩
 ·obtain ⟨v₀,Qw⟩:=m.cells x c hc
  refine wpAny_storeName_cell m.kind vx hc Qw fun h' hc' sb=>?_
  have nf:∃ o,h'.get? c = some o /\ NF o:=by
   obtain ⟨o,e,d⟩:=hc'
   exact ⟨o,e,fun vs q=>by rw [d] at q; cases q⟩
  have ho:=m.du x c hc
  obtain ⟨k1,k2,k3⟩:=common ho sb nf
  have hne:=m.fy x c hc
  refine hQ _ (fin ho (hw _ ho fun w=>by rw [vx] at w; cases w) sb nf) ⟨m.kind,jC,m.globals,m.builtins,m.eU,m.du,fun b hb=>⟨(m.ownOut b hb).1,(m.ownOut b hb).2.1,k2 b hb⟩,m.bH,k3,m.isFrame,m.dO,m.fy,fun y c' e=>?_,?_⟩
  ·by_cases q:c' = c
   ·subst q; exact ⟨_,hc'⟩
   ·obtain ⟨w,hw⟩:=m.cells y c' e
    exact ⟨w,hw.sameBut sb q⟩
  ·refine ⟨mm,hn.sameBut sb (Ne.symm hne),fun y w e=>?_⟩
   rw [jy] at e
   split at e
   ·rename_i q; cases e
    subst q
    refine ⟨u,rv.mono (fun _ _ e=>e) (fun _ z=>z) k1,fun kk=>?_,fun kk=>?_⟩
    ·rw [bJ,vx] at kk; cases kk
    ·rw [bJ]; exact ⟨c,hc,hc'⟩
   ·rename_i q
    obtain ⟨u',r',q1,q2⟩:=hv y w e
    refine ⟨u',r'.mono (fun _ _ e=>e) (fun _ z=>z) k1,fun kk=>q1 kk,fun kk=>?_⟩
    obtain ⟨c',hc1,hc2⟩:=q2 kk
    refine ⟨c',hc1,hc2.sameBut sb fun w=>?_⟩
    subst w
    have:=name_of_addr m.dO (mem_of_lookup hc1) (mem_of_lookup hc)
    exact q (by rw [← this]; simp)
end GB
section
section
variable {n:Nat} {A:Around} {fs:List Env} {own ow pr W F:List Addr} {env:Env} {σ σ':Loc} {g g':Gh} {H H':Hp} {s s':Shared} {h h':Heap} {ks:List (Str × NameKind)} {E:Value -> Shared -> Prop}
theorem lj (i:Inv g H s.heap) (m:Fm fs own env σ g s.heap) {x:Str} {v:AV} {u:Value} (vx:BZ env x) (nd:nm x ≠ dot0) (hw:∀ a ∈ own,(env.kindOf x = some .local -> a = env.locals) -> a ∈ ow) (rv:VR P g s.heap v u) {Q:Unit -> Shared -> Prop} (hQ:∀ s',After F ow g s g H s' -> Fm fs own env ((nm x,v) :: σ) g s'.heap -> Q () s'):wpAny P.M A (storeName env x u) Q E s :=
 bD (p:=fun p=>GB.Gq p.1 p.2.1 p.2.2.1 p.2.2.2.1 p.2.2.2.2.1 p.2.2.2.2.2.1 p.2.2.2.2.2.2.1 p.2.2.2.2.2.2.2.1 p.2.2.2.2.2.2.2.2.1 p.2.2.2.2.2.2.2.2.2.1 p.2.2.2.2.2.2.2.2.2.2.1 p.2.2.2.2.2.2.2.2.2.2.2.1 p.2.2.2.2.2.2.2.2.2.2.2.2.1 p.2.2.2.2.2.2.2.2.2.2.2.2.2.1 p.2.2.2.2.2.2.2.2.2.2.2.2.2.2) GB.tq (A,fs,own,ow,F,env,σ,g,H,s,E,x,v,u,Q) i m vx nd hw rv hQ
theorem L8 (i:Inv g H s.heap) (m:Fm fs own env σ g s.heap):Apart (frs fs) (own ++ g.μ) g:=fun b z=>⟨fun q=>(List.mem_append.mp q).elim (fun q=>(m.ownOut b q).1 z) fun q=>i.apart b q z,fun q=>(m.bH b q).1 z⟩
noncomputable def Ow (env:Env) (own ow:List Addr) (xs:List Nm):Prop:=∀ x ∈ xs,∀ a ∈ own,(env.kindOf (toS x) = some .local -> a = env.locals) -> a ∈ ow
theorem Ow.all (env:Env) (own:List Addr) (xs:List Nm):Ow env own own xs:=fun _ _ _ ha _=>ha
theorem yF {xs:List Nm}:∀ {es:List Expr} {vs:List AV} {us:List Value} {σ:Loc} {s:Shared} {Q:Unit -> Shared -> Prop},ef ks es xs -> Kn ks env -> Ow env own ow xs -> (∀ a ∈ ow,a ∈ own) -> vs.length = xs.length -> Inv g H s.heap -> Fm fs own env σ g s.heap -> aC P g s.heap vs us ->
  (∀ s',After (frs fs) ow g s g H s' -> Fm fs own env ((xs.zip vs).reverse ++ σ) g s'.heap -> Q () s') -> wpAny P.M A (assignInOrder ((assignEach es env).map (·.2)) us) Q E s:=by
 induction xs with
 | nil=>
  intro es vs us σ s Q r k hw ho hl i m rv hQ
  cases r
  cases vs with
  | cons _ _=>simp at hl
  | nil=>
   cases rv
   exact wpAny_pure (hQ s (.refl i) (by simpa using m))
 | cons x xs ih=>
  intro es vs us σ s Q r k hw ho hl i m rv hQ
  cases r with | cons hx r=>
  rename_i x p es
  cases vs with
  | nil=>simp at hl
  | cons v vs=>
   cases rv with | cons r1 rs=>
   rename_i u us
   show wpAny P.M A (assignInOrder (assign (.Name x p) env :: (assignEach es env).map (·.2)) (u :: us)) Q E s
   refine wpAny_assignInOrder_more (wpAny_assign_Name (lj (F:=frs fs) i m (k.var hx) (kR hx) (by have:=hw (nm x) (by simp); rwa [bJ] at this) r1 fun s1 a1 m1=>?_))
   refine ih r k (fun y hy=>hw y (List.mem_cons_of_mem _ hy)) ho (by simpa using hl) a1.inv m1 (a1.zE (fun b z=>⟨fun q=>(m.ownOut b (ho b q)).1 z,fun q=>(m.bH b q).1 z⟩) rs) fun s2 a2 m2=>hQ s2 (a1.trans a2 fun b hb=>.inl hb) ?_
   simpa using m2
theorem CN {es:List Expr} {xs:List Nm} (r:ef ks es xs):es.length = xs.length /\ (assignEach es env).length = es.length /\ (assignEach es env).findIdx? (·.1) = none:=by
 induction r with
 | nil=>exact ⟨rfl,rfl,rfl⟩
 | cons _ _ ih=>
  obtain ⟨h1,h2,h3⟩:=ih
  refine ⟨congrArg (· + 1) h1,congrArg (· + 1) h2,?_⟩
  show List.findIdx? (·.1) ((false,_) :: assignEach _ env) = none
  rw [List.findIdx?_cons]
  simp [h3]
theorem qh (h:Here n A fs own env σ g H s) (k:Kn ks env) {ao:Expr} {t:bq} (r:fX ks ao t) (hw:Ow env own ow (iq t)) (ho:∀ a ∈ ow,a ∈ own) {v:AV} {u:Value} (rv:VR P g s.heap v u) (hb:bg t v σ = some σ') {Q:Unit -> Shared -> Prop}
  (hQ:∀ s',After (frs fs) ow g s g H s' -> Fm fs own env σ' g s'.heap -> Q () s'):wpAny P.M A (assign ao env u) Q E s:=by
 cases r with
 | one hx=>
  cases hb
  exact wpAny_assign_Name (lj (F:=frs fs) h.inv h.fm (k.var hx) (kR hx) (by have:=hw _ (List.mem_singleton.mpr rfl); rwa [bJ] at this) rv hQ)
 | many r _=>
  rename_i es xs kk p
  refine bnd hb fun vs e1 hb=>k8 hb fun hl hb=>?_
  subst hb
  obtain ⟨us,a,rfl,z,t,rs⟩:=rv.fV e1
  have hb:=trivial
  obtain ⟨l1,l2,l3⟩:=CN (env:=env) r
  have hlen:=rs.length
  refine assign_Tuple_tuple h.handled t (by rw [l2,l1,← hl,hlen]; simp) l3 fun h' eb=>?_
  have kk:∀ b o,s.heap.get? b = some o -> h'.get? b = some o:=fun b o e=>eb b o (Nat.ne_of_lt (Heap.lt_size e)) e
  have a1:After (frs fs) [] g s g H { s with heap:=h',toks:=s.toks }:=.grow h.inv kk
  have h1:=h.after (.grow h.inv kk (t:=s.toks))
  refine yF (s:={ s with heap:=h' }) r k hw ho hl h1.inv h1.fm (a1.zE (fun b z=>⟨by simp,(h.apart b z).2⟩) rs) fun s2 a2 m2=>hQ s2 ?_ m2
  exact After.trans (W:=ow) ⟨a1.inv,a1.le,a1.keep.weaken fun b hb=>by simp at hb,a1.gens,a1.os⟩ a2 fun b hb=>.inl hb
end
end
end
end Mine
end
section
open PySem PySem.W PyProof.Rows PySem.Calls
namespace Mine
noncomputable section
section
inductive bj (g:Gh) (h:Heap):It -> Addr -> Prop
 | lst {l i:Nat} {a it:Addr}:g.μ[l]? = some a -> h.IsListIter it a i -> bj g h (.lst l i) it
 | ah {bh:List AV} {us:List Value} {a it:Addr} {i:Nat}:g.Z a -> h.PlainList a us.toArray -> aC P g h bh us -> h.IsListIter it a i -> bj g h (.seq (bh.drop i)) it
 | tup {bh:List AV} {us:List Value} {a it:Addr} {i:Nat}:g.Z a -> IsTup h a us.toArray -> aC P g h bh us -> h.IsTupleIter it a i -> bj g h (.seq (bh.drop i)) it
noncomputable def kN (x:Int):Nat -> List AV
 | 0=>[]
 | n + 1=>.int x :: kN (x + 1) n
theorem wQ (n:Nat) (x:Int):kN x n = (List.range n).map fun k:Nat=>AV.int (x + k):=by
 induction n generalizing x with
 | zero=>rfl
 | succ n ih=>
  show AV.int x :: kN (x + 1) n = _
  rw [ih,List.range_succ_eq_map,List.map_cons,List.map_map]
  refine congr (congrArg (fun z=>List.cons (AV.int z)) (Int.add_zero x).symm) (List.map_congr_left fun k _=>congrArg AV.int ?_)
  show x + 1 + (k:Int) = x + (k + 1:Int)
  rw [Int.add_assoc,Int.add_comm 1]
inductive bE (g:Gh) (h:Heap):It -> Addr -> List Addr -> Prop
 | sim {it:It} {a:Addr}:bj g h it a -> bE g h it a [a]
 | uS {x:Int} {n:Nat} {it:Addr}:IsRangeIter h it x n 1 -> bE g h (.seq (kN x n)) it [it]
 | mT {kvs:List (AK × AV)} {es:List (AK × Value)} {d it:Addr} {i ep:Nat}:g.Z d -> h.DictAt P.kind d es ep -> aU P g h kvs es -> h.IsKeyIter it d i es.length ep ->
   bE g h (.seq ((kvs.drop i).map fun kv=>bQ kv.1)) it [it]
 | keys {l i n:Nat} {d it:Addr}:g.μ[l]? = some d -> h.IsKeyIter it d i n n -> bE g h (.keys l i n) it [it]
 | bytes {b:Array UInt8} {t:Tok} {i:Nat} {it:Addr}:KBw.IsBytesIter h it b t i -> bE g h (.seq (((b.toList.map (·.toNat)).drop i).map fun n:Nat=>AV.int (n:Int))) it [it]
 | rev {bh:List AV} {us:List Value} {a it:Addr} {i:Nat}:g.Z a -> h.PlainList a us.toArray -> aC P g h bh us -> i <= bh.length -> h.IsRevIter it a ((i:Int) - 1) -> bE g h (.seq (bh.take i).reverse) it [it]
 | zip {x y:It} {z TI TO i1 i2:Addr}:IsZip h z TI TO .none -> IsPair h TI (.ref i1) (.ref i2) -> (∃ a b,IsPair h TO a b) -> bj g h x i1 -> bj g h y i2 -> [z,TI,TO,i1,i2].Nodup ->
   bE g h (.zip x y) z [z,TI,TO,i1,i2]
section
variable {n:Nat} {A:Around} {fs:List Env} {own pr W F:List Addr} {env:Env} {σ:Loc} {g g':Gh} {H H':Hp} {s s':Shared} {h h':Heap} {E:Value -> Shared -> Prop}
theorem bj.mono {it:It} {a:Addr} (r:bj g h it a) (hm:∀ (l:Nat) (a:Addr),g.μ[l]? = some a -> g'.μ[l]? = some a) (hz:∀ a,g.Z a -> g'.Z a) (hk:∀ a o,g.Z a -> h.get? a = some o -> h'.get? a = some o)
  (hi:∀ o,h.get? a = some o -> h'.get? a = some o):bj g' h' it a:=by
 cases r with
 | lst e x=>exact .lst (hm _ _ e) (x.at hi)
 | ah z p r x=>exact .ah (hz _ z) (plain_at p fun o=>hk _ o z) (r.mono hm hz hk) (x.at hi)
 | tup z p r x=>exact .tup (hz _ z) (ku p fun o=>hk _ o z) (r.mono hm hz hk) (x.at hi)
end
end
namespace GA
noncomputable def Gq (g:Mine.Gh) (g':Mine.Gh) (h:PySem.Heap) (h':PySem.Heap) (a:PySem.Addr):Prop:=∀ (pr:List PySem.Addr) (it:It) (r:bE g h it a pr) (hm:∀ (l:Nat) (a:Addr),g.μ[l]? = some a -> g'.μ[l]? = some a) (hz:∀ a,g.Z a -> g'.Z a) (hk:∀ a o,g.Z a -> h.get? a = some o -> h'.get? a = some o) (hi:∀ b ∈ pr,∀ o,h.get? b = some o -> h'.get? b = some o),bE g' h' it a pr
noncomputable def kq:Mine.Gh × Mine.Gh × PySem.Heap × PySem.Heap × PySem.Addr:=cx fun p=>Gq p.1 p.2.1 p.2.2.1 p.2.2.2.1 p.2.2.2.2
noncomputable def g:=kq.1
noncomputable def g':=kq.2.1
noncomputable def h:=kq.2.2.1
noncomputable def h':=kq.2.2.2.1
noncomputable def a:=kq.2.2.2.2
theorem tq:Gq g g' h h' a:=by
 intro pr it r hm hz hk hi
 cases r with
 | sim r=>exact .sim (r.mono hm hz hk (hi _ (.head _)))
 | uS x=>exact .uS (hi _ (.head _) _ x)
 | mT z d r x=>exact .mT (hz _ z) (d.at fun o=>hk _ o z) (r.mono hm hz hk) (let ⟨o,e,w⟩:=x; ⟨o,hi _ (.head _) o e,w⟩)
 | keys e x=>exact .keys (hm _ _ e) (let ⟨o,e,w⟩:=x; ⟨o,hi _ (.head _) o e,w⟩)
 | bytes x=>exact .bytes (let ⟨o,e,w⟩:=x; ⟨o,hi _ (.head _) o e,w⟩)
 | rev z p r hl x=>exact .rev (hz _ z) (plain_at p fun o=>hk _ o z) (r.mono hm hz hk) hl (x.at (hi _ (.head _)))
 | zip hz' hTI hTO r1 r2 nd=>
  obtain ⟨a,b,hTO⟩:=hTO
  exact .zip (hi _ (.head _) _ hz') (hi _ (.tail _ (.head _)) _ hTI) ⟨a,b,hi _ (.tail _ (.tail _ (.head _))) _ hTO⟩ (r1.mono hm hz hk (hi _ (.tail _ (.tail _ (.tail _ (.head _)))))) (r2.mono hm hz hk (hi _ (.tail _ (.tail _ (.tail _ (.tail _ (.head _))))))) nd
end GA
section
section
variable {n:Nat} {A:Around} {fs:List Env} {own pr W F:List Addr} {env:Env} {σ:Loc} {g g':Gh} {H H':Hp} {s s':Shared} {h h':Heap} {E:Value -> Shared -> Prop}
theorem bE.mono {it:It} {a:Addr} (r:bE g h it a pr) (hm:∀ (l:Nat) (a:Addr),g.μ[l]? = some a -> g'.μ[l]? = some a) (hz:∀ a,g.Z a -> g'.Z a) (hk:∀ a o,g.Z a -> h.get? a = some o -> h'.get? a = some o) (hi:∀ b ∈ pr,∀ o,h.get? b = some o -> h'.get? b = some o):bE g' h' it a pr :=
 bD (p:=fun p=>GA.Gq p.1 p.2.1 p.2.2.1 p.2.2.2.1 p.2.2.2.2) GA.tq (g,g',h,h',a) pr it r hm hz hk hi
theorem bE.after {it:It} {a:Addr} (r:bE g s.heap it a pr) (af:After F W g s g' H' s') (ap:Apart F W g) (hp:∀ b ∈ pr,b ∉ W /\ b ∉ F):bE g' s'.heap it a pr :=
 r.mono (fun _ _ e=>af.le.get e) af.le.Z (fun b o z e=>af.keep.same b o e (ap b z).1 (ap b z).2) fun b hb o e=>af.keep.same b o e (hp b hb).1 (hp b hb).2
theorem aC.at {bh:List AV} {us:List Value} (r:aC P g h bh us) {i:Nat} {x:AV} {rest:List AV} (e:bh.drop i = x :: rest):∃ u,us.toArray[i]? = some u /\ VR P g h x u /\ rest = bh.drop (i + 1):=by
 have h1:bh[i]? = some x:=by
  have:(bh.drop i)[0]? = some x:=by rw [e]; rfl
  simpa using this
 obtain ⟨u,e1,e2⟩:=r.get h1
 refine ⟨u,by simpa using e1,e2,?_⟩
 have:=congrArg List.tail e
 rw [List.tail_drop] at this
 simpa using this.symm
theorem aC.tT {bh:List AV} {us:List Value} (r:aC P g h bh us) {i:Nat} (e:bh.drop i = []):us.toArray[i]? = none:=by
 have:=r.length
 simp at e ⊢; omega
theorem qL {it t:Addr} {i:Nat} {items:Array Value} {x:Value} {Q:Value -> Shared -> Prop} (hit:s.heap.IsTupleIter it t i)
  (ht:s.heap.IsTuple t items) (hx:items[i]? = some x)
  (hQ:∀ h',h'.IsTupleIter it t (i + 1) -> Heap.SameBut it s.heap h' -> Q x { s with heap:=h' }) :
  wpAny P.M A (Builtin.SmallTypes.nextOf (.ref it)) Q E s:=by
 obtain ⟨o,ho,hc,hd⟩:=id hit
 obtain ⟨ol,KG,_,nl,hdl⟩:=ht
 unfold Builtin.SmallTypes.nextOf
 refine wpAny_bind (wpAny_callSpecial?_slot (name:=Str.ofString "__next__") hit.typeIs F.slot_tuple_iterator_next
  (wpAny_call_entry F.slot_tuple_iterator_next hit.typeIs F.entry_tuple_iterator_next ?_ (F.args_tuple_iterator_next_1 _)))
 show wpAny _ _ (field (.ref it) 0 >>= _) _ _ s
 refine wpAny_bind (wpAny_field ho hd (x:=.ref t) rfl ?_)
 show wpAny _ _ (if (Value.ref t == Value.none) = true then _ else _) _ _ s
 rw [if_neg (show ¬ ((Value.ref t == Value.none) = true) from Bool.false_ne_true)]
 show wpAny _ _ (field (.ref it) 1 >>= _) _ _ s
 refine wpAny_bind (wpAny_field ho hd (x:=.int i 0) rfl ?_)
 show wpAny _ _ (seqItems? (.ref t) >>= _) _ _ s
 refine wpAny_bind (wpAny_seqItems KG hdl ?_)
 simp only [Int.toNat_natCast,hx]
 refine wpAny_bind (wpAny_setField ho hd (by simp) (wpAny_pure ⟨x,rfl,wpAny_pure (hQ _ ?_ (Heap.SameBut.update ..))⟩))
 exact ⟨_,Heap.get?_update_self _ ho (Obj.isFreed_of_fields (Obj.data_mapFields hd _)),(Obj.cls_mapFields ..).trans hc,by
  rw [Obj.data_mapFields hd]; simp [rawInt]⟩
end
end
namespace Gz
noncomputable def Gq (A:PySem.Around) (s:PySem.Shared) (E:PySem.Value -> PySem.Shared -> Prop) (it:PySem.Addr) (t:PySem.Addr) (i:Nat) (items:Array PySem.Value) (Q:PySem.Value -> PySem.Shared -> Prop):Prop:=∀ (hh:A.handled = none) (hit:s.heap.IsTupleIter it t i) (ht:s.heap.IsTuple t items) (hx:items[i]? = none) (hE:∀ h' e,Heap.ExtBut it s.heap h' -> (∃ o,h'.get? e = some o /\ o.cls = .type "StopIteration") -> E (.ref e) { s with heap:=h' }),wpAny P.M A (Builtin.SmallTypes.nextOf (.ref it)) Q E s
noncomputable def kq:PySem.Around × PySem.Shared × (PySem.Value -> PySem.Shared -> Prop) × PySem.Addr × PySem.Addr × Nat × Array PySem.Value × (PySem.Value -> PySem.Shared -> Prop):=cx fun p=>Gq p.1 p.2.1 p.2.2.1 p.2.2.2.1 p.2.2.2.2.1 p.2.2.2.2.2.1 p.2.2.2.2.2.2.1 p.2.2.2.2.2.2.2
noncomputable def A:=kq.1
noncomputable def s:=kq.2.1
noncomputable def E:=kq.2.2.1
noncomputable def it:=kq.2.2.2.1
noncomputable def t:=kq.2.2.2.2.1
noncomputable def i:=kq.2.2.2.2.2.1
noncomputable def items:=kq.2.2.2.2.2.2.1
noncomputable def Q:=kq.2.2.2.2.2.2.2
theorem tq:Gq A s E it t i items Q:=by
 intro hh hit ht hx hE
 obtain ⟨o,ho,hc,hd⟩:=id hit
 obtain ⟨ol,KG,_,nl,hdl⟩:=ht
 unfold Builtin.SmallTypes.nextOf
 refine wpAny_bind (wpAny_callSpecial?_slot (name:=Str.ofString "__next__") hit.typeIs F.slot_tuple_iterator_next
  (wpAny_call_entry F.slot_tuple_iterator_next hit.typeIs F.entry_tuple_iterator_next ?_ (F.args_tuple_iterator_next_1 _)))
 show wpAny _ _ (field (.ref it) 0 >>= _) _ _ s
 refine wpAny_bind (wpAny_field ho hd (x:=.ref t) rfl ?_)
 show wpAny _ _ (if (Value.ref t == Value.none) = true then _ else _) _ _ s
 rw [if_neg (show ¬ ((Value.ref t == Value.none) = true) from Bool.false_ne_true)]
 show wpAny _ _ (field (.ref it) 1 >>= _) _ _ s
 refine wpAny_bind (wpAny_field ho hd (x:=.int i 0) rfl ?_)
 show wpAny _ _ (seqItems? (.ref t) >>= _) _ _ s
 refine wpAny_bind (wpAny_seqItems KG hdl ?_)
 simp only [Int.toNat_natCast,hx]
 refine wpAny_bind (wpAny_rule (wpAny_bind (wpAny_setField ho hd (by simp) ?_)))
 show wpAny _ _ (newExc (.type "StopIteration") [] >>= _) _ _ _
 refine wpAny_bind ?_
 simp only [newExc,newTuple]
 refine wpAny_bind (wpAny_newObj_type ?_ (by size_fits))
 refine wpAny_bind (m:=firstArgMember _ _) (wpAny_of_eq (a:=Value.none) (by first | rfl | (simp only [firstArgMember]; rfl)) ?_)
 refine wpAny_newObj_type ?_ (by size_fits)
 refine wpAny_raiseNew_none hh ?_
 exact hE _ _ (((Heap.SameBut.update ..).extBut.push _).push _) ⟨_,Heap.get?_push_size _ rfl,rfl⟩
end Gz
section
section
variable {n:Nat} {A:Around} {fs:List Env} {own pr W F:List Addr} {env:Env} {σ:Loc} {g g':Gh} {H H':Hp} {s s':Shared} {h h':Heap} {E:Value -> Shared -> Prop}
theorem rL {it t:Addr} {i:Nat} {items:Array Value} {Q:Value -> Shared -> Prop} (hh:A.handled = none) (hit:s.heap.IsTupleIter it t i) (ht:s.heap.IsTuple t items) (hx:items[i]? = none) (hE:∀ h' e,Heap.ExtBut it s.heap h' -> (∃ o,h'.get? e = some o /\ o.cls = .type "StopIteration") -> E (.ref e) { s with heap:=h' }):wpAny P.M A (Builtin.SmallTypes.nextOf (.ref it)) Q E s :=
 bD (p:=fun p=>Gz.Gq p.1 p.2.1 p.2.2.1 p.2.2.2.1 p.2.2.2.2.1 p.2.2.2.2.2.1 p.2.2.2.2.2.2.1 p.2.2.2.2.2.2.2) Gz.tq (A,s,E,it,t,i,items,Q) hh hit ht hx hE
theorem wK (i:Inv g H s.heap) {it it':It} {a:Addr} {x:AV} (r:bj g s.heap it a) (hz:¬ g.Z a) (hm:a ∉ g.μ) (e:aT H it = some (some (x,it'))) {Q:Value -> Shared -> Prop}
  (q:∀ v h',Heap.SameBut a s.heap h' -> bj g h' it' a -> VR P g s.heap x v -> Q v { s with heap:=h' }):wpAny P.M A (Builtin.SmallTypes.nextOf (.ref a)) Q E s:=by
 have kz:∀ {h'},Heap.SameBut a s.heap h' -> ∀ b o,g.Z b -> s.heap.get? b = some o -> h'.get? b = some o:=fun sb b o z e=>(sb.2 b fun q=>hz (q ▸ z)).trans e
 cases r with
 | lst el x'=>
  refine iF e fun vs hv e=>J2 e fun v hx e=>?_
  cases e
  obtain ⟨us,p,rs⟩:=jd i (iS hv) el
  obtain ⟨u,e1,e2⟩:=rs.get hx
  exact wpAny_nextOf_list_item x' (aI p) (by simpa using e1) fun h' y sb=>q u h' sb (.lst el y) e2
 | ah z p rs x'=>
  rename_i bh us l k
  cases hd:bh.drop k with
  | nil=>rw [hd] at e; exact (by cases e)
  | cons w rest=>
   rw [hd] at e; cases e
   obtain ⟨u,e1,e2,rfl⟩:=rs.at hd
   refine wpAny_nextOf_list_item x' (aI p) e1 fun h' y sb=>q u h' sb (.ah z (plain_at p fun o=>kz sb _ o z) (rs.mono (g:=g) (fun _ _ e=>e) (fun _ z=>z) (kz sb)) y) e2
 | tup z p rs x'=>
  rename_i bh us l k
  cases hd:bh.drop k with
  | nil=>rw [hd] at e; exact (by cases e)
  | cons w rest=>
   rw [hd] at e; cases e
   obtain ⟨u,e1,e2,rfl⟩:=rs.at hd
   refine qL x' p e1 fun h' y sb=>q u h' sb (.tup z (ku p fun o=>kz sb _ o z) (rs.mono (g:=g) (fun _ _ e=>e) (fun _ z=>z) (kz sb)) y) e2
theorem zI (i:Inv g H s.heap) (hh:A.handled = none) {it:It} {a:Addr} (r:bj g s.heap it a) (e:aT H it = some none) {Q:Value -> Shared -> Prop}
  (q:∀ h' e,Heap.ExtBut a s.heap h' -> (∃ o,h'.get? e = some o /\ o.cls = .type "StopIteration") -> E (.ref e) { s with heap:=h' }):wpAny P.M A (Builtin.SmallTypes.nextOf (.ref a)) Q E s:=by
 cases r with
 | lst el x'=>
  refine iF e fun vs hv e=>?_
  obtain ⟨us,p,rs⟩:=jd i (iS hv) el
  exact wpAny_nextOf_list_end hh x' (aI p) (by have:=rs.get_none (Option.map_eq_none_iff.1 e); simpa using this) q
 | ah z p rs x'=>
  rename_i bh us l k
  cases hd:bh.drop k with
  | cons w rest=>rw [hd] at e; exact (by cases e)
  | nil=>exact wpAny_nextOf_list_end hh x' (aI p) (rs.tT hd) q
 | tup z p rs x'=>
  rename_i bh us l k
  cases hd:bh.drop k with
  | cons w rest=>rw [hd] at e; exact (by cases e)
  | nil=>exact rL hh x' p (rs.tT hd) q
end
end
end
end Mine
end
section
open PySem PySem.W PyProof.Rows PySem.Calls
set_option maxRecDepth 100000
namespace Mine
noncomputable section
section
section
variable {n:Nat} {A:Around} {fs:List Env} {own pr W F:List Addr} {env:Env} {σ:Loc} {g g':Gh} {H H':Hp} {s s':Shared} {h h':Heap} {E:Value -> Shared -> Prop}
theorem bj.same {it:It} {a b:Addr} (r:bj g h it a) (sb:Heap.SameBut b h h') (hb:¬ g.Z b) (ab:a ≠ b):bj g h' it a :=
 r.mono (fun _ _ e=>e) (fun _ z=>z) (fun c o z e=>(sb.2 c fun q=>hb (q ▸ z)).trans e) fun o e=>(sb.2 a ab).trans e
theorem bj.keep {it:It} {a:Addr} (r:bj g h it a) (k:∀ b o,(g.Z b \/ b = a) -> h.get? b = some o -> h'.get? b = some o):bj g h' it a :=
 r.mono (fun _ _ e=>e) (fun _ z=>z) (fun c o z e=>k c o (.inl z) e) fun o e=>k a o (.inr rfl) e
theorem Inv.same {b:Addr} (i:Inv g H h) (sb:Heap.SameBut b h h') (hb:¬ g.Z b /\ b ∉ g.μ /\ b ≠ sysModules):Inv g H h' :=
 i.off (pr:=[b]) (fun c o m e=>(sb.2 c (by simpa using m)).trans e) fun c hc=>by simp at hc; subst hc; exact hb
theorem bj.live {it:It} {a:Addr} (r:bj g h it a):∃ o,h.get? a = some o:=by
 cases r with
 | lst _ x=>obtain ⟨o,e,_⟩:=x; exact ⟨o,e⟩
 | ah _ _ _ x=>obtain ⟨o,e,_⟩:=x; exact ⟨o,e⟩
 | tup _ _ _ x=>obtain ⟨o,e,_⟩:=x; exact ⟨o,e⟩
end
end
namespace Gy
noncomputable def Gq (A:PySem.Around) (g:Mine.Gh) (H:Mine.Hp) (s:PySem.Shared) (E:PySem.Value -> PySem.Shared -> Prop) (z:PySem.Addr) (TI:PySem.Addr) (TO:PySem.Addr) (i1:PySem.Addr) (i2:PySem.Addr) (a:PySem.Value) (b:PySem.Value) (x:Mine.It) (y:Mine.It) (res:Option (Mine.AV × Mine.It)) (Q:PySem.Fin -> PySem.Shared -> Prop):Prop:=∀ (i:Inv g H s.heap) (hh:A.handled = none) (hz:IsZip s.heap z TI TO .none) (hTI:IsPair s.heap TI (.ref i1) (.ref i2)) (hTO:IsPair s.heap TO a b) (r1:bj g s.heap x i1) (r2:bj g s.heap y i2) (nd:[z,TI,TO,i1,i2].Nodup) (off:∀ c ∈ [z,TI,TO,i1,i2],¬ g.Z c /\ c ∉ g.μ /\ c ≠ sysModules) (e:aT H (.zip x y) = some res) (hQ:∀ v1 v2 x' y' u1 u2 h',res = some (.tup [v1,v2],.zip x' y') -> VR P g s.heap v1 u1 -> VR P g s.heap v2 u2 -> IsZip h' z TI TO (rawInt s.heap.objs.size) -> IsPair h' TO u1 u2 -> bj g h' x' i1 -> bj g h' y' i2 -> IsPair h' s.heap.objs.size u1 u2 ->
   (∀ c o,c ≠ z -> c ≠ TO -> c ≠ i1 -> c ≠ i2 -> s.heap.get? c = some o -> h'.get? c = some o) -> Q (.done (.ret (.ref s.heap.objs.size))) { s with heap:=h' }) (hE:res = none -> ∀ h' e,(∀ c o,c ≠ z -> c ≠ TO -> c ≠ i1 -> c ≠ i2 -> s.heap.get? c = some o -> h'.get? c = some o) -> (∃ o,h'.get? e = some o /\ o.cls = .type "StopIteration") -> E (.ref e) { s with heap:=h' }),wpAny P.M A (Builtin.«zip.__next__» ⟨[.ref z],[]⟩) Q E s
noncomputable def kq:PySem.Around × Mine.Gh × Mine.Hp × PySem.Shared × (PySem.Value -> PySem.Shared -> Prop) × PySem.Addr × PySem.Addr × PySem.Addr × PySem.Addr × PySem.Addr × PySem.Value × PySem.Value × Mine.It × Mine.It × Option (Mine.AV × Mine.It) × (PySem.Fin -> PySem.Shared -> Prop):=cx fun p=>Gq p.1 p.2.1 p.2.2.1 p.2.2.2.1 p.2.2.2.2.1 p.2.2.2.2.2.1 p.2.2.2.2.2.2.1 p.2.2.2.2.2.2.2.1 p.2.2.2.2.2.2.2.2.1 p.2.2.2.2.2.2.2.2.2.1 p.2.2.2.2.2.2.2.2.2.2.1 p.2.2.2.2.2.2.2.2.2.2.2.1 p.2.2.2.2.2.2.2.2.2.2.2.2.1 p.2.2.2.2.2.2.2.2.2.2.2.2.2.1 p.2.2.2.2.2.2.2.2.2.2.2.2.2.2.1 p.2.2.2.2.2.2.2.2.2.2.2.2.2.2.2
noncomputable def A:=kq.1
noncomputable def g:=kq.2.1
noncomputable def H:=kq.2.2.1
noncomputable def s:=kq.2.2.2.1
noncomputable def E:=kq.2.2.2.2.1
noncomputable def z:=kq.2.2.2.2.2.1
noncomputable def TI:=kq.2.2.2.2.2.2.1
noncomputable def TO:=kq.2.2.2.2.2.2.2.1
noncomputable def i1:=kq.2.2.2.2.2.2.2.2.1
noncomputable def i2:=kq.2.2.2.2.2.2.2.2.2.1
noncomputable def a:=kq.2.2.2.2.2.2.2.2.2.2.1
noncomputable def b:=kq.2.2.2.2.2.2.2.2.2.2.2.1
noncomputable def x:=kq.2.2.2.2.2.2.2.2.2.2.2.2.1
noncomputable def y:=kq.2.2.2.2.2.2.2.2.2.2.2.2.2.1
noncomputable def res:=kq.2.2.2.2.2.2.2.2.2.2.2.2.2.2.1
noncomputable def Q:=kq.2.2.2.2.2.2.2.2.2.2.2.2.2.2.2
theorem tq:Gq A g H s E z TI TO i1 i2 a b x y res Q:=by
 intro i hh hz hTI hTO r1 r2 nd off e hQ hE
 simp only [List.nodup_cons,List.mem_cons,List.not_mem_nil,or_false,not_or] at nd
 obtain ⟨⟨JR,wV,uV,wW⟩,⟨Ny,NB,Nz⟩,⟨J0,Hd⟩,J1,_⟩:=nd
 have oz:=off z (.head _)
 have oO:=off TO (.tail _ (.tail _ (.head _)))
 have o1:=off i1 (.tail _ (.tail _ (.tail _ (.head _))))
 have o2:=off i2 (.tail _ (.tail _ (.tail _ (.tail _ (.head _)))))
 show wpAny _ _ (field (.ref z) 2 >>= _) _ _ _
 refine wpAny_bind (wpAny_field hz rfl (x:=.bool false) rfl ?_)
 show wpAny _ _ (field (.ref z) 3 >>= _) _ _ _
 refine wpAny_bind (wpAny_field hz rfl (x:=.ref TI) rfl ?_)
 refine wpAny_bind (wpAny_seqItems hTI rfl ?_)
 show wpAny _ _ (Builtin.SmallTypes.ownedTupleIsFree (.ref z) >>= _) _ _ _
 refine wpAny_bind ?_
 unfold Builtin.SmallTypes.ownedTupleIsFree
 refine wpAny_bind (wpAny_field hz rfl (x:=.none) rfl (wpAny_pure ?_))
 refine Nh rfl ?_
 refine wpAny_bind (wpAny_rule ?_)
 refine wpAny_bind (wpAny_field hz rfl (x:=.ref TO) rfl ?_)
 refine wpAny_bind (wpAny_setField_rec hz (by simp) fun h₁ De hs₁=>?_)
 replace De:IsZip h₁ z TI TO .ellipsis:=De
 refine wpAny_bind ?_
 have i₁:=i.same hs₁ oz
 refine wpAny_bind (wpAny_bind (wpAny_onRaise ?_))
 show wpAny _ _ (Builtin.SmallTypes.nextOf (.ref i1) >>= _) _ _ _
 refine bnd e fun w1 e1 e=>?_
 cases w1 with
 | none=>
  have e0:=Option.some.inj e
  refine wpAny_bind (zI (s:={ s with heap:=h₁ }) i₁ hh (r1.same hs₁ oz.1 (Ne.symm uV)) e1 fun h₂ e hs₂ he=>?_)
  obtain ⟨oe,xE,Dm⟩:=he
  have NQ:IsZip h₂ z TI TO .ellipsis:=hs₂ _ _ uV De
  have KV:e ≠ z:=fun x=>by subst x; rw [NQ] at xE; cases xE; simp at Dm
  refine wpAny_setField_rec NQ (by simp) fun h₃ _ nF=>hE e0.symm h₃ e (fun c o c1 _ c3 _ x=>nF.extBut _ _ c1 (hs₂ _ _ c3 (hs₁.extBut _ _ c1 x))) ⟨oe,nF.extBut _ _ KV xE,Dm⟩
 | some w1=>
  obtain ⟨v1,x'⟩:=w1
  refine wpAny_bind (wK (s:={ s with heap:=h₁ }) i₁ (r1.same hs₁ oz.1 (Ne.symm uV)) o1.1 o1.2.1 e1 fun u1 h₂ hs₂ PU w1=>wpAny_pure ?_)
  have K1:IsPair h₂ TO a b:=hs₂.extBut _ _ J0 (hs₁.extBut _ _ (Ne.symm wV) hTO)
  refine wpAny_bind (wpAny_seqItems K1 rfl ?_)
  refine wpAny_bind (wpAny_updateSeq_pair K1 fun h₃ Fc nF=>?_)
  replace Fc:IsPair h₃ TO u1 b:=Fc
  refine wpAny_bind (wpAny_letGo (wpAny_pure ?_))
  have i₂:=i₁.same hs₂ o1
  have i₃:=i₂.same nF oO
  refine wpAny_bind (wpAny_bind (wpAny_onRaise ?_))
  show wpAny _ _ (Builtin.SmallTypes.nextOf (.ref i2) >>= _) _ _ _
  refine iF e fun w2 e2 e=>?_
  cases w2 with
  | none=>
   have e0:=e
   refine wpAny_bind (zI (s:={ s with heap:=h₃ }) i₃ hh (((r2.same hs₁ oz.1 (Ne.symm wW)).same hs₂ o1.1 (Ne.symm J1)).same nF oO.1 (Ne.symm Hd)) e2 fun h₄ e vf he=>?_)
   obtain ⟨oe,xE,Dm⟩:=he
   have NP:IsZip h₄ z TI TO .ellipsis:=vf _ _ wW (nF.extBut _ _ wV (hs₂.extBut _ _ uV De))
   have KV:e ≠ z:=fun x=>by subst x; rw [NP] at xE; cases xE; simp at Dm
   refine wpAny_setField_rec NP (by simp) fun h₅ _ ve=>hE e0.symm h₅ e (fun c o c1 c2 c3 c4 x=>ve.extBut _ _ c1 (vf _ _ c4 (nF.extBut _ _ c2 (hs₂.extBut _ _ c3 (hs₁.extBut _ _ c1 x))))) ⟨oe,ve.extBut _ _ KV xE,Dm⟩
  | some w2=>
   obtain ⟨v2,y'⟩:=w2
   refine wpAny_bind (wK (s:={ s with heap:=h₃ }) i₃ (((r2.same hs₁ oz.1 (Ne.symm wW)).same hs₂ o1.1 (Ne.symm J1)).same nF oO.1 (Ne.symm Hd)) o2.1 o2.2.1 e2 fun u2 h₄ vf PS w2=>wpAny_pure ?_)
   have K0:IsPair h₄ TO u1 b:=vf.extBut _ _ Hd Fc
   refine wpAny_bind (wpAny_seqItems K0 rfl ?_)
   refine wpAny_bind (wpAny_updateSeq_pair K0 fun h₅ xO ve=>?_)
   replace xO:IsPair h₅ TO u1 u2:=xO
   refine wpAny_bind (wpAny_letGo (wpAny_pure (wpAny_pure ?_)))
   refine wpAny_bind (wpAny_seqItems xO rfl ?_)
   refine wpAny_bind (wpAny_newTuple ?_)
   have hsz:h₅.objs.size = s.heap.objs.size:=by rw [ve.1,vf.1,nF.1,hs₂.1,hs₁.1]
   have NO:IsZip h₅ z TI TO .ellipsis:=ve.extBut _ _ wV (vf.extBut _ _ wW (nF.extBut _ _ wV (hs₂.extBut _ _ uV De)))
   have QH:∀ c o,c ≠ z -> c ≠ TO -> c ≠ i1 -> c ≠ i2 -> s.heap.get? c = some o -> h₅.get? c = some o:=fun c o c1 c2 c3 c4 e=>
    ve.extBut _ _ c2 (vf.extBut _ _ c4 (nF.extBut _ _ c2 (hs₂.extBut _ _ c3 (hs₁.extBut _ _ c1 e))))
   have PT:bj g h₅ x' i1:=((PU.same nF oO.1 (Ne.symm J0)).same vf o2.1 J1).same ve oO.1 (Ne.symm J0)
   have PR:bj g h₅ y' i2:=PS.same ve oO.1 (Ne.symm Hd)
   have Ky:z < h₅.objs.size:=Heap.lt_size NO
   have RL:TO < h₅.objs.size:=Heap.lt_size xO
   show wpAny _ _ (Builtin.SmallTypes.ownedTupleHandOut (.ref z) (.ref h₅.objs.size) >>= _) _ _ _
   refine wpAny_bind ?_
   unfold Builtin.SmallTypes.ownedTupleHandOut
   have Qu:IsZip (h₅.push { cls:=.type "tuple",data:=.seq #[u1,u2] }) z TI TO .ellipsis:=Heap.get?_push_of_some _ NO
   refine wpAny_bind (wpAny_setField_rec Qu (by simp) fun h₇ Kw NX=>?_)
   replace Kw:IsZip h₇ z TI TO (rawInt h₅.objs.size):=Kw
   refine wpAny_setField_rec Kw (by simp) fun h₈ Hr NW=>?_
   replace Hr:IsZip h₈ z TI TO (rawInt h₅.objs.size):=Hr
   have up:∀ c o,c ≠ z -> h₅.get? c = some o -> h₈.get? c = some o:=fun c o c1 e=>NW.extBut _ _ c1 (NX.extBut _ _ c1 (Heap.get?_push_of_some _ e))
   have Oe:IsPair h₈ h₅.objs.size u1 u2:=NW.extBut _ _ (Nat.ne_of_gt Ky) (NX.extBut _ _ (Nat.ne_of_gt Ky) (Heap.get?_push_size _ rfl))
   rw [hsz] at Hr Oe
   refine wpAny_pure ?_
   show Q (.done (.ret (.ref h₅.objs.size))) _
   rw [hsz]
   have PE:VR P g s.heap v1 u1:=w1.mono (fun _ _ e=>e) (fun _ z=>z) fun c o zc e=>by
    have:=hs₁.2 c fun q=>oz.1 (q ▸ zc)
    rw [← this]; exact e
   have PD:VR P g s.heap v2 u2:=w2.mono (fun _ _ e=>e) (fun _ z=>z) fun c o zc e=>by
    have q1:=hs₁.2 c fun q=>oz.1 (q ▸ zc)
    have q2:=hs₂.2 c fun q=>o1.1 (q ▸ zc)
    have q3:=nF.2 c fun q=>oO.1 (q ▸ zc)
    rw [← q1,← q2,← q3]; exact e
   have Nl:∀ c o,(g.Z c \/ c = i1 \/ c = i2) -> h₅.get? c = some o -> h₈.get? c = some o:=fun c o w e=>up c o (by
    rcases w with w | rfl | rfl
    ·intro q; subst q; exact oz.1 w
    ·exact Ne.symm uV
    ·exact Ne.symm wW) e
   exact hQ _ _ _ _ u1 u2 h₈ e.symm PE PD Hr (up _ _ (Ne.symm wV) xO) (PT.keep fun b o w e=>Nl b o (w.imp id .inl) e) (PR.keep fun b o w e=>Nl b o (w.imp id .inr) e) Oe fun c o c1 c2 c3 c4 e=>up c o c1 (QH c o c1 c2 c3 c4 e)
end Gy
section
section
variable {n:Nat} {A:Around} {fs:List Env} {own pr W F:List Addr} {env:Env} {σ:Loc} {g g':Gh} {H H':Hp} {s s':Shared} {h h':Heap} {E:Value -> Shared -> Prop}
theorem Ef (i:Inv g H s.heap) (hh:A.handled = none) {z TI TO i1 i2:Addr} {a b:Value} {x y:It} {res:Option (AV × It)} {Q:Fin -> Shared -> Prop} (hz:IsZip s.heap z TI TO .none) (hTI:IsPair s.heap TI (.ref i1) (.ref i2)) (hTO:IsPair s.heap TO a b) (r1:bj g s.heap x i1) (r2:bj g s.heap y i2) (nd:[z,TI,TO,i1,i2].Nodup) (off:∀ c ∈ [z,TI,TO,i1,i2],¬ g.Z c /\ c ∉ g.μ /\ c ≠ sysModules) (e:aT H (.zip x y) = some res) (hQ:∀ v1 v2 x' y' u1 u2 h',res = some (.tup [v1,v2],.zip x' y') -> VR P g s.heap v1 u1 -> VR P g s.heap v2 u2 -> IsZip h' z TI TO (rawInt s.heap.objs.size) -> IsPair h' TO u1 u2 -> bj g h' x' i1 -> bj g h' y' i2 -> IsPair h' s.heap.objs.size u1 u2 ->
   (∀ c o,c ≠ z -> c ≠ TO -> c ≠ i1 -> c ≠ i2 -> s.heap.get? c = some o -> h'.get? c = some o) -> Q (.done (.ret (.ref s.heap.objs.size))) { s with heap:=h' }) (hE:res = none -> ∀ h' e,(∀ c o,c ≠ z -> c ≠ TO -> c ≠ i1 -> c ≠ i2 -> s.heap.get? c = some o -> h'.get? c = some o) -> (∃ o,h'.get? e = some o /\ o.cls = .type "StopIteration") -> E (.ref e) { s with heap:=h' }):wpAny P.M A (Builtin.«zip.__next__» ⟨[.ref z],[]⟩) Q E s :=
 bD (p:=fun p=>Gy.Gq p.1 p.2.1 p.2.2.1 p.2.2.2.1 p.2.2.2.2.1 p.2.2.2.2.2.1 p.2.2.2.2.2.2.1 p.2.2.2.2.2.2.2.1 p.2.2.2.2.2.2.2.2.1 p.2.2.2.2.2.2.2.2.2.1 p.2.2.2.2.2.2.2.2.2.2.1 p.2.2.2.2.2.2.2.2.2.2.2.1 p.2.2.2.2.2.2.2.2.2.2.2.2.1 p.2.2.2.2.2.2.2.2.2.2.2.2.2.1 p.2.2.2.2.2.2.2.2.2.2.2.2.2.2.1 p.2.2.2.2.2.2.2.2.2.2.2.2.2.2.2) Gy.tq (A,g,H,s,E,z,TI,TO,i1,i2,a,b,x,y,res,Q) i hh hz hTI hTO r1 r2 nd off e hQ hE
end
end
end
end Mine
end
section
open PySem PySem.W PyProof.Rows PySem.Calls
set_option maxRecDepth 100000
namespace Mine
noncomputable section
section
noncomputable def nY:List String:=["enumerate","zip","dict_itemiterator","dict_reverseitemiterator","odict_iterator","itertools.zip_longest","itertools.pairwise"]
section
variable {n:Nat} {A:Around} {fs:List Env} {own pr W F:List Addr} {env:Env} {σ:Loc} {g g':Gh} {H H':Hp} {s s':Shared} {h h':Heap} {E:Value -> Shared -> Prop} {ks:List (Str × NameKind)}
theorem Fw {ao:Expr} {a:Addr} {v:Value} {Q:Unit -> Shared -> Prop} (hc:∃ o c,s.heap.get? a = some o /\ o.cls = .type c /\ nY.contains c = false) (q:Q () s):wpAny P.M A (letOwnedTupleGo ao (.ref a) v) Q E s:=by
 obtain ⟨o,c,e1,e2,e3⟩:=hc
 have key:wpAny P.M A (do
   let (.ref r,.ref a):=((Value.ref a,v):Value × Value) | return
   let o ← load r
   match o.cls,o.data with
   | .type n,.fields vs=>
    if ["enumerate","zip","dict_itemiterator","dict_reverseitemiterator","odict_iterator","itertools.zip_longest","itertools.pairwise"].contains n && vs[0]? == some (rawInt a) then
     rule "for.unpacks-the-owned-tuple"
     updateField r 0 .none
   | _,_=>pure ()) Q E s:=by
  cases v with
  | ref b=>
   refine wpAny_bind (wpAny_load e1 ?_)
   obtain ⟨oc,od,dt,sl⟩:=o
   dsimp only at e2
   subst e2
   cases dt <;> first | exact wpAny_pure q | skip
   show wpAny _ _ (if (nY.contains c && _) = true then _ else _) _ _ _
   rw [e3,Bool.false_and]
   exact wpAny_pure q
  | _=>exact wpAny_pure q
 cases ao <;> first | exact wpAny_pure q | exact key
end
end
namespace Gx
noncomputable def Gq (g:Mine.Gh) (h:PySem.Heap) (a:PySem.Addr):Prop:=∀ (pr:List PySem.Addr) (it:It) (r:bE g h it a pr) (hz:∀ x y,it ≠ .zip x y),∃ o c,h.get? a = some o /\ o.cls = .type c /\ nY.contains c = false
noncomputable def kq:Mine.Gh × PySem.Heap × PySem.Addr:=cx fun p=>Gq p.1 p.2.1 p.2.2
noncomputable def g:=kq.1
noncomputable def h:=kq.2.1
noncomputable def a:=kq.2.2
theorem tq:Gq g h a:=by
 intro pr it r hz
 cases r with
 | sim r=>
  cases r with
  | lst _ x=>obtain ⟨o,e,c,_⟩:=x; exact ⟨o,_,e,c,by decide +kernel⟩
  | ah _ _ _ x=>obtain ⟨o,e,c,_⟩:=x; exact ⟨o,_,e,c,by decide +kernel⟩
  | tup _ _ _ x=>obtain ⟨o,e,c,_⟩:=x; exact ⟨o,_,e,c,by decide +kernel⟩
 | uS x=>exact ⟨_,_,x,rfl,by decide +kernel⟩
 | mT _ _ _ x=>obtain ⟨o,e,c,_⟩:=x; exact ⟨o,_,e,c,by decide +kernel⟩
 | keys _ x=>obtain ⟨o,e,c,_⟩:=x; exact ⟨o,_,e,c,by decide +kernel⟩
 | bytes x=>obtain ⟨o,e,c,_⟩:=x; exact ⟨o,_,e,c,by decide +kernel⟩
 | rev _ _ _ _ x=>obtain ⟨o,e,c,_⟩:=x; exact ⟨o,_,e,c,by decide +kernel⟩
 | zip=>exact (hz _ _ rfl).elim
end Gx
section
section
variable {n:Nat} {A:Around} {fs:List Env} {own pr W F:List Addr} {env:Env} {σ:Loc} {g g':Gh} {H H':Hp} {s s':Shared} {h h':Heap} {E:Value -> Shared -> Prop} {ks:List (Str × NameKind)}
theorem bE.cls {it:It} {a:Addr} (r:bE g h it a pr) (hz:∀ x y,it ≠ .zip x y):∃ o c,h.get? a = some o /\ o.cls = .type c /\ nY.contains c = false :=
 bD (p:=fun p=>Gx.Gq p.1 p.2.1 p.2.2) Gx.tq (g,h,a) pr it r hz
noncomputable def qm (g g':Gh) (h h':Heap):Prop:=g' = g \/ ∃ T,g' = g.freeze T /\ h.get? T = none /\ (∃ o,h'.get? T = some o) /\ T ∉ g.μ
theorem HW {k:AK} {key:Value} (e:fW k key = true):VR P g h (bQ k) key:=by
 cases k with
 | s x=>obtain ⟨t,rfl⟩:=d9 e; exact .str _ _
 | i n=>obtain ⟨t,rfl⟩:=iG e; exact .int _ _
theorem aU.at {kvs:List (AK × AV)} {es:List (AK × Value)} {i:Nat} {kv:AK × AV} (r:aU P g h kvs es) (e:kvs[i]? = some kv):∃ v,es[i]? = some (kv.1,v) :=
 r.bT (motive:=fun kvs es=>∀ i:Nat,kvs[i]? = some kv -> ∃ v,es[i]? = some (kv.1,v)) (fun i e=>by cases e) (fun {k a v as vs} _ _ ih i e=>by
  cases i with
  | zero=>cases e; exact ⟨v,rfl⟩
  | succ i=>exact ih i e) i e
theorem Aq {H:Hp} {l:Nat} {kvs:List (AK × AV)} (e:H[l]?.bind HU = some kvs):H[l]? = some (.dict true kvs):=bnd e fun o h1 h2=>by
 cases o with
 | list _=>exact gG h2
 | dict it ws=>cases it with
  | false=>exact gG h2
  | true=>cases h2; exact h1
noncomputable abbrev Kp (pr:List Addr) (h h':Heap):Prop:=∀ b o,b ∉ pr -> h.get? b = some o -> h'.get? b = some o
noncomputable def ql (A:Around) (ao:Expr) (a:Addr) (Qn:Shared -> Prop) (Qs:Value -> Shared -> Prop) (E' E:Value -> Shared -> Prop) (s:Shared):Prop :=
 wpAny P.M A (pyNext (.ref a)) (fun r s₁=>match r with
   | none=>Qn s₁
   | some v=>wpAny P.M A (letOwnedTupleGo ao (.ref a) v) (fun _ s₂=>Qs v s₂) E' s₁) E s
structure mX (g:Gh) (s:Shared) (a:Addr) (pr:List Addr) (it:It) (res:Option (AV × It)) (Qn:Shared -> Prop) (Qs:Value -> Shared -> Prop):Prop where
 n:res = none -> ∀ h' t,Kp pr s.heap h' -> Qn { s with heap:=h',toks:=t }
 s:∀ x it',res = some (x,it') -> ∀ v g' h' t,Kp pr s.heap h' -> qm g g' s.heap h' -> VR P g' h' x v -> bE g' h' it' a pr -> (∀ x y,it' = .zip x y -> ∃ x y,it = .zip x y) -> Qs v { s with heap:=h',toks:=t }
section
variable {ao:Expr} {a:Addr} {Qn:Shared -> Prop} {Qs:Value -> Shared -> Prop} {E':Value -> Shared -> Prop} {it:It} {res:Option (AV × It)}
theorem kz (za:¬ g.Z a) (sb:Heap.SameBut a s.heap h'):∀ b o,g.Z b -> s.heap.get? b = some o -> h'.get? b = some o:=fun b o z e=>(sb.2 b fun q=>za (q ▸ z)).trans e
theorem mX.fin (f:mX g s a [a] it res Qn Qs) {x:AV} {it':It} {v:Value} {t:Nat} (hr:res = some (x,it')) (nz:∀ x y,it' ≠ .zip x y) (sb:Heap.SameBut a s.heap h') (rv:VR P g h' x v) (ri:bE g h' it' a [a]) :
  wpAny P.M A (letOwnedTupleGo ao (.ref a) v) (fun _ s₂=>Qs v s₂) E' { s with heap:=h',toks:=t } :=
 Fw (s:={ s with heap:=h',toks:=t }) (ri.cls nz) (f.s _ _ hr _ g _ _ (fun b o m e=>(sb.2 b (fun q=>m (q ▸ List.mem_cons_self))).trans e) (.inl rfl) rv ri fun x y q=>(nz x y q).elim)
theorem mX.stop (f:mX g s a [a] it res Qn Qs) (hr:res = none) (eb:Heap.ExtBut a s.heap h'):Qn { s with heap:=h',toks:=s.toks }:=f.n hr h' s.toks fun b o m e=>eb b o (fun q=>m (q ▸ List.mem_cons_self)) e
theorem yh {α:Type} {l:List α} {k:Nat} {w:α} {r:List α} (h:l.drop k = w :: r):l[k]? = some w /\ r = l.drop (k + 1):=by
 refine ⟨?_,?_⟩
 ·have:(l.drop k)[0]? = some w:=by rw [h]; rfl
  rwa [List.getElem?_drop] at this
 ·have:=congrArg List.tail h
  rw [List.tail_drop] at this
  exact this.symm
theorem Ak {α:Type} {l:List α} {k:Nat} (h:l.drop k = []):l.length <= k:=List.drop_eq_nil_iff.mp h
variable (i:Inv g H s.heap) (hh:A.handled = none) (za:¬ g.Z a)
include i hh za
theorem JW {l k ad:Nat} (el:g.μ[l]? = some ad) (x':s.heap.IsListIter a ad k) (f:mX g s a [a] it res Qn Qs) (e:aT H (.lst l k) = some res):ql A ao a Qn Qs E' E s:=by
 refine iF e fun vs hv e=>?_
 obtain ⟨us,p,rs⟩:=jd i (iS hv) el
 rcases hx:vs[k]? with _ | v
 ·rw [hx] at e
  exact wpAny_pyNext_list_end hh x' (aI p) (by have:=rs.get_none hx; simpa using this) fun h' eb=>f.stop e.symm eb
 ·rw [hx] at e
  obtain ⟨u,e1,e2⟩:=rs.get hx
  exact wpAny_pyNext_list_item x' (aI p) (by simpa using e1) fun h' y sb=>f.fin (t:=s.toks) e.symm (fun _ _ q=>(by cases q)) sb (e2.mono (g:=g) (fun _ _ e=>e) (fun _ z=>z) (kz za sb)) (.sim (.lst el y))
theorem EI {bh:List AV} {us:List Value} {l:Addr} {k:Nat} (z:g.Z l) (p:s.heap.PlainList l us.toArray) (rs:aC P g s.heap bh us) (x':s.heap.IsListIter a l k) (f:mX g s a [a] it res Qn Qs) (e:aT H (.seq (bh.drop k)) = some res):ql A ao a Qn Qs E' E s:=by
 rcases hd:bh.drop k with _ | ⟨w,rest⟩
 ·rw [hd] at e
  exact wpAny_pyNext_list_end hh x' (aI p) (rs.tT hd) fun h' eb=>f.stop (Option.some.inj e.symm) eb
 ·rw [hd] at e
  obtain ⟨u,e1,e2,er⟩:=rs.at hd
  exact wpAny_pyNext_list_item x' (aI p) e1 fun h' y sb=>f.fin (t:=s.toks) (Option.some.inj e.symm) (fun _ _ q=>(by cases q)) sb (e2.mono (g:=g) (fun _ _ e=>e) (fun _ z=>z) (kz za sb))
   (er ▸ .sim (.ah z (plain_at p fun o=>kz za sb _ o z) (rs.mono (g:=g) (fun _ _ e=>e) (fun _ z=>z) (kz za sb)) y))
theorem JT {bh:List AV} {us:List Value} {l:Addr} {k:Nat} (z:g.Z l) (p:IsTup s.heap l us.toArray) (rs:aC P g s.heap bh us) (x':s.heap.IsTupleIter a l k) (f:mX g s a [a] it res Qn Qs) (e:aT H (.seq (bh.drop k)) = some res):ql A ao a Qn Qs E' E s:=by
 rcases hd:bh.drop k with _ | ⟨w,rest⟩
 ·rw [hd] at e
  exact wpAny_pyNext_tuple_end hh x' p (rs.tT hd) fun h' eb=>f.stop (Option.some.inj e.symm) eb
 ·rw [hd] at e
  obtain ⟨u,e1,e2,er⟩:=rs.at hd
  exact wpAny_pyNext_tuple_item x' p e1 fun h' y sb=>f.fin (t:=s.toks) (Option.some.inj e.symm) (fun _ _ q=>(by cases q)) sb (e2.mono (g:=g) (fun _ _ e=>e) (fun _ z=>z) (kz za sb))
   (er ▸ .sim (.tup z (ku p fun o=>kz za sb _ o z) (rs.mono (g:=g) (fun _ _ e=>e) (fun _ z=>z) (kz za sb)) y))
theorem JU {x:Int} {n:Nat} (x':IsRangeIter s.heap a x n 1) (f:mX g s a [a] it res Qn Qs) (e:aT H (.seq (kN x n)) = some res):ql A ao a Qn Qs E' E s:=by
 cases n with
 | zero=>exact wpAny_pyNext_range_end hh x' (Int.le_refl 0) fun h' eb=>f.stop (Option.some.inj e.symm) eb
 | succ n=>
  refine wpAny_pyNext_range_item x' (Int.natCast_pos.mpr (Nat.succ_pos n)) fun h' y sb=>f.fin (Option.some.inj e.symm) (fun _ _ q=>(by cases q)) sb (.int _ _) (.uS ?_)
  rwa [show ((n + 1:Nat):Int) - 1 = n by rw [Int.natCast_add]; exact Int.add_sub_cancel _ 1] at y
theorem EJ {kvs:List (AK × AV)} {es:List (AK × Value)} {dd:Addr} {k ep:Nat} (z:g.Z dd) (d:s.heap.DictAt P.kind dd es ep) (rk:aU P g s.heap kvs es) (x':s.heap.IsKeyIter a dd k es.length ep) (f:mX g s a [a] it res Qn Qs)
  (e:aT H (.seq ((kvs.drop k).map fun kv=>bQ kv.1)) = some res):ql A ao a Qn Qs E' E s:=by
 rcases hd:kvs.drop k with _ | ⟨w,rest⟩
 ·rw [hd] at e
  exact wpAny_pyNext_dict_end hh x' d (List.getElem?_eq_none (rk.length ▸ Ak hd)) fun h' eb=>f.stop (Option.some.inj e.symm) eb
 ·rw [hd] at e
  obtain ⟨hk,hr⟩:=yh hd
  obtain ⟨v,hv⟩:=rk.at hk
  exact wpAny_pyNext_dict_item x' d hv fun key h' hkey y sb=>f.fin (t:=s.toks) (Option.some.inj e.symm) (fun _ _ q=>(by cases q)) sb (HW hkey)
   (hr ▸ .mT z (d.at fun o=>kz za sb _ o z) (rk.mono (g:=g) (fun _ _ e=>e) (fun _ z=>z) (kz za sb)) y)
theorem Iw {l k n d:Nat} (el:g.μ[l]? = some d) (x':s.heap.IsKeyIter a d k n n) (f:mX g s a [a] it res Qn Qs) (e:aT H (.keys l k n) = some res):ql A ao a Qn Qs E' E s:=by
 refine bnd e fun kvs hv e=>k8 e fun hn e=>?_
 obtain ⟨d',q1,q2⟩:=i.objs _ _ (Aq hv)
 obtain rfl:d' = d:=Option.some.inj (q1.symm.trans el)
 obtain ⟨es,ep,da,Af,rk⟩:=q2.inv
 have hn':es.length = n:=rk.length.symm.trans hn
 have Ng:s.heap.IsKeyIter a d' k es.length ep:=by rw [Af rfl,hn']; exact x'
 rcases hx:kvs[k]? with _ | kv
 ·rw [hx] at e
  exact wpAny_pyNext_dict_end hh Ng da (List.getElem?_eq_none (rk.length ▸ List.getElem?_eq_none_iff.mp hx)) fun h' eb=>f.stop e.symm eb
 ·rw [hx] at e
  obtain ⟨v,hv'⟩:=rk.at hx
  refine wpAny_pyNext_dict_item Ng da hv' fun key h' hkey y sb=>f.fin (t:=s.toks) e.symm (fun _ _ q=>(by cases q)) sb (HW hkey) (.keys el ?_)
  rw [Af rfl,hn'] at y; exact y
theorem EK {b:Array UInt8} {t:Tok} {k:Nat} (x':KBw.IsBytesIter s.heap a b t k) (f:mX g s a [a] it res Qn Qs) (e:aT H (.seq (((b.toList.map (·.toNat)).drop k).map fun n:Nat=>AV.int (n:Int))) = some res):ql A ao a Qn Qs E' E s:=by
 rcases hd:(b.toList.map (·.toNat)).drop k with _ | ⟨w,rest⟩
 ·rw [hd] at e
  exact KBw.next_end hh x' (by have:=Ak hd; rw [List.length_map] at this; simpa using this) fun h' eb=>f.stop (Option.some.inj e.symm) eb
 ·rw [hd] at e
  obtain ⟨hk,hr⟩:=yh hd
  rw [List.getElem?_map] at hk
  obtain ⟨c,hc,hw⟩:=Option.map_eq_some_iff.mp hk
  refine KBw.next_item x' (c:=c) (by simpa using hc) fun h' y sb=>f.fin (Option.some.inj e.symm) (fun _ _ q=>(by cases q)) sb (hw ▸ .int _ _) ?_
  show bE _ _ (.seq (List.map _ rest)) _ _
  rw [hr]; exact .bytes y
theorem JV {bh:List AV} {us:List Value} {l:Addr} {k:Nat} (z:g.Z l) (p:s.heap.PlainList l us.toArray) (rs:aC P g s.heap bh us) (hl:k <= bh.length) (x':s.heap.IsRevIter a l ((k:Int) - 1)) (f:mX g s a [a] it res Qn Qs)
  (e:aT H (.seq (bh.take k).reverse) = some res):ql A ao a Qn Qs E' E s:=by
 cases k with
 | zero=>exact wpAny_pyNext_rev_end hh (by simpa using x') fun h' eb=>f.stop (Option.some.inj e.symm) eb
 | succ k=>
  obtain ⟨w,hw⟩:∃ w,bh[k]? = some w:=⟨_,List.getElem?_eq_getElem hl⟩
  rw [show (bh.take (k + 1)).reverse = w :: (bh.take k).reverse by rw [List.take_add_one,hw,Option.toList_some,List.reverse_append]; rfl] at e
  obtain ⟨u,e1,e2⟩:=rs.get hw
  rw [show ((k + 1:Nat):Int) - 1 = k by rw [Int.natCast_add]; exact Int.add_sub_cancel _ 1] at x'
  exact wpAny_pyNext_rev_item x' (aI p) (by simpa using e1) fun h' y sb=>f.fin (t:=s.toks) (Option.some.inj e.symm) (fun _ _ q=>(by cases q)) sb (e2.mono (g:=g) (fun _ _ e=>e) (fun _ z=>z) (kz za sb))
   (.rev z (plain_at p fun o=>kz za sb _ o z) (rs.mono (g:=g) (fun _ _ e=>e) (fun _ z=>z) (kz za sb)) (Nat.le_of_succ_le hl) y)
end
section
variable {ao:Expr} {a:Addr} {Qn:Shared -> Prop} {Qs:Value -> Shared -> Prop} {E':Value -> Shared -> Prop} {res:Option (AV × It)}
theorem Hl {b1 b2 b3 b4 b5:Addr} (hk:∀ c o,c ≠ b1 -> c ≠ b3 -> c ≠ b4 -> c ≠ b5 -> h.get? c = some o -> h'.get? c = some o):Kp [b1,b2,b3,b4,b5] h h':=fun b o m e=>
 hk b o (fun q=>m (q ▸ .head _)) (fun q=>m (q ▸ .tail _ (.tail _ (.head _)))) (fun q=>m (q ▸ .tail _ (.tail _ (.tail _ (.head _))))) (fun q=>m (q ▸ .tail _ (.tail _ (.tail _ (.tail _ (.head _)))))) e
theorem JS (i:Inv g H s.heap) (hh:A.handled = none) {x y:It} {TI TO i1 i2:Addr} {b1 b2:Value} {es:List Expr} {kk:Nat} {pp:Pos} (hz:IsZip s.heap a TI TO .none) (hTI:IsPair s.heap TI (.ref i1) (.ref i2)) (hTO:IsPair s.heap TO b1 b2) (r1:bj g s.heap x i1) (r2:bj g s.heap y i2) (nd:[a,TI,TO,i1,i2].Nodup)
  (hp:∀ b ∈ [a,TI,TO,i1,i2],¬ g.Z b /\ b ∉ g.μ /\ b ≠ sysModules) (f:mX g s a [a,TI,TO,i1,i2] (.zip x y) res Qn Qs) (e:aT H (.zip x y) = some res):ql A (.Tuple es kk pp) a Qn Qs E' E s:=by
 have hT:s.TypeIs (.ref a) "zip":=⟨_,hz,rfl⟩
 unfold ql pyNext
 refine wpAny_bind (wpAny_attempt (wpAny_callSpecial?_slot (name:=Str.ofString "__next__") hT F.slot_zip_next
  (wpAny_call_entry F.slot_zip_next hT F.entry_zip_next (Ef (A:=A.in1) i (show A.in1.handled = none from hh) hz hTI hTO r1 r2 nd hp e (fun v1 v2 x' y' u1 u2 h' er w1 w2 hz' Pc r1' r2' hTT hk=>⟨_,rfl,wpAny_pure ?_⟩) fun hr h' e hk he=>he.elim fun o he=>wpAny_bind (wpAny_isInstance (T:="StopIteration") (b:=true) ⟨o,he.1,he.2⟩ isSubtype_stop (wpAny_pure (f.n hr h' s.toks (Hl hk))))) (F.args_zip_next_1 _))))
 refine wpAny_letOwnedTupleGo_zip (s:={ s with heap:=h' }) hz' fun Ah O4 uv=>?_
 have k':Kp [a,TI,TO,i1,i2] s.heap Ah:=fun b o m e=>(uv.2 b fun q=>m (q ▸ .head _)).trans (Hl hk b o m e)
 have NK:∀ b o,g.Z b -> s.heap.get? b = some o -> Ah.get? b = some o:=fun b o z e=>k' b o (fun m=>(hp b m).1 z) e
 have nT:s.heap.get? s.heap.objs.size = none:=ba _
 have HA:IsPair Ah s.heap.objs.size u1 u2:=(uv.2 _ fun q=>aX hz (q ▸ nT)).trans hTT
 have Nu:=nd
 simp only [List.nodup_cons,List.mem_cons,List.not_mem_nil,or_false,not_or] at Nu
 obtain ⟨⟨JR,wV,uV,wW⟩,⟨Ny,NB,Nz⟩,_⟩:=Nu
 have oa:=hp a (.head _)
 have Oj:∀ {it:It} {c:Addr},bj g Ah it c -> bj (g.freeze s.heap.objs.size) Ah it c:=fun r=>r.mono (fun _ _ e=>e) (fun _ z=>.inl z) (fun _ _ _ e=>e) fun _ e=>e
 exact f.s _ _ er (.ref s.heap.objs.size) (g.freeze s.heap.objs.size) Ah s.toks k' (.inr ⟨_,rfl,nT,⟨_,HA⟩,(i.fresh nT).1⟩)
  (.tup (.inr rfl) ⟨_,HA,rfl,_,rfl⟩ (.cons ((w1.mono (g:=g) (fun _ _ e=>e) (fun _ z=>z) NK).freeze) (.cons ((w2.mono (g:=g) (fun _ _ e=>e) (fun _ z=>z) NK).freeze) .nil)))
  (.zip O4 ((uv.2 _ (Ne.symm JR)).trans (hk _ _ (Ne.symm JR) Ny NB Nz hTI)) ⟨u1,u2,(uv.2 _ (Ne.symm wV)).trans Pc⟩ (Oj (r1'.same uv oa.1 (Ne.symm uV))) (Oj (r2'.same uv oa.1 (Ne.symm wW))) nd) fun _ _ _=>⟨_,_,rfl⟩
end
noncomputable def OS (A:Around) (g:Gh) (H:Hp) (s:Shared) (ao:Expr) (it:It) (a:Addr) (pr:List Addr):Prop:=(∀ b ∈ pr,¬ g.Z b /\ b ∉ g.μ /\ b ≠ sysModules) -> (∀ x y,it = .zip x y -> ∃ es k p,ao = .Tuple es k p) -> ∀ res,aT H it = some res -> ∀ Qn Qs E' E,mX g s a pr it res Qn Qs -> ql A ao a Qn Qs E' E s
end
end
namespace Gw
noncomputable def Gq (A:PySem.Around) (g:Mine.Gh) (H:Mine.Hp) (s:PySem.Shared) (a:PySem.Addr):Prop:=∀ (pr:List PySem.Addr) (i:Inv g H s.heap) (hh:A.handled = none) (it:It) (r:bE g s.heap it a pr) (ao:Expr),OS A g H s ao it a pr
noncomputable def kq:PySem.Around × Mine.Gh × Mine.Hp × PySem.Shared × PySem.Addr:=cx fun p=>Gq p.1 p.2.1 p.2.2.1 p.2.2.2.1 p.2.2.2.2
noncomputable def A:=kq.1
noncomputable def g:=kq.2.1
noncomputable def H:=kq.2.2.1
noncomputable def s:=kq.2.2.2.1
noncomputable def a:=kq.2.2.2.2
theorem tq:Gq A g H s a:=by
 intro pr i hh it r ao
 cases r with
 | sim r=>cases r with
  | lst el x'=>exact fun hp _ res e _ _ _ _ f=>JW i hh (hp a (.head _)).1 el x' f e
  | ah z p rs x'=>exact fun hp _ res e _ _ _ _ f=>EI i hh (hp a (.head _)).1 z p rs x' f e
  | tup z p rs x'=>exact fun hp _ res e _ _ _ _ f=>JT i hh (hp a (.head _)).1 z p rs x' f e
 | uS x'=>exact fun hp _ res e _ _ _ _ f=>JU i hh (hp a (.head _)).1 x' f e
 | mT z d rk x'=>exact fun hp _ res e _ _ _ _ f=>EJ i hh (hp a (.head _)).1 z d rk x' f e
 | keys el x'=>exact fun hp _ res e _ _ _ _ f=>Iw i hh (hp a (.head _)).1 el x' f e
 | bytes x'=>exact fun hp _ res e _ _ _ _ f=>EK i hh (hp a (.head _)).1 x' f e
 | rev z p rs hl x'=>exact fun hp _ res e _ _ _ _ f=>JV i hh (hp a (.head _)).1 z p rs hl x' f e
 | zip hz hTI hTO r1 r2 nd=>exact fun hp ht res e _ _ _ _ f=>hTO.elim fun b1 hTO=>hTO.elim fun b2 hTO=>(ht _ _ rfl).elim fun es w=>w.elim fun kk w=>w.elim fun pp w=>w ▸ JS i hh hz hTI hTO r1 r2 nd hp f e
end Gw
section
section
variable {n:Nat} {A:Around} {fs:List Env} {own pr W F:List Addr} {env:Env} {σ:Loc} {g g':Gh} {H H':Hp} {s s':Shared} {h h':Heap} {E:Value -> Shared -> Prop} {ks:List (Str × NameKind)}
theorem JX (i:Inv g H s.heap) (hh:A.handled = none) {it:It} {a:Addr} (r:bE g s.heap it a pr) (ao:Expr):OS A g H s ao it a pr :=
 bD (p:=fun p=>Gw.Gq p.1 p.2.1 p.2.2.1 p.2.2.2.1 p.2.2.2.2) Gw.tq (A,g,H,s,a) pr i hh it r ao
theorem Aa (i:Inv g H s.heap) (hh:A.handled = none) {it:It} {a:Addr} {res:Option (AV × It)} (r:bE g s.heap it a pr) (hp:∀ b ∈ pr,¬ g.Z b /\ b ∉ g.μ /\ b ≠ sysModules) (e:aT H it = some res)
  {ao:Expr} (ht:∀ x y,it = .zip x y -> ∃ es k p,ao = .Tuple es k p) {Qn:Shared -> Prop} {Qs:Value -> Shared -> Prop} {E':Value -> Shared -> Prop}
  (qn:res = none -> ∀ h' t,Kp pr s.heap h' -> Qn { s with heap:=h',toks:=t })
  (qs:∀ x it',res = some (x,it') -> ∀ v g' h' t,Kp pr s.heap h' -> qm g g' s.heap h' -> VR P g' h' x v -> bE g' h' it' a pr -> (∀ x y,it' = .zip x y -> ∃ x y,it = .zip x y) -> Qs v { s with heap:=h',toks:=t }) :
  wpAny P.M A (pyNext (.ref a)) (fun r s₁=>match r with
   | none=>Qn s₁
   | some v=>wpAny P.M A (letOwnedTupleGo ao (.ref a) v) (fun _ s₂=>Qs v s₂) E' s₁) E s:=JX i hh r ao hp ht res e Qn Qs E' E ⟨qn,qs⟩
end
end
end
end Mine
end
section
open PySem PySem.W PyProof.Rows PySem.Calls
namespace Mine
noncomputable section
section
noncomputable abbrev v9 (h:Heap) (l1:Addr):Heap:=h.push { cls:=.type "tuple_iterator",data:=.fields #[.ref l1,.int 0 0] }
noncomputable abbrev v8 (h:Heap) (l1 l2:Addr):Heap:=(v9 h l1).push { cls:=.type "tuple_iterator",data:=.fields #[.ref l2,.int 0 0] }
noncomputable abbrev v7 (h:Heap) (l1 l2:Addr):Heap:=(v8 h l1 l2).push { cls:=.type "tuple",data:=.seq #[.ref h.objs.size,.ref (v9 h l1).objs.size] }
noncomputable abbrev v5 (h:Heap) (l1 l2:Addr):Heap:=(v7 h l1 l2).push { cls:=.type "tuple",data:=.seq #[.none,.none] }
noncomputable abbrev qp (h:Heap) (l1 l2:Addr):Heap:=(v5 h l1 l2).push { cls:=.type "zip",data:=.fields #[.none,.bool false,.bool false,.ref (v8 h l1 l2).objs.size,.ref (v7 h l1 l2).objs.size] }
theorem vM (l1 l2:Addr) (xs ys:Array Value) :
  Meets (Builtin.«zip.__new__» ⟨[.type "zip",.ref l1,.ref l2],[]⟩) (fun _ R s=>s.heap.IsTuple l1 xs /\ s.heap.IsTuple l2 ys /\
   R (.ok (.ret (.ref (v5 s.heap l1 l2).objs.size))) { s with heap:=qp s.heap l1 l2 }) :=
 .of_wp fun prog w A R s h=>by
  obtain ⟨hp,g,d,tk,os⟩:=s; obtain ⟨hl1,hl2,h⟩:=h
  have hsub:=sub_zip
  have QX:Heap.IsTuple (Shared.heap ⟨hp,g,d,tk,os⟩) l1 xs:=hl1
  have QW:Heap.IsTuple (Shared.heap ⟨hp.push { cls:=.type "tuple_iterator",data:=.fields #[.ref l1,.int 0 0] },g,d,tk,os⟩) l2 ys:=let ⟨o,e,w⟩:=hl2; ⟨o,Heap.get?_push_of_some _ e,w⟩
  wp_walk using wpAny_pyIter_tuple QX,wpAny_pyIter_tuple QW
  exact ⟨_,rfl,h⟩
end
namespace Gv
noncomputable def Gq (A:PySem.Around) (E:PySem.Value -> PySem.Shared -> Prop) (s:PySem.Shared) (l1:PySem.Addr) (l2:PySem.Addr) (xs:Array PySem.Value) (ys:Array PySem.Value) (Q:PySem.Value -> PySem.Shared -> Prop):Prop:=∀ (hl1:s.heap.IsTuple l1 xs) (hl2:s.heap.IsTuple l2 ys) (h:∀ h',IsZip h' (s.heap.objs.size + 4) (s.heap.objs.size + 2) (s.heap.objs.size + 3) .none -> IsPair h' (s.heap.objs.size + 2) (.ref s.heap.objs.size) (.ref (s.heap.objs.size + 1)) ->
   IsPair h' (s.heap.objs.size + 3) .none .none -> h'.IsTupleIter s.heap.objs.size l1 0 -> h'.IsTupleIter (s.heap.objs.size + 1) l2 0 ->
   (∀ c o,s.heap.get? c = some o -> h'.get? c = some o) -> Q (.ref (s.heap.objs.size + 4)) { s with heap:=h' }),wpAny P.M A (call (.type "zip") [.ref l1,.ref l2]) Q E s
noncomputable def kq:PySem.Around × (PySem.Value -> PySem.Shared -> Prop) × PySem.Shared × PySem.Addr × PySem.Addr × Array PySem.Value × Array PySem.Value × (PySem.Value -> PySem.Shared -> Prop):=cx fun p=>Gq p.1 p.2.1 p.2.2.1 p.2.2.2.1 p.2.2.2.2.1 p.2.2.2.2.2.1 p.2.2.2.2.2.2.1 p.2.2.2.2.2.2.2
noncomputable def A:=kq.1
noncomputable def E:=kq.2.1
noncomputable def s:=kq.2.2.1
noncomputable def l1:=kq.2.2.2.1
noncomputable def l2:=kq.2.2.2.2.1
noncomputable def xs:=kq.2.2.2.2.2.1
noncomputable def ys:=kq.2.2.2.2.2.2.1
noncomputable def Q:=kq.2.2.2.2.2.2.2
theorem tq:Gq A E s l1 l2 xs ys Q:=by
 intro hl1 hl2 h
 refine callType_new F.called_zip (by decide) (F.typeCall_zip_2 _ _) (F.newCall_zip_2 _ _) (fun obj=>F.args_object_init_3 obj _ _) F.entry_zip_new
  (vM l1 l2 xs ys) ⟨hl1,hl2,?_⟩
 have z1:(v9 s.heap l1).objs.size = s.heap.objs.size + 1:=Heap.size_push ..
 have z2:(v8 s.heap l1 l2).objs.size = s.heap.objs.size + 2:=by rw [Heap.size_push,z1]
 have z3:(v7 s.heap l1 l2).objs.size = s.heap.objs.size + 3:=by rw [Heap.size_push,z2]
 have z4:(v5 s.heap l1 l2).objs.size = s.heap.objs.size + 4:=by rw [Heap.size_push,z3]
 have g5:(qp s.heap l1 l2).get? (v5 s.heap l1 l2).objs.size = some _:=Heap.get?_push_size _ rfl
 have g4:(qp s.heap l1 l2).get? (v7 s.heap l1 l2).objs.size = some _:=Heap.get?_push_of_some _ (Heap.get?_push_size _ rfl)
 have g3:(qp s.heap l1 l2).get? (v8 s.heap l1 l2).objs.size = some _:=Heap.get?_push_of_some _ (Heap.get?_push_of_some _ (Heap.get?_push_size _ rfl))
 have g2:(qp s.heap l1 l2).get? (v9 s.heap l1).objs.size = some _:=Heap.get?_push_of_some _ (Heap.get?_push_of_some _ (Heap.get?_push_of_some _ (Heap.get?_push_size _ rfl)))
 have g1:(qp s.heap l1 l2).get? s.heap.objs.size = some _:=Heap.get?_push_of_some _ (Heap.get?_push_of_some _ (Heap.get?_push_of_some _ (Heap.get?_push_of_some _ (Heap.get?_push_size _ rfl))))
 show _ /\ _
 rw [z2,z3,z4] at g5
 rw [z1,z2] at g3
 rw [z3] at g4
 rw [z1] at g2
 rw [z4]
 exact ⟨⟨_,g5,rfl⟩,h _ g5 g3 g4 ⟨_,g1,rfl,rfl⟩ ⟨_,g2,rfl,rfl⟩ fun c o x=>
  Heap.get?_push_of_some _ (Heap.get?_push_of_some _ (Heap.get?_push_of_some _ (Heap.get?_push_of_some _ (Heap.get?_push_of_some _ x))))⟩
end Gv
section
theorem yp {A:Around} {E:Value -> Shared -> Prop} {s:Shared} {l1 l2:Addr} {xs ys:Array Value} {Q:Value -> Shared -> Prop} (hl1:s.heap.IsTuple l1 xs) (hl2:s.heap.IsTuple l2 ys) (h:∀ h',IsZip h' (s.heap.objs.size + 4) (s.heap.objs.size + 2) (s.heap.objs.size + 3) .none -> IsPair h' (s.heap.objs.size + 2) (.ref s.heap.objs.size) (.ref (s.heap.objs.size + 1)) ->
   IsPair h' (s.heap.objs.size + 3) .none .none -> h'.IsTupleIter s.heap.objs.size l1 0 -> h'.IsTupleIter (s.heap.objs.size + 1) l2 0 ->
   (∀ c o,s.heap.get? c = some o -> h'.get? c = some o) -> Q (.ref (s.heap.objs.size + 4)) { s with heap:=h' }):wpAny P.M A (call (.type "zip") [.ref l1,.ref l2]) Q E s :=
 bD (p:=fun p=>Gv.Gq p.1 p.2.1 p.2.2.1 p.2.2.2.1 p.2.2.2.2.1 p.2.2.2.2.2.1 p.2.2.2.2.2.2.1 p.2.2.2.2.2.2.2) Gv.tq (A,E,s,l1,l2,xs,ys,Q) hl1 hl2 h
noncomputable def jB (zp:Prop) (B:Heap) (g:Gh) (h:Heap) (it:It) (v:Value):Prop:=∃ a pr,v = .ref a /\ bE g h it a pr /\ (∀ b ∈ pr,B.get? b = none /\ ¬ g.Z b /\ b ∉ g.μ /\ b ≠ sysModules) /\ ∀ x y,it = .zip x y -> zp
section
variable {n d b':Nat} {ks:List (Str × NameKind)} {X:Cx} {σ:Loc} {e a b c:Expr} {x y z:TE} {yi:TI} {pos:Pos} {t:St} {A:Around} {g:Gh} {H:Hp} {s:Shared} {E:Value -> Shared -> Prop} {F:List Addr}
theorem fc (i:Inv g H s.heap) {b:Addr} (hb:s.heap.get? b = none):s.heap.get? b = none /\ ¬ g.Z b /\ b ∉ g.μ /\ b ≠ sysModules :=
 ⟨hb,(i.fresh hb).2,(i.fresh hb).1,i.pM hb⟩
theorem IY (i:Inv g H s.heap) {v:AV} {u:Value} {it:It} (e:jg H v = some it) (r:VR P g s.heap v u) {Q:Value -> Shared -> Prop}
  (q:∀ a g' s',After F g.μ g s g' H s' -> jB False s.heap g' s'.heap it a -> Q a s'):wpAny P.M A (pyIter u) Q E s:=by
 have hn:=ba s.heap
 have one:(∀ x y,it = .zip x y -> False) -> ∀ (o:Obj),bE g (s.heap.push o) it s.heap.objs.size [s.heap.objs.size] -> Q (.ref s.heap.objs.size) { s with heap:=s.heap.push o }:=fun nz o ri=>
  q _ g _ (.push i o) ⟨_,_,rfl,ri,fun b hb=>by rw [List.mem_singleton.1 hb]; exact fc i hn,nz⟩
 have up:∀ (o:Obj) b o',s.heap.get? b = some o' -> (s.heap.push o).get? b = some o':=fun o b o' e=>Heap.get?_push_of_some _ e
 cases v with
 | lst l=>
  refine iF e fun vs hv e=>?_
  cases e
  obtain ⟨ad,rfl,hl⟩:=r.inv
  obtain ⟨us,p,rs⟩:=jd i (iS hv) hl
  exact wpAny_pyIter_list (aI p) (one (fun _ _=>nofun) _ (.sim (.lst hl ⟨_,Heap.get?_push_size _ rfl,rfl,rfl⟩)))
 | dct l=>
  refine iF e fun kvs hv e=>?_
  cases e
  obtain ⟨ad,rfl,hl⟩:=r.inv
  obtain ⟨d',q1,q2⟩:=i.objs _ _ (Aq hv)
  rw [hl] at q1; cases q1
  obtain ⟨es,ep,da,Af,rk⟩:=q2.inv
  have Af:=Af rfl
  have hlen:=rk.length
  have hsys:(ad == sysModules) = false:=beq_false_of_ne fun w=>i.sys (w ▸ List.mem_of_getElem? hl)
  refine wpAny_pyIter_dict hsys da (one (fun _ _=>nofun) _ (.keys hl ?_))
  refine ⟨_,Heap.get?_push_size _ rfl,rfl,?_⟩
  simp only [hlen,Af]; rfl
 | tup vs=>
  cases e
  obtain ⟨us,ad,rfl,z,t,rs⟩:=r.inv
  have:=bE.sim (bj.tup (i:=0) (g:=g) (h:=s.heap.push { cls:=.type "tuple_iterator",data:=.fields #[.ref _,.int 0 0] }) z (t.keeps (up _)) (rs.mono (fun _ _ e=>e) (fun _ z=>z) fun b o _ e=>up _ b o e) ⟨_,Heap.get?_push_size _ rfl,rfl,rfl⟩)
  exact wpAny_pyIter_tuple t (one (fun _ _=>nofun) _ this)
 | ah vs=>
  cases e
  obtain ⟨us,ad,rfl,z,p,rs⟩:=r.inv
  have:=bE.sim (bj.ah (i:=0) (g:=g) (h:=s.heap.push { cls:=.type "list_iterator",data:=.fields #[.ref _,.int 0 0] }) z (let ⟨n,q⟩:=p; ⟨n,up _ _ _ q⟩) (rs.mono (fun _ _ e=>e) (fun _ z=>z) fun b o _ e=>up _ b o e) ⟨_,Heap.get?_push_size _ rfl,rfl,rfl⟩)
  exact wpAny_pyIter_list (aI p) (one (fun _ _=>nofun) _ this)
 | aj kvs=>
  cases e
  obtain ⟨es,dd,ep,rfl,ns,z,d,rk⟩:=r.inv
  have:=bE.mT (i:=0) (g:=g) (h:=s.heap.push { cls:=.type "dict_keyiterator",data:=.fields #[.ref dd,.int 0 0,.int es.length 0,.int ep 0] }) z (d.keep (up _)) (rk.mono (fun _ _ e=>e) (fun _ z=>z) fun b o _ e=>up _ b o e) ⟨_,Heap.get?_push_size _ rfl,rfl,rfl⟩
  exact wpAny_pyIter_dict ns d (one (fun _ _=>nofun) _ this)
 | bytes l=>
  cases e
  obtain ⟨b,tk,rfl,rfl⟩:=r.inv
  have:=bE.bytes (i:=0) (g:=g) (h:=s.heap.push { cls:=.type "bytes_iterator",data:=.fields #[.bytes b tk,.int 0 0] }) (b:=b) (t:=tk) ⟨_,Heap.get?_push_size _ rfl,rfl,rfl⟩
  exact KBw.pyIter_bytes (one (fun _ _=>nofun) _ this)
 | _=>exact gG e
variable (n d ks) in
noncomputable def pC (zp:Prop) (e:Expr) (y:TI):Prop:=∀ X σ t (p:It -> Hp -> Prop) (ex:EP) Q R,At (2 * n + d + 2) ks X σ t -> y (WF n) σ t.H p ex -> Fi X t (jB zp t.s.heap) p ex Q R -> wpAny P.M X.A (eval e X.env) (fun x s₁=>wpAny P.M X.A (pyIter x) Q R s₁) R t.s
theorem jB.back {zp:Prop} {t1:St} {g':Gh} {h':Heap} {it:It} {v:Value} (a:fJ X t t1) (w:jB zp t1.s.heap g' h' it v):jB zp t.s.heap g' h' it v:=let ⟨a',pr,hb,ri,hp,z⟩:=w; ⟨a',pr,hb,ri,fun b hb=>⟨a.keep.fresh (hp b hb).1,(hp b hb).2⟩,z⟩
theorem JN (ga:Good n d ks a x):pC n d ks False a (.ex x):=fun X σ t p ex Q R h q f=>ga.ev X σ t _ ex _ R h q (f.go h.refl fun v u t1 q a1 a1' r1=>aW q fun it hit q=>
 IY (F:=frs X.fs) (h.after a1).inv hit r1 fun b g' s' a2 w=>f.ok it b ⟨g',t1.H,s'⟩ q (a1'.then a2) (w.back a1'))
theorem HM {f:Str} {p':Pos} {fv:Value} {t:St} {p:AP} {ex:EP} {Q R:Value -> Shared -> Prop} (ga:Good n d ks a x) (h:At (2 * n + d + 2) ks X σ t) (kp:Kept X.A fv)
  (ld:∀ {Q:Value -> Shared -> Prop},Q fv t.s -> wpAny P.M X.A (eval (.Name f p') X.env) Q R t.s) (q:x (WF n) σ t.H p ex) (fi:Fi X t (VR P) p ex (fun u s1=>wpAny P.M X.A (call fv [u]) Q R s1) R):wpAny P.M X.A (eval (.Call (.Name f p') [a] [] pos) X.env) Q R t.s:=by
 rw [arm_eval_Call_Name']
 refine wpAny_bind (ld ?_)
 show wpAny P.M X.A (callWith pos fv [] (backTo pos (starEach [a] X.env)) []) Q R t.s
 rw [ga.sh.star]
 obtain ⟨kk,hk,hq⟩:=kp
 exact cu (fun t ht=>by rw [List.mem_singleton.1 ht]) (spliced_cons (ga.ev X σ t p ex _ R h q ⟨fun v u t1 q a r=>spliced_nil ⟨⟨kk,hk,hq⟩,fi.ok v u t1 q a r⟩,fi.exc⟩))
theorem CG (G:dT P) {f:Str} {p':Pos} (hd:(f == aM) = false) (hf:aQ ks f = true) (hn:(f == ("reversed":Str)) = true) (ga:Good n d ks a x) {X:Cx} {σ:Loc} {t:St} {p:It -> Hp -> Prop} {ex:EP} {Q R:Value -> Shared -> Prop} (h:At (2 * n + d + 2) ks X σ t) (q:(.rev x:TI) (WF n) σ t.H p ex) (fi:Fi X t (jB False t.s.heap) p ex Q R):wpAny P.M X.A (eval (.Call (.Name f p') [a] [] pos) X.env) (fun x s₁=>wpAny P.M X.A (pyIter x) Q R s₁) R t.s :=
 G.ns.elim fun mg N=>N.elim fun mb N=>by
 rw [beq_iff_eq] at hn; subst hn
 refine HM ga h mQ (fun q=>dS N h hd hf (.inr N.rev) q) q (fi.go h.refl fun v u t1 q a1 a1' r1=>aW q fun vs hv q=>?_)
 cases D0 hv
 obtain ⟨us,ad,rfl,z,pl,rs⟩:=r1.inv
 refine call_reversed_list (aI pl) ?_
 have Ov:(t1.s.heap.push (revObj ad ((us.toArray.size:Int) - 1))).IsRevIter t1.s.heap.objs.size ad ((us.toArray.size:Int) - 1):=⟨_,Heap.get?_push_size _ rfl,rfl,rfl⟩
 refine wpAny_pyIter_revIter (s:={ t1.s with heap:=t1.s.heap.push (revObj ad ((us.toArray.size:Int) - 1)) }) Ov ?_
 have i1:=(h.after a1).inv
 have a2:fJ X t1 ⟨t1.g,t1.H,{ t1.s with heap:=t1.s.heap.push (revObj ad ((us.toArray.size:Int) - 1)) }⟩:=.push i1 _
 have hl:=rs.length
 refine fi.ok _ _ ⟨t1.g,t1.H,_⟩ q (a1'.then a2) (jB.back a1' ⟨_,[t1.s.heap.objs.size],rfl,?_,fun b hb=>by rw [List.mem_singleton.1 hb]; exact fc i1 (ba _),fun _ _=>nofun⟩)
 have:=bE.rev (g:=t1.g) (h:=t1.s.heap.push (revObj ad ((us.toArray.size:Int) - 1))) (i:=vs.length) (bh:=vs) (us:=us) (it:=t1.s.heap.objs.size) z (let ⟨n,q⟩:=pl; ⟨n,Heap.get?_push_of_some _ q⟩)
  (rs.mono (g:=t1.g) (fun _ _ e=>e) (fun _ z=>z) fun b o _ e=>Heap.get?_push_of_some _ e) (Nat.le_refl _) (by rw [hl]; simpa using Ov)
 rw [List.take_length] at this
 exact this
theorem Iu (G:dT P) {f:Str} {p':Pos} (hd:(f == aM) = false) (hf:aQ ks f = true) (hn:(f == ("reversed":Str)) = true) (ga:Good n d ks a x):pC n d ks False (.Call (.Name f p') [a] [] pos) (.rev x):=fun X σ t p ex Q R h q fi=>CG G hd hf hn ga h q fi
end
end
end
end Mine
end
section
open PySem PySem.W PyProof.Rows PySem.Calls
namespace Mine
noncomputable section
section
section
variable {n d b':Nat} {ks:List (Str × NameKind)} {X:Cx} {σ:Loc} {e a b c:Expr} {x y z:TE} {yi:TI} {pos:Pos} {t:St} {A:Around} {g:Gh} {H:Hp} {s:Shared} {E:Value -> Shared -> Prop} {F:List Addr}
theorem yN (G:dT P) {f:Str} {p':Pos} (hd:(f == aM) = false) (hf:aQ ks f = true) (hn:(f == ("range":Str)) = true) (ga:Good n d ks a x) {X:Cx} {σ:Loc} {t:St} {p:It -> Hp -> Prop} {ex:EP} {Q R:Value -> Shared -> Prop} (h:At (2 * n + d + 2) ks X σ t) (q:(.range x:TI) (WF n) σ t.H p ex) (fi:Fi X t (jB False t.s.heap) p ex Q R):wpAny P.M X.A (eval (.Call (.Name f p') [a] [] pos) X.env) (fun x s₁=>wpAny P.M X.A (pyIter x) Q R s₁) R t.s :=
 G.ns.elim fun mg N=>N.elim fun mb N=>by
 rw [beq_iff_eq] at hn; subst hn
 refine HM ga h mQ (fun q=>dS N h hd hf (.inr N.range) q) q (fi.go h.refl fun v u t1 q a1 a1' r1=>aW q fun m oV q=>?_)
 obtain ⟨tk,rfl⟩:=r1.cD oV
 obtain ⟨hm,q⟩:=q
 have i1:=(h.after a1).inv
 refine call_range_1 ?_
 have hsz:Builtin.Range.rangeSize 0 m 1 = (m.toNat:Int):=by
  unfold Builtin.Range.rangeSize
  rw [if_pos (by decide)]
  by_cases q:0 < m
  ·rw [if_pos q]
   have:(m - 0 - 1) / 1 = m - 0 - 1:=Int.ediv_one _
   omega
  ·rw [if_neg q]; omega
 refine wpAny_pyIter_range (a:=0) (b:=m) (c:=1) (Heap.get?_push_size _ rfl) (small_one (by decide) (by decide) (by omega) (by omega)) ?_
 generalize hO:({ cls:=.type "range",data:=.fields #[.int 0 t1.s.toks,.int m tk,.int 1 (t1.s.toks + 1)] }:Obj) = O
 generalize Oh:({ cls:=.type "range_iterator",data:=.fields #[rawInt 0,rawInt (Builtin.Range.rangeSize 0 m 1),rawInt 1] }:Obj) = O2
 have kk:∀ b o,t1.s.heap.get? b = some o -> ((t1.s.heap.push O).push O2).get? b = some o:=fun b o e=>Heap.get?_push_of_some _ (Heap.get?_push_of_some _ e)
 have a2:fJ X t1 ⟨t1.g,t1.H,{ t1.s with heap:=(t1.s.heap.push O).push O2,toks:=t1.s.toks + 1 + 1 }⟩:=.grow i1 kk
 have hnew:t1.s.heap.get? (t1.s.heap.push O).objs.size = none:=Heap.get?_none_of_le (by rw [Heap.size_push]; exact Nat.le_succ _)
 refine fi.ok _ _ ⟨t1.g,t1.H,_⟩ q (a1'.then a2) (jB.back a1' ⟨_,[(t1.s.heap.push O).objs.size],rfl,?_,fun b hb=>by rw [List.mem_singleton.1 hb]; exact fc i1 hnew,fun _ _=>nofun⟩)
 have:=bE.uS (g:=t1.g) (h:=(t1.s.heap.push O).push O2) (x:=0) (n:=m.toNat) (it:=(t1.s.heap.push O).objs.size) (by
  show ((t1.s.heap.push O).push O2).get? _ = some _
  rw [Heap.get?_push_size _ (by rw [← Oh]; rfl),← Oh,hsz])
 rw [wQ] at this
 simpa using this
theorem CH (G:dT P) {f:Str} {p':Pos} (hd:(f == aM) = false) (hf:aQ ks f = true) (hn:(f == ("range":Str)) = true) (ga:Good n d ks a x):pC n d ks False (.Call (.Name f p') [a] [] pos) (.range x):=fun X σ t p ex Q R h q fi=>yN G hd hf hn ga h q fi
theorem zY (i:Inv g H s.heap) {v:AV} {u:Value} {xs:List AV} {it:It} (hv:listOf H v = some xs) (hi:jg H v = some it) (rv:VR P g s.heap v u):∃ a us,u = .ref a /\ s.heap.IsList a us /\
  ∀ {h'} {c},(∀ c o,s.heap.get? c = some o -> h'.get? c = some o) -> h'.IsListIter c a 0 -> bj g h' it c:=by
 rcases ou hv with ⟨l,rfl,q⟩ | rfl
 ·refine iF hi fun vs hv hi=>?_
  cases hi
  obtain ⟨ad,rfl,hl⟩:=rv.inv
  obtain ⟨us,p,rs⟩:=jd i q hl
  exact ⟨_,_,rfl,aI p,fun kp x=>.lst hl x⟩
 ·cases hi
  obtain ⟨us,ad,rfl,z,p,rs⟩:=rv.inv
  exact ⟨_,_,rfl,aI p,fun kp x=>bj.ah (i:=0) (g:=g) z (let ⟨n,q⟩:=p; ⟨n,kp _ _ q⟩) (rs.mono (fun _ _ e=>e) (fun _ z=>z) fun b o _ e=>kp b o e) x⟩
theorem B9 {xs:List AV} {us:List Value} {ad c:Addr} {h':Heap} (z:g.Z ad) (t:IsTup s.heap ad us.toArray) (rs:aC P g s.heap xs us) (kp:∀ c o,s.heap.get? c = some o -> h'.get? c = some o) (x:h'.IsTupleIter c ad 0):bj g h' (.seq xs) c :=
 bj.tup (i:=0) (g:=g) z (t.keeps kp) (rs.mono (fun _ _ e=>e) (fun _ z=>z) fun b o _ e=>kp b o e) x
theorem CD (G:dT P) {f:Str} {p':Pos} (hd:(f == aM) = false) (hf:aQ ks f = true) (hn:(f == ("zip":Str)) = true) (ga:Good n d ks a x) (gb:Good n d ks b y) {X:Cx} {σ:Loc} {t:St} {p:It -> Hp -> Prop} {ex:EP} {Q R:Value -> Shared -> Prop} (h:At (2 * n + d + 2) ks X σ t) (q:(.zip x y:TI) (WF n) σ t.H p ex) (fi:Fi X t (jB True t.s.heap) p ex Q R):wpAny P.M X.A (eval (.Call (.Name f p') [a,b] [] pos) X.env) (fun x s₁=>wpAny P.M X.A (pyIter x) Q R s₁) R t.s :=
 G.ns.elim fun mg N=>N.elim fun mb N=>by
 rw [beq_iff_eq] at hn; subst hn
 rw [arm_eval_Call_Name']
 refine wpAny_bind (dS N h hd hf (.inr N.zip) ?_)
 show wpAny P.M X.A (callWith pos (.type "zip") [] (backTo pos (starEach [a,b] X.env)) []) _ R t.s
 rw [ga.sh.star,gb.sh.star]
 obtain ⟨kk,hk,hq⟩:=mQ (A:=X.A) (t:="zip")
 refine cu (List.forall_mem_cons.2 ⟨rfl,List.forall_mem_cons.2 ⟨rfl,fun t ht=>absurd ht List.not_mem_nil⟩⟩) (spliced_cons (ga.ev X σ t _ ex _ R h q (fi.go h.refl fun v u t1 q a1 a1' r1=>
  spliced_cons (gb.ev X σ t1 _ ex _ R (h.after a1) q (fi.go a1 fun w u' t2 q a2 a2' r2=>aW q fun it hit q=>spliced_nil ⟨⟨kk,hk,hq⟩,?_⟩)))))
 have r1':=(h.after a1).vr a2 r1
 have i2:=(h.after a2').inv
 have f0:∀ k,t2.s.heap.get? (t2.s.heap.objs.size + k) = none:=fun k=>Heap.get?_none_of_le (Nat.le_add_right _ _)
 have fin:∀ {h' j2 Ks},it = .zip j2 Ks -> IsZip h' (t2.s.heap.objs.size + 4) (t2.s.heap.objs.size + 2) (t2.s.heap.objs.size + 3) .none -> IsPair h' (t2.s.heap.objs.size + 2) (.ref t2.s.heap.objs.size) (.ref (t2.s.heap.objs.size + 1)) ->
   IsPair h' (t2.s.heap.objs.size + 3) .none .none -> bj t2.g h' j2 t2.s.heap.objs.size -> bj t2.g h' Ks (t2.s.heap.objs.size + 1) -> (∀ c o,t2.s.heap.get? c = some o -> h'.get? c = some o) ->
   wpAny P.M X.A (pyIter (.ref (t2.s.heap.objs.size + 4))) Q R { t2.s with heap:=h' }:=fun {h' j2 Ks} e z1 z2 z3 z4 z5 kp=>by
  subst e
  refine wpAny_pyIter_zip (s:={ t2.s with heap:=h' }) z1 ?_
  have a3:fJ X t2 ⟨t2.g,t2.H,{ t2.s with heap:=h' }⟩:=.grow i2 kp
  refine fi.ok _ _ ⟨t2.g,t2.H,_⟩ q (a2'.then a3) (jB.back a2' ⟨_,_,rfl,.zip z1 z2 ⟨_,_,z3⟩ z4 z5 ?_,fun b hb=>?_,fun _ _ _=>trivial⟩)
  ·generalize t2.s.heap.objs.size = m
   simp
  ·simp only [List.mem_cons,List.not_mem_nil,or_false] at hb
   rcases hb with rfl | rfl | rfl | rfl | rfl
   ·exact fc i2 (f0 4)
   ·exact fc i2 (f0 2)
   ·exact fc i2 (f0 3)
   ·exact fc i2 (f0 0)
   ·exact fc i2 (f0 1)
 have lists:((listOf t2.H v).bind fun _=>(listOf t2.H w).bind fun _=>(jg t2.H v).bind fun i=>(jg t2.H w).bind fun j=>some (It.zip i j)) = some it -> wpAny P.M X.A (call (.type "zip") ([] ++ [u,u'])) (fun x s₁=>wpAny P.M X.A (pyIter x) Q R s₁) R t2.s:=fun e=>by
  refine bnd e fun xs h1 e=>bnd e fun ys h2 e=>bnd e fun i1 h3 e=>iF e fun Hq h4 e=>?_
  obtain ⟨b1,PG,rfl,l1,k1⟩:=zY i2 h1 h3 r1'
  obtain ⟨b2,PF,rfl,l2,k2⟩:=zY i2 h2 h4 r2
  exact call_zip_2 l1 l2 fun h' z1 z2 z3 z4 z5 _ kp=>fin e.symm z1 z2 z3 (k1 kp z4) (k2 kp z5) kp
 cases v with
 | tup xs=>
  refine iF hit fun ys h2 e=>?_
  obtain ⟨PG,b1,rfl,z1,t1,PN⟩:=r1'.inv
  obtain ⟨PF,b2,rfl,z2,t2,JC⟩:=r2.fV h2
  exact yp t1 t2 fun h' w1 w2 w3 w4 w5 kp=>fin e.symm w1 w2 w3 (B9 z1 t1 PN kp w4) (B9 z2 t2 JC kp w5) kp
 | lst l=>exact lists hit
 | ah vs=>exact lists hit
 | _=>exact gG hit
theorem Ir (G:dT P) {f:Str} {p':Pos} (hd:(f == aM) = false) (hf:aQ ks f = true) (hn:(f == ("zip":Str)) = true) (ga:Good n d ks a x) (gb:Good n d ks b y):pC n d ks True (.Call (.Name f p') [a,b] [] pos) (.zip x y):=fun X σ t p ex Q R h q fi=>CD G hd hf hn ga gb h q fi
end
end
end
end Mine
end
section
open PySem PySem.W PyProof.Rows PySem.Calls
namespace Mine
noncomputable section
section
section
variable {n:Nat} {A:Around} {fs:List Env} {own ow pr W F:List Addr} {env:Env} {σ σ':Loc} {g g':Gh} {H H':Hp} {s s':Shared} {h h':Heap} {ks:List (Str × NameKind)} {E:Value -> Shared -> Prop} {sc:Scope}
noncomputable def FP (env:Env) (names:List (Str × NameKind)):List (Str × Addr):=(names.filter fun p=>p.2 == NameKind.free).map fun p=>(p.1,(env.cells.lookup p.1).getD 0)
theorem BN {names:List (Str × NameKind)}:∀ {acc:List (Str × Addr)},(∀ p ∈ names,p.2 = .free -> ∃ c,env.cells.lookup p.1 = some c) ->
  (forIn names acc fun p (cs:List (Str × Addr))=>(do if p.2 == NameKind.free then do let c ← cellOf env p.1; pure (ForInStep.yield ((p.1,c) :: cs)) else pure (ForInStep.yield cs):Sem (ForInStep (List (Str × Addr))))) = pure ((FP env names).reverse ++ acc):=by
 induction names with
 | nil=>intro acc _; rfl
 | cons a r ih=>
  intro acc h
  rw [List.forIn_cons]
  unfold FP
  rw [List.filter_cons]
  have ih:=fun acc=>ih (acc:=acc) fun p hp=>h p (List.mem_cons_of_mem _ hp)
  cases q:a.2 == NameKind.free with
  | true=>
   obtain ⟨c,hc⟩:=h a (.head _) (eq_of_beq q)
   have:cellOf env a.1 = pure c:=by unfold cellOf; rw [hc]
   rw [if_pos rfl,if_pos rfl,this,pure_bind,pure_bind,List.map_cons,List.reverse_cons,List.append_assoc,hc]
   exact ih _
  | false=>
   rw [if_neg Bool.false_ne_true,if_neg Bool.false_ne_true,pure_bind]
   exact ih _
structure fY (ks:List (Str × NameKind)) (sc:Scope) (t:bq):Prop where
 kind:sc.kind = .function
 sC:∀ p ∈ sc.names,p.2 ≠ .cell
 free:∀ p ∈ sc.names,p.2 = .free -> ks.lookup p.1 = some .cell
 nodup:(sc.names.map (·.1)).Nodup
 loc:∀ p ∈ sc.names,p.2 = .local -> nm p.1 = dot0 \/ nm p.1 ∈ iq t
theorem Ig {t:bq} (h1:jD sc.names = true) (h2:freeOk ks sc.names = true) (h3:(sc.kind == .function) = true) (h4:Hi sc.names t = true):fY ks sc t :=
 ⟨eq_of_beq h3,of_decide_eq_true h1,of_decide_eq_true h2,(of_decide_eq_true h4).1,(of_decide_eq_true h4).2⟩
theorem sM {α:Type} {l:List (Str × α)} {p:Str × α} (nd:(l.map (·.1)).Nodup) (h:p ∈ l):l.lookup p.1 = some p.2:=by
 induction l with
 | nil=>cases h
 | cons q r ih=>
  obtain ⟨n1,n2⟩:=List.nodup_cons.mp nd
  rw [List.lookup_cons]
  cases h with
  | head=>rw [beq_self_eq_true]
  | tail _ h=>rw [beq_false_of_ne fun (w:p.1 = q.1)=>n1 (show q.1 ∈ r.map (·.1) from w ▸ List.mem_map_of_mem h)]; exact ih n2 h
noncomputable def az (env:Env) (sc:Scope):List (Str × Addr):=(FP env sc.names).reverse
theorem yn {p:Str × Addr} (h:p ∈ az env sc):(p.1,NameKind.free) ∈ sc.names /\ p.2 = (env.cells.lookup p.1).getD 0:=by
 obtain ⟨⟨x,k⟩,hq,rfl⟩:=List.mem_map.mp (List.mem_reverse.mp h)
 obtain ⟨h1,h2⟩:=List.mem_filter.mp hq
 cases eq_of_beq h2
 exact ⟨h1,rfl⟩
theorem fY.closure {t:bq} (o:fY ks sc t) (k:Kn ks env):closureFor sc env = pure (az env sc):=by
 unfold closureFor
 have:=BN (env:=env) (names:=sc.names) (acc:=[]) fun p hp q=>(k.yo _ (o.free p hp q)).2
 rw [List.append_nil] at this
 simp only [bind_pure]
 exact this
theorem uf {α β:Type} (f:α -> β) (x:Str) (l:List (Str × α)):(l.map fun p=>(p.1,f p.2)).lookup x = (l.lookup x).map f:=by
 induction l with
 | nil=>rfl
 | cons p r ih=>
  rw [List.map_cons,List.lookup_cons,List.lookup_cons]
  cases x == p.1
  ·exact ih
  ·rfl
theorem iT {t:bq} (o:fY ks sc t) (k:Kn ks env) (hf:env.scope.kind = .function) {x:Str} {C:Addr} :
  (compEnvC sc (az env sc) C env).kindOf x = (sc.names.lookup x).map fun kd=>if kd = .free then .cell else kd:=by
 show ((relabel sc env).names).lookup x = _
 have e:(relabel sc env).names = sc.names.map fun p=>(p.1,if p.2 = .free then .cell else p.2):=by
  unfold relabel
  dsimp only
  refine List.map_congr_left fun p hp=>?_
  obtain ⟨y,kd⟩:=p
  dsimp only
  by_cases q:kd = .free
  ·subst q
   have hk:env.kindOf y = some .cell:=(k.yo y (o.free (y,.free) hp rfl)).1
   rw [hf,hk]
   simp
  ·have:(kd == NameKind.free) = false:=by simpa using q
   rw [this,if_neg q]
   simp
 rw [e]
 exact uf (fun kd=>if kd = NameKind.free then NameKind.cell else kd) x sc.names
noncomputable def outer (cenv:Env) (σ:Loc):Loc:=σ.filter fun p=>decide (cenv.kindOf (toS p.1) ≠ some .local)
theorem oq (cenv:Env) (x:Nm) (σ:Loc):look (outer cenv σ) x = if cenv.kindOf (toS x) = some .local then none else look σ x:=by
 unfold outer
 induction σ with
 | nil=>exact (ite_self _).symm
 | cons p r ih=>
  obtain ⟨y,v⟩:=p
  rw [List.filter_cons,jy]
  by_cases q:cenv.kindOf (toS y) = some .local
  ·rw [if_neg (fun w=>(of_decide_eq_true w:_ ≠ _) q),ih]
   by_cases w:x = y
   ·rw [w,if_pos q,if_pos q]
   ·rw [if_neg w]
  ·rw [if_pos (decide_eq_true q),jy,ih]
   by_cases w:x = y
   ·rw [if_pos w,if_pos w,w,if_neg q]
   ·rw [if_neg w,if_neg w]
end
end
namespace Gu
noncomputable def Gq (fs:List PySem.Env) (own:List PySem.Addr) (env:PySem.Env) (σ:Mine.Loc) (g:Mine.Gh) (h:PySem.Heap) (ks:List (PySem.Str × PySem.NameKind)) (sc:PySem.Scope) (t:Mine.bq) (C:PySem.Addr):Prop:=∀ (m:Fm fs own env σ g h) (o:fY ks sc t) (k:Kn ks env) (hC:∃ mm,h.Ns C mm) (oC:Off own fs g C),Fm fs (C :: own) (compEnvC sc (az env sc) C env) (outer (compEnvC sc (az env sc) C env) σ) g h
noncomputable def kq:List PySem.Env × List PySem.Addr × PySem.Env × Mine.Loc × Mine.Gh × PySem.Heap × List (PySem.Str × PySem.NameKind) × PySem.Scope × Mine.bq × PySem.Addr:=cx fun p=>Gq p.1 p.2.1 p.2.2.1 p.2.2.2.1 p.2.2.2.2.1 p.2.2.2.2.2.1 p.2.2.2.2.2.2.1 p.2.2.2.2.2.2.2.1 p.2.2.2.2.2.2.2.2.1 p.2.2.2.2.2.2.2.2.2
noncomputable def fs:=kq.1
noncomputable def own:=kq.2.1
noncomputable def env:=kq.2.2.1
noncomputable def σ:=kq.2.2.2.1
noncomputable def g:=kq.2.2.2.2.1
noncomputable def h:=kq.2.2.2.2.2.1
noncomputable def ks:=kq.2.2.2.2.2.2.1
noncomputable def sc:=kq.2.2.2.2.2.2.2.1
noncomputable def t:=kq.2.2.2.2.2.2.2.2.1
noncomputable def C:=kq.2.2.2.2.2.2.2.2.2
theorem tq:Gq fs own env σ g h ks sc t C:=by
 intro m o k hC oC
 have hkd:∀ x,(compEnvC sc (az env sc) C env).kindOf x = (sc.names.lookup x).map fun kd=>if kd = .free then .cell else kd:=fun x=>iT o k m.kind
 have hcl:∀ x c,(az env sc).lookup x = some c -> env.cells.lookup x = some c:=fun x c e=>by
  obtain ⟨w1,w2⟩:=yn (mem_of_lookup e)
  obtain ⟨_,c',hc'⟩:=k.yo x (o.free (x,.free) w1 rfl)
  exact hc'.trans (congrArg some (w2.trans (by rw [hc']; rfl)).symm)
 obtain ⟨mm,j3⟩:=hC
 refine ⟨?_,?_,m.globals,m.builtins,by simp [compEnvC],fun x c e=>List.mem_cons_of_mem _ (m.du x c (hcl x c e)),fun b hb=>?_,m.bH,m.frames,m.isFrame,?_,fun x c e w=>?_,fun x c e=>m.cells x c (hcl x c e),?_⟩
 ·show (relabel sc env).kind = .function
  exact o.kind
 ·rw [oq]; split
  ·rfl
  ·exact m.jC
 ·rcases List.mem_cons.mp hb with rfl | hb
  ·obtain ⟨oo,es,ep,e,_⟩:=j3
   exact ⟨oC.1,oC.2.1,oo,e⟩
  ·exact m.ownOut b hb
 ·have nd:(az env sc).Pairwise (fun x y=>x.1 ≠ y.1):=List.pairwise_reverse.mpr (List.pairwise_map.mpr (List.Pairwise.filter _ ((List.pairwise_map.mp o.nodup).imp fun w=>Ne.symm w)))
  have hm:∀ p ∈ az env sc,env.cells.lookup p.1 = some p.2:=fun p hp=>by
   obtain ⟨w1,w2⟩:=yn hp
   obtain ⟨_,c',hc'⟩:=k.yo p.1 (o.free (p.1,.free) w1 rfl)
   rw [w2,hc']; rfl
  refine List.Pairwise.imp_of_mem (fun {a b} ha hb hab w=>?_) nd
  have h1:=mem_of_lookup (hm a ha)
  have h2:=mem_of_lookup (hm b hb)
  rw [w] at h1
  exact hab (name_of_addr m.dO h1 h2)
 ·have:c ∈ own:=m.du x c (hcl x c e)
  have xH:c = C:=w
  exact oC.2.2.1 (xH ▸ this)
 ·refine ⟨mm,j3,fun x v e=>?_⟩
  rw [oq] at e
  split at e
  ·cases e
  ·rename_i hloc
   obtain ⟨_,_,hv⟩:=m.vals
   obtain ⟨u,r,q1,q2⟩:=hv x v e
   refine ⟨u,r,fun w=>(hloc w).elim,fun w=>?_⟩
   rw [hkd] at w
   have hfree:(toS x,NameKind.free) ∈ sc.names:=by
    cases hl:sc.names.lookup (toS x) with
    | none=>rw [hl] at w; rcases w with w | w <;> cases w
    | some kd=>
     have hm:=mem_of_lookup hl
     rw [hl] at w
     by_cases qf:kd = .free
     ·rw [qf] at hm; exact hm
     ·simp only [Option.map_some,qf,if_false,Option.some.injEq] at w
      rcases w with w | w
      ·exact (o.sC _ hm w).elim
      ·first | exact (qf w).elim | exact w.elim
   obtain ⟨hk1,c',hc'⟩:=k.yo (toS x) (o.free _ hfree rfl)
   obtain ⟨c,hc1,hc2⟩:=q2 (.inl hk1)
   obtain ⟨c3,hc3⟩:=Option.isSome_iff_exists.mp (gB (List.mem_reverse.mpr (List.mem_map.mpr ⟨_,List.mem_filter.mpr ⟨hfree,rfl⟩,rfl⟩):_ ∈ az env sc))
   have:=hcl _ _ hc3
   rw [hc1] at this; cases this
   exact ⟨c,hc3,hc2⟩
end Gu
section
section
variable {n:Nat} {A:Around} {fs:List Env} {own ow pr W F:List Addr} {env:Env} {σ σ':Loc} {g g':Gh} {H H':Hp} {s s':Shared} {h h':Heap} {ks:List (Str × NameKind)} {E:Value -> Shared -> Prop} {sc:Scope}
theorem Fm.comp {t:bq} (m:Fm fs own env σ g h) (o:fY ks sc t) (k:Kn ks env) {C:Addr} (hC:∃ mm,h.Ns C mm) (oC:Off own fs g C):Fm fs (C :: own) (compEnvC sc (az env sc) C env) (outer (compEnvC sc (az env sc) C env) σ) g h :=
 bD (p:=fun p=>Gu.Gq p.1 p.2.1 p.2.2.1 p.2.2.2.1 p.2.2.2.2.1 p.2.2.2.2.2.1 p.2.2.2.2.2.2.1 p.2.2.2.2.2.2.2.1 p.2.2.2.2.2.2.2.2.1 p.2.2.2.2.2.2.2.2.2) Gu.tq (fs,own,env,σ,g,h,ks,sc,t,C) m o k hC oC
theorem Kn.comp {t:bq} (o:fY ks sc t) (k:Kn ks env) (hf:env.scope.kind = .function) {C:Addr}:Kn sc.names (compEnvC sc (az env sc) C env):=by
 have hkd:∀ x,(compEnvC sc (az env sc) C env).kindOf x = (sc.names.lookup x).map fun kd=>if kd = .free then .cell else kd:=fun x=>iT o k hf
 refine ⟨fun x e=>by rw [hkd,e]; rfl,fun x e=>by rw [hkd,e]; rfl,fun x e=>(o.sC _ (mem_of_lookup e) rfl).elim,fun x e=>by rw [hkd,e]; rfl⟩
theorem Ow.comp {t:bq} {ao:Expr} (o:fY ks sc t) (k:Kn ks env) (hf:env.scope.kind = .function) {C:Addr} (r:fX sc.names ao t):Ow (compEnvC sc (az env sc) C env) (C :: own) [C] (iq t):=by
 have hkd:∀ x,(compEnvC sc (az env sc) C env).kindOf x = (sc.names.lookup x).map fun kd=>if kd = .free then .cell else kd:=fun x=>iT o k hf
 have hv:∀ x ∈ iq t,(compEnvC sc (az env sc) C env).kindOf (toS x) = some .local:=by
  have one:∀ {x},isVar sc.names x = true -> (compEnvC sc (az env sc) C env).kindOf x = some .local:=fun {x} h=>by
   rcases pW h with q | q
   ·rw [hkd,q]; rfl
   ·exact (o.sC _ (mem_of_lookup q) rfl).elim
  have all:∀ {es:List Expr} {xs:List Nm},ef sc.names es xs -> ∀ x ∈ xs,(compEnvC sc (az env sc) C env).kindOf (toS x) = some .local:=by
   intro es xs r
   induction r with
   | nil=>intro x hx; cases hx
   | cons h _ ih=>
    intro x hx
    rcases List.mem_cons.mp hx with rfl | hx
    ·rw [bJ]; exact one h
    ·exact ih x hx
  cases r with
  | one h=>intro x hx; cases List.mem_singleton.mp hx; rw [bJ]; exact one h
  | many r _=>exact all r
 intro x hx a ha w
 have:=w (hv x hx)
 simp [this,compEnvC]
theorem zA {t:bq} {v:AV} (e:bg t v σ = some σ'):∃ p,σ' = p ++ σ /\ (∀ σ2,bg t v σ2 = some (p ++ σ2)) /\ ∀ x ∈ iq t,∃ w,look p x = some w:=by
 cases t with
 | one x=>cases e; exact ⟨[(x,v)],rfl,fun _=>rfl,fun y hy=>by cases List.mem_singleton.mp hy; exact ⟨v,by rw [jy,if_pos rfl]⟩⟩
 | many xs=>
  refine bnd e fun vs ev e=>k8 e fun hl e=>?_
  subst e
  refine ⟨(xs.zip vs).reverse,rfl,fun σ2=>by unfold bg; rw [ev]; exact if_pos hl,fun x hx=>?_⟩
  have:x ∈ ((xs.zip vs).reverse).map (·.1):=by
   rw [List.map_reverse,List.mem_reverse,List.map_fst_zip (Nat.le_of_eq hl.symm)]; exact hx
  obtain ⟨p,hp,rfl⟩:=List.mem_map.mp this
  exact Option.isSome_iff_exists.mp (gB hp)
theorem kI (p σ:Loc) (x:Nm):look (p ++ σ) x = (look p x).or (look σ x):=by
 unfold look; exact List.lookup_append
theorem CU {t:bq} (o:fY ks sc t) (k:Kn ks env) (hf:env.scope.kind = .function) {C:Addr} {p:Loc} (hp:∀ x ∈ iq t,∃ w,look p x = some w) (hd:look σ dot0 = none) (x:Nm) :
  look (p ++ σ) x = look (p ++ outer (compEnvC sc (az env sc) C env) σ) x:=by
 have hkd:∀ x,(compEnvC sc (az env sc) C env).kindOf x = (sc.names.lookup x).map fun kd=>if kd = .free then .cell else kd:=fun x=>iT o k hf
 rw [kI,kI,oq]
 split
 ·rename_i hl
  rw [hkd] at hl
  cases hq:sc.names.lookup (toS x) with
  | none=>rw [hq] at hl; cases hl
  | some kd=>
   rw [hq] at hl
   have hm:=mem_of_lookup hq
   have j4:kd = .local:=by
    by_cases qf:kd = .free
    ·subst qf; simp at hl
    ·simpa [qf] using hl
   subst j4
   rcases o.loc _ hm rfl with w | w
   ·have:x = dot0:=by simpa using w
    subst this
    rw [hd]
   ·have:x ∈ iq t:=by simpa using w
    obtain ⟨w',Dj⟩:=hp x this
    rw [Dj]; rfl
 ·rfl
end
end
end
end Mine
end
section
open PySem PySem.W PyProof.Rows PySem.Calls
namespace Mine
noncomputable section
section
section
variable {n N:Nat} {A:Around} {fs:List Env} {own ow pr W F ip:List Addr} {env cenv:Env} {σ σ':Loc} {g g' g0:Gh} {H H':Hp} {s s' s0:Shared} {h h':Heap} {ks:List (Str × NameKind)} {E:Value -> Shared -> Prop} {sc:Scope} {C D:Addr}
theorem Fm.freeze (m:Fm fs own env σ g h) {T:Addr} (h1:T ∉ own) (h2:T ∉ frs fs):Fm fs own env σ (g.freeze T) h:=by
 refine ⟨m.kind,m.jC,m.globals,m.builtins,m.eU,m.du,fun b hb=>⟨fun z=>?_,(m.ownOut b hb).2⟩,fun b hb=>⟨fun z=>?_,(m.bH b hb).2⟩,m.frames,m.isFrame,m.dO,m.fy,m.cells,?_⟩
 ·rcases z with z | z
  ·exact (m.ownOut b hb).1 z
  ·exact h1 (z ▸ hb)
 ·rcases z with z | z
  ·exact (m.bH b hb).1 z
  ·exact h2 (z ▸ hb)
 ·obtain ⟨mm,hn,hv⟩:=m.vals
  refine ⟨mm,hn,fun x v e=>?_⟩
  obtain ⟨u,r,q⟩:=hv x v e
  exact ⟨u,r.freeze,q⟩
theorem Here.freeze (x:Here n A fs own env σ g H s) {T:Addr} (hl:∃ o,s.heap.get? T = some o) (hμ:T ∉ g.μ) (h1:T ∉ own) (h2:T ∉ frs fs):Here n A fs own env σ (g.freeze T) H s :=
 ⟨x.inv.freeze hl hμ,x.fm.freeze h1 h2,x.frames,x.handled,x.depth,x.units,x.gens⟩
structure CB (N:Nat) (A:Around) (fs:List Env) (own:List Addr) (env:Env) (σ:Loc) (g0:Gh) (s0:Shared) (pv:List Addr) (g:Gh) (H:Hp) (s:Shared):Prop where
 here:Here N A fs own env σ g H s
 af:After (frs fs) g0.μ g0 s0 g H s
 a8:∀ b ∈ pv,s0.heap.get? b = none /\ Off own fs g b /\ ∃ o,s.heap.get? b = some o
theorem CB.step {pv:List Addr} (c:CB N A fs own env σ g0 s0 pv g H s) (a:After (frs fs) g.μ g s g' H' s'):CB N A fs own env σ g0 s0 pv g' H' s':=by
 refine ⟨c.here.after a,c.af.then a,fun b hb=>?_⟩
 obtain ⟨q1,⟨o1,o2,o3,o4,o5⟩,o,e⟩:=c.a8 b hb
 exact ⟨q1,⟨fun z=>(a.le.kh b z).elim o1 (aX e),fun z=>(a.le.mem z).elim o2 (aX e),o3,o4,o5⟩,o,a.keep.same b o e o2 o4⟩
theorem CB.keeps {pv:List Addr} (c:CB N A fs own env σ g0 s0 pv g H s) (a:After (frs fs) g.μ g s g' H' s'):∀ b ∈ pv,∀ o,s.heap.get? b = some o -> s'.heap.get? b = some o:=fun b hb o e=>by
 obtain ⟨q1,⟨o1,o2,o3,o4,o5⟩,_⟩:=c.a8 b hb
 exact a.keep.same b o e o2 o4
theorem CB.off {pv q:List Addr} (c:CB N A fs own env σ g0 s0 pv g H s) (k:∀ b o,b ∉ q -> s.heap.get? b = some o -> h'.get? b = some o) (hq:∀ b ∈ q,b ∈ pv) (lv:∀ b ∈ q,∃ o,h'.get? b = some o) {t:Nat} :
  CB N A fs own env σ g0 s0 pv g H { s with heap:=h',toks:=t }:=by
 refine ⟨c.here.off k fun b hb=>(c.a8 b (hq b hb)).2.1,c.af.off k fun b hb=>?_,fun b hb=>?_⟩
 ·obtain ⟨q1,⟨o1,o2,o3,o4,o5⟩,_⟩:=c.a8 b (hq b hb)
  exact ⟨q1,o1,o2,o5⟩
 ·obtain ⟨q1,q2,o,e⟩:=c.a8 b hb
  refine ⟨q1,q2,?_⟩
  by_cases w:b ∈ q
  ·exact lv b w
  ·exact ⟨o,k b o w e⟩
theorem CB.freeze {pv:List Addr} (c:CB N A fs own env σ g0 s0 pv g H s) {T:Addr} (hl:∃ o,s.heap.get? T = some o) (h0:s0.heap.get? T = none) (hμ:T ∉ g.μ) (h1:T ∉ own) (h2:T ∉ frs fs) (h3:T ∉ pv) :
  CB N A fs own env σ g0 s0 pv (g.freeze T) H s:=by
 refine ⟨c.here.freeze hl hμ h1 h2,c.af.freeze hl h0 hμ,fun b hb=>?_⟩
 obtain ⟨q1,⟨o1,o2,o3,o4,o5⟩,q3⟩:=c.a8 b hb
 exact ⟨q1,⟨fun z=>z.elim o1 fun w=>h3 (w ▸ hb),o2,o3,o4,o5⟩,q3⟩
theorem CB.O0 {pv:List Addr} {hb:Heap} (c:CB N A fs own env σ g0 s0 pv g H s) (ng:qm g g' hb s.heap) (up:∀ b,hb.get? b = none -> s0.heap.get? b = none) (ho:∀ b ∈ own,hb.get? b ≠ none) (hf:∀ b ∈ frs fs,hb.get? b ≠ none) (hp:∀ b ∈ pv,hb.get? b ≠ none) :
  CB N A fs own env σ g0 s0 pv g' H s:=by
 rcases ng with rfl | ⟨T,rfl,e1,e2,e3⟩
 ·exact c
 ·exact c.freeze e2 (up T e1) e3 (fun m=>ho T m e1) (fun m=>hf T m e1) fun m=>hp T m e1
theorem qm.μ {hb:Heap} (ng:qm g g' hb h):g'.μ = g.μ:=by rcases ng with rfl | ⟨T,rfl,_⟩ <;> rfl
theorem qm.Z {hb:Heap} (ng:qm g g' hb h):∀ a,g.Z a -> g'.Z a:=fun a z=>by rcases ng with rfl | ⟨T,rfl,_⟩; exact z; exact .inl z
theorem bE.lives {it:It} {a:Addr} (r:bE g h it a pr):∀ b ∈ pr,∃ o,h.get? b = some o:=by
 cases r with
 | sim r=>intro b hb; simp at hb; subst hb; exact r.live
 | uS x=>intro b hb; simp at hb; subst hb; exact ⟨_,x⟩
 | mT _ _ _ x=>intro b hb; simp at hb; subst hb; obtain ⟨o,e,_⟩:=x; exact ⟨o,e⟩
 | keys _ x=>intro b hb; simp at hb; subst hb; obtain ⟨o,e,_⟩:=x; exact ⟨o,e⟩
 | bytes x=>intro b hb; simp at hb; subst hb; obtain ⟨o,e,_⟩:=x; exact ⟨o,e⟩
 | rev _ _ _ _ x=>intro b hb; simp at hb; subst hb; obtain ⟨o,e,_⟩:=x; exact ⟨o,e⟩
 | zip hz hTI hTO r1 r2 _=>
  obtain ⟨_,_,hTO⟩:=hTO
  intro b hb
  simp only [List.mem_cons,List.not_mem_nil,or_false] at hb
  rcases hb with rfl | rfl | rfl | rfl | rfl
  ·exact ⟨_,hz⟩
  ·exact ⟨_,hTI⟩
  ·exact ⟨_,hTO⟩
  ·exact r1.live
  ·exact r2.live
theorem zw {ifs:List Expr} {Q:Bool -> Shared -> Prop} (q:Q false s):wpAny P.M A (forIn ifs false fun c r=>if r = true then do let ok ← isTrue c cenv (eval c cenv); pure (ForInStep.yield ok) else pure (ForInStep.yield r)) Q E s:=by
 induction ifs with
 | nil=>exact wpAny_pure q
 | cons c r ih=>
  rw [List.forIn_cons]
  refine wpAny_bind ?_
  rw [if_neg (by decide)]
  exact wpAny_pure ih
end
section
variable {n d:Nat} {ks:List (Str × NameKind)} {a:Expr} {x:TE} {es:List Expr} {xs:List TE}
variable (n d ks) in
noncomputable def jY (es:List Expr) (xs:List TE):Prop:=∀ X σ t (p:Bool -> Hp -> Prop) (ex:EP) Q R,At (2 * n + d + 2) ks X σ t -> runC (WF n) σ xs t.H p ex -> Fi X t AI p ex Q R ->
 wpAny P.M X.A (forIn es true fun c r=>if r = true then do let ok ← isTrue c X.env (eval c X.env); pure (ForInStep.yield ok) else pure (ForInStep.yield r)) Q R t.s
theorem EH:jY n d ks [] []:=fun X σ t p ex Q R h q f=>wpAny_pure (f.ok true true t q h.refl rfl)
theorem CI (ga:Good n d ks a x) (gr:jY n d ks es xs):jY n d ks (a :: es) (x :: xs):=fun X σ t p ex Q R h q f=>by
 rw [List.forIn_cons]
 refine wpAny_bind ?_
 rw [if_pos rfl]
 refine wpAny_bind (ga.ts X σ t (fun b H=>Br b (runC (WF n) σ xs H p ex) (p false H)) ex _ R h q (f.go h.refl fun b b' t1 q a1 a1' r=>?_))
 cases r
 refine wpAny_pure ?_
 cases b with
 | true=>exact gr X σ t1 p ex Q R (h.after a1) q (f.then a1')
 | false=>exact zw (f.ok false false t1 q a1' rfl)
end
end
end
end Mine
end
section
open PySem PySem.W PyProof.Rows PySem.Calls
namespace Mine
noncomputable section
section
section
variable {n N:Nat} {A:Around} {fs:List Env} {own ow pr W F ip:List Addr} {env:Env} {σ σ':Loc} {g g' g0:Gh} {H H':Hp} {s s' s0:Shared} {h h':Heap} {ks:List (Str × NameKind)} {E:Value -> Shared -> Prop} {sc:Scope} {C D:Addr}
theorem Here.comp {t:bq} (x:Here n A fs own env σ g H s) (o:fY ks sc t) (k:Kn ks env) (hC:∃ mm,s.heap.Ns C mm) (oC:Off own fs g C) :
  Here n A fs (C :: own) (compEnvC sc (az env sc) C env) (outer (compEnvC sc (az env sc) C env) σ) g H s :=
 ⟨x.inv,x.fm.comp o k hC oC,x.frames,x.handled,x.depth,x.units,x.gens⟩
end
end
namespace Gs
noncomputable def Gq (n:Nat) (A:PySem.Around) (fs:List PySem.Env) (own:List PySem.Addr) (ip:List PySem.Addr) (env:PySem.Env) (σ:Mine.Loc) (g:Mine.Gh) (g0:Mine.Gh) (H:Mine.Hp) (s:PySem.Shared) (s0:PySem.Shared) (ks:List (PySem.Str × PySem.NameKind)) (E:PySem.Value -> PySem.Shared -> Prop) (sc:PySem.Scope) (ao:PySem.Expr) (t:Mine.bq) (ifs:List PySem.Expr) (zs:List Mine.TE) (it:Mine.It) (a:PySem.Addr) (p:Mine.Loc -> Mine.It -> Bool -> Mine.Hp -> Prop) (Qn:PySem.Shared -> Prop) (Qt:Bool -> PySem.Shared -> Prop) (E':PySem.Value -> PySem.Shared -> Prop):Prop:=∀ (C:PySem.Addr) (D:PySem.Addr) (o:fY ks sc t) (k:Kn ks env) (tr:fX sc.names ao t) (ci:jY n 1 sc.names ifs zs) (nd:C ∉ D :: ip /\ D ∉ ip) (cb:CB (2 * n + 2 + 2) A fs own env σ g0 s0 (C :: D :: ip) g H s) (ri:bE g s.heap it a ip) (hz:∀ x y,it = .zip x y -> ∃ es k p,ao = .Tuple es k p) (Acc:Gh -> Heap -> Prop) (rP:∀ g h g' h',Acc g h -> (∀ (l:Nat) (a:Addr),g.μ[l]? = some a -> g'.μ[l]? = some a) -> (∀ a,g.Z a -> g'.Z a) -> (∀ b o,(g.Z b \/ b = D) -> h.get? b = some o -> h'.get? b = some o) -> Acc g' h') (acc:Acc g s.heap) (hC:∃ mm,s.heap.Ns C mm) (pe:Prop) (e:Is (aT H it) fun r=>Turn t σ r pe fun σ' it'=>runC (WF n) σ' zs H (p σ' it') ee) (qn:pe -> ∀ s',Here (2 * n + 2 + 2) A fs own env σ g H s' -> After (frs fs) g0.μ g0 s0 g H s' -> Acc g s'.heap -> (∃ mm,s'.heap.Ns C mm) -> (∀ b ∈ [C,D],Off own fs g b /\ s0.heap.get? b = none) -> Qn s') (qt:∀ σ' it' b t1,p σ' it' b t1.H -> CB (2 * n + 2 + 2) A fs own env σ g0 s0 (C :: D :: ip) t1.g t1.H t1.s -> bE t1.g t1.s.heap it' a ip -> (∀ x y,it' = .zip x y -> ∃ es k p,ao = .Tuple es k p) -> Acc t1.g t1.s.heap -> (∃ mm,t1.s.heap.Ns C mm) ->
    At (2 * n + 1 + 2) sc.names ⟨A,fs,C :: own,compEnvC sc (az env sc) C env⟩ σ' t1 -> Qt b t1.s),wpAny P.M A (pyNext (.ref a)) (fun r s₁=>match r with
   | none=>Qn s₁
   | some v=>wpAny P.M A (letOwnedTupleGo ao (.ref a) v) (fun _ s₂=>wpAny P.M A (assign ao (compEnvC sc (az env sc) C env) v) (fun _ s₃=>
     wpAny P.M A (forIn ifs true fun c r=>if r = true then do let ok ← isTrue c (compEnvC sc (az env sc) C env) (eval c (compEnvC sc (az env sc) C env)); pure (ForInStep.yield ok) else pure (ForInStep.yield r)) Qt E' s₃) E' s₂) E' s₁) E s
noncomputable def kq:Nat × PySem.Around × List PySem.Env × List PySem.Addr × List PySem.Addr × PySem.Env × Mine.Loc × Mine.Gh × Mine.Gh × Mine.Hp × PySem.Shared × PySem.Shared × List (PySem.Str × PySem.NameKind) × (PySem.Value -> PySem.Shared -> Prop) × PySem.Scope × PySem.Expr × Mine.bq × List PySem.Expr × List Mine.TE × Mine.It × PySem.Addr × (Mine.Loc -> Mine.It -> Bool -> Mine.Hp -> Prop) × (PySem.Shared -> Prop) × (Bool -> PySem.Shared -> Prop) × (PySem.Value -> PySem.Shared -> Prop):=cx fun p=>Gq p.1 p.2.1 p.2.2.1 p.2.2.2.1 p.2.2.2.2.1 p.2.2.2.2.2.1 p.2.2.2.2.2.2.1 p.2.2.2.2.2.2.2.1 p.2.2.2.2.2.2.2.2.1 p.2.2.2.2.2.2.2.2.2.1 p.2.2.2.2.2.2.2.2.2.2.1 p.2.2.2.2.2.2.2.2.2.2.2.1 p.2.2.2.2.2.2.2.2.2.2.2.2.1 p.2.2.2.2.2.2.2.2.2.2.2.2.2.1 p.2.2.2.2.2.2.2.2.2.2.2.2.2.2.1 p.2.2.2.2.2.2.2.2.2.2.2.2.2.2.2.1 p.2.2.2.2.2.2.2.2.2.2.2.2.2.2.2.2.1 p.2.2.2.2.2.2.2.2.2.2.2.2.2.2.2.2.2.1 p.2.2.2.2.2.2.2.2.2.2.2.2.2.2.2.2.2.2.1 p.2.2.2.2.2.2.2.2.2.2.2.2.2.2.2.2.2.2.2.1 p.2.2.2.2.2.2.2.2.2.2.2.2.2.2.2.2.2.2.2.2.1 p.2.2.2.2.2.2.2.2.2.2.2.2.2.2.2.2.2.2.2.2.2.1 p.2.2.2.2.2.2.2.2.2.2.2.2.2.2.2.2.2.2.2.2.2.2.1 p.2.2.2.2.2.2.2.2.2.2.2.2.2.2.2.2.2.2.2.2.2.2.2.1 p.2.2.2.2.2.2.2.2.2.2.2.2.2.2.2.2.2.2.2.2.2.2.2.2
noncomputable def n:=kq.1
noncomputable def A:=kq.2.1
noncomputable def fs:=kq.2.2.1
noncomputable def own:=kq.2.2.2.1
noncomputable def ip:=kq.2.2.2.2.1
noncomputable def env:=kq.2.2.2.2.2.1
noncomputable def σ:=kq.2.2.2.2.2.2.1
noncomputable def g:=kq.2.2.2.2.2.2.2.1
noncomputable def g0:=kq.2.2.2.2.2.2.2.2.1
noncomputable def H:=kq.2.2.2.2.2.2.2.2.2.1
noncomputable def s:=kq.2.2.2.2.2.2.2.2.2.2.1
noncomputable def s0:=kq.2.2.2.2.2.2.2.2.2.2.2.1
noncomputable def ks:=kq.2.2.2.2.2.2.2.2.2.2.2.2.1
noncomputable def E:=kq.2.2.2.2.2.2.2.2.2.2.2.2.2.1
noncomputable def sc:=kq.2.2.2.2.2.2.2.2.2.2.2.2.2.2.1
noncomputable def ao:=kq.2.2.2.2.2.2.2.2.2.2.2.2.2.2.2.1
noncomputable def t:=kq.2.2.2.2.2.2.2.2.2.2.2.2.2.2.2.2.1
noncomputable def ifs:=kq.2.2.2.2.2.2.2.2.2.2.2.2.2.2.2.2.2.1
noncomputable def zs:=kq.2.2.2.2.2.2.2.2.2.2.2.2.2.2.2.2.2.2.1
noncomputable def it:=kq.2.2.2.2.2.2.2.2.2.2.2.2.2.2.2.2.2.2.2.1
noncomputable def a:=kq.2.2.2.2.2.2.2.2.2.2.2.2.2.2.2.2.2.2.2.2.1
noncomputable def p:=kq.2.2.2.2.2.2.2.2.2.2.2.2.2.2.2.2.2.2.2.2.2.1
noncomputable def Qn:=kq.2.2.2.2.2.2.2.2.2.2.2.2.2.2.2.2.2.2.2.2.2.2.1
noncomputable def Qt:=kq.2.2.2.2.2.2.2.2.2.2.2.2.2.2.2.2.2.2.2.2.2.2.2.1
noncomputable def E':=kq.2.2.2.2.2.2.2.2.2.2.2.2.2.2.2.2.2.2.2.2.2.2.2.2
theorem tq:Gq n A fs own ip env σ g g0 H s s0 ks E sc ao t ifs zs it a p Qn Qt E':=by
 intro C D o k tr ci nd cb ri hz Acc rP acc hC pe e qn qt
 exact (aW e fun res hres q=>by
 have p5:∀ b ∈ ip,b ∈ C :: D :: ip:=fun b hb=>by simp [hb]
 have oC:=(cb.a8 C (by simp)).2.1
 have oD:=(cb.a8 D (by simp)).2.1
 have K6:C ∉ ip:=fun q=>nd.1 (by simp [q])
 refine Aa cb.here.inv cb.here.handled ri (fun b hb=>let ⟨_,o,_⟩:=cb.a8 b (p5 b hb); ⟨o.1,o.2.1,o.2.2.2.2⟩) hres hz ?_ ?_
 ·intro hr h' t kp
  subst hr
  refine qn q _ (cb.here.off kp fun b hb=>(cb.a8 b (p5 b hb)).2.1) (cb.af.off kp fun b hb=>?_) (rP _ _ _ _ acc (fun _ _ e=>e) (fun _ z=>z) fun b o w e=>kp b o (fun m=>?_) e) ?_ fun b hb=>?_
  ·obtain ⟨q1,⟨o1,o2,o3,o4,o5⟩,_⟩:=cb.a8 b (p5 b hb)
   exact ⟨q1,o1,o2,o5⟩
  ·rcases w with w | rfl
   ·exact (cb.a8 b (p5 b m)).2.1.1 w
   ·exact nd.2 m
  ·obtain ⟨mm,j3⟩:=hC
   exact ⟨mm,dB j3 fun o e=>⟨o.slots,kp _ o K6 e⟩⟩
  ·have:b ∈ C :: D :: ip:=by simp at hb ⊢; rcases hb with rfl | rfl <;> simp
   obtain ⟨q1,q2,_⟩:=cb.a8 b this
   exact ⟨q2,q1⟩
 ·intro x it' hr v g1 h' tk kp ng rv Ck hz'
  subst hr
  refine aW (show Is (bg t x σ) _ from q) fun σ' hb q=>?_
  have lv:∀ b ∈ ip,∃ o,h'.get? b = some o:=fun b hb=>Ck.lives b hb
  have jV:CB (2 * n + 2 + 2) A fs own env σ g0 s0 (C :: D :: ip) g H { s with heap:=h',toks:=tk }:=cb.off kp p5 lv
  have IC:∀ b ∈ own,s.heap.get? b ≠ none:=fun b hb w=>by obtain ⟨_,_,o,e⟩:=cb.here.fm.ownOut b hb; exact aX e w
  have ID:∀ b ∈ frs fs,s.heap.get? b ≠ none:=fun b hb w=>by obtain ⟨_,o,e,_⟩:=Heap.FunFrames.mem cb.here.fm.frames hb; exact aX e w
  have J8:∀ b ∈ C :: D :: ip,s.heap.get? b ≠ none:=fun b hb w=>by obtain ⟨_,_,o,e⟩:=cb.a8 b hb; exact aX e w
  have gw:CB (2 * n + 2 + 2) A fs own env σ g0 s0 (C :: D :: ip) g1 H { s with heap:=h',toks:=tk }:=jV.O0 ng (fun b hb=>cb.af.keep.fresh hb) IC ID J8
  have xP:∃ mm,h'.Ns C mm:=let ⟨mm,j3⟩:=hC; ⟨mm,dB j3 fun o e=>⟨o.slots,kp _ o K6 e⟩⟩
  have rU:Acc g1 h':=rP _ _ _ _ acc (fun l a e=>by rw [ng.μ]; exact e) ng.Z fun b o w e=>kp b o (fun m=>by
   rcases w with w | rfl
   ·exact (cb.a8 b (p5 b m)).2.1.1 w
   ·exact nd.2 m) e
  have hc:=gw.here.comp o k xP (gw.a8 C (by simp)).2.1
  obtain ⟨ρ,hp1,hp2,hp3⟩:=zA hb
  refine qh (σ':=ρ ++ outer (compEnvC sc (az env sc) C env) σ) (ow:=[C]) hc (Kn.comp o k gw.here.fm.kind) tr (Ow.comp o k gw.here.fm.kind tr) (fun b hb=>by simp at hb; subst hb; simp) rv (hp2 _) fun s2 a2 m2=>?_
  have G9:=(gw.a8 C (by simp)).2.1
  have je:∀ b o,b ∉ [C] -> h'.get? b = some o -> s2.heap.get? b = some o \/ b ∈ frs fs:=fun b o m e=>by
   by_cases w:b ∈ frs fs
   ·exact .inr w
   ·exact .inl (a2.keep.same b o e m w)
  have h2:Here (2 * n + 2 + 2) A fs own env σ g1 H s2:=gw.here.D7 a2 fun b hb=>by simp at hb; subst hb; exact ⟨G9.2.2.1,G9.2.2.2.1,G9.1⟩
  have RB:After (frs fs) g0.μ g0 s0 g1 H s2:=gw.af.trans a2 fun b hb=>by simp at hb; subst hb; exact .inr (gw.a8 b (by simp)).1
  have sP:∀ b o,b ∉ frs fs -> b ≠ C -> h'.get? b = some o -> s2.heap.get? b = some o:=fun b o w m e=>a2.keep.same b o e (by simpa using m) w
  have pn:CB (2 * n + 2 + 2) A fs own env σ g0 s0 (C :: D :: ip) g1 H s2:=by
   refine ⟨h2,RB,fun b hb=>?_⟩
   obtain ⟨q1,q2,o,e⟩:=gw.a8 b hb
   refine ⟨q1,q2,?_⟩
   by_cases w:b = C
   ·subst w; obtain ⟨o',e'⟩:=a2.keep.live b o e; exact ⟨o',e'⟩
   ·exact ⟨o,sP b o q2.2.2.2.1 w e⟩
  have K7:∃ mm,s2.heap.Ns C mm:=let ⟨mm,hn,_⟩:=m2.vals; ⟨mm,hn⟩
  have HX:∀ b,g1.Z b -> b ∉ frs fs /\ b ≠ C:=fun b z=>⟨fun w=>(gw.here.fm.bH b w).1 z,fun w=>G9.1 (w ▸ z)⟩
  have F7:Acc g1 s2.heap:=rP _ _ _ _ rU (fun _ _ e=>e) (fun _ z=>z) fun b o w e=>by
   rcases w with w | rfl
   ·exact sP b o (HX b w).1 (HX b w).2 e
   ·exact sP b o (gw.a8 b (by simp)).2.1.2.2.2.1 (fun q=>nd.1 (by simp [q])) e
  have JE:bE g1 s2.heap it' a ip:=Ck.mono (fun _ _ e=>e) (fun _ z=>z) (fun b o z e=>sP b o (HX b z).1 (HX b z).2 e) fun b hb o e=>
   sP b o (gw.a8 b (p5 b hb)).2.1.2.2.2.1 (fun q=>K6 (q ▸ hb)) e
  have hc2:Here (2 * n + 2 + 2) A fs (C :: own) (compEnvC sc (az env sc) C env) σ' g1 H s2:=by
   refine ⟨a2.inv,Fm.look m2 fun x=>?_,gw.here.frames,gw.here.handled,gw.here.depth,gw.here.units,a2.gens.trans gw.here.gens⟩
   rw [hp1]
   exact CU o k gw.here.fm.kind hp3 gw.here.fm.jC x
  refine ci ⟨A,fs,C :: own,compEnvC sc (az env sc) C env⟩ σ' ⟨g1,H,s2⟩ (p σ' it') ee Qt E' ⟨hc2.less (by omega),Kn.comp o k gw.here.fm.kind⟩ q ⟨fun b b' t3 q a3 r=>?_,fun _ _ _ z=>z.elim⟩
  cases r
  have a3:After (frs fs) g1.μ g1 s2 t3.g t3.H t3.s:=a3
  have LD:=pn.step a3
  refine qt σ' it' b t3 q LD (JE.after a3 pn.here.apart fun b hb=>?_) (fun x y w=>?_) (rP _ _ _ _ F7 (fun l a e=>a3.le.get e) a3.le.Z fun b o w e=>?_) ?_ ⟨(hc2.less (by omega)).after a3,Kn.comp o k gw.here.fm.kind⟩
  ·have:=(pn.a8 b (p5 b hb)).2.1
   exact ⟨this.2.1,this.2.2.2.1⟩
  ·obtain ⟨x',y',hh⟩:=hz' x y w
   exact hz x' y' hh
  ·rcases w with w | rfl
   ·exact a3.keep.same b o e (pn.here.apart b w).1 (pn.here.apart b w).2
   ·exact pn.keeps a3 b (by simp) o e
  ·obtain ⟨mm,j3⟩:=K7
   exact ⟨mm,dB j3 fun o e=>⟨o.slots,pn.keeps a3 C (by simp) o e⟩⟩)
end Gs
section
section
variable {n N:Nat} {A:Around} {fs:List Env} {own ow pr W F ip:List Addr} {env:Env} {σ σ':Loc} {g g' g0:Gh} {H H':Hp} {s s' s0:Shared} {h h':Heap} {ks:List (Str × NameKind)} {E:Value -> Shared -> Prop} {sc:Scope} {C D:Addr}
theorem zF {ao:Expr} {t:bq} {ifs:List Expr} {zs:List TE} {it:It} {a:Addr} (o:fY ks sc t) (k:Kn ks env) (tr:fX sc.names ao t) (ci:jY n 1 sc.names ifs zs) (nd:C ∉ D :: ip /\ D ∉ ip) (cb:CB (2 * n + 2 + 2) A fs own env σ g0 s0 (C :: D :: ip) g H s) (ri:bE g s.heap it a ip) (hz:∀ x y,it = .zip x y -> ∃ es k p,ao = .Tuple es k p) (Acc:Gh -> Heap -> Prop) (rP:∀ g h g' h',Acc g h -> (∀ (l:Nat) (a:Addr),g.μ[l]? = some a -> g'.μ[l]? = some a) -> (∀ a,g.Z a -> g'.Z a) -> (∀ b o,(g.Z b \/ b = D) -> h.get? b = some o -> h'.get? b = some o) -> Acc g' h') (acc:Acc g s.heap) (hC:∃ mm,s.heap.Ns C mm) {pe:Prop} {p:Loc -> It -> Bool -> Hp -> Prop} {Qn:Shared -> Prop} {Qt:Bool -> Shared -> Prop} {E':Value -> Shared -> Prop} (e:Is (aT H it) fun r=>Turn t σ r pe fun σ' it'=>runC (WF n) σ' zs H (p σ' it') ee) (qn:pe -> ∀ s',Here (2 * n + 2 + 2) A fs own env σ g H s' -> After (frs fs) g0.μ g0 s0 g H s' -> Acc g s'.heap -> (∃ mm,s'.heap.Ns C mm) -> (∀ b ∈ [C,D],Off own fs g b /\ s0.heap.get? b = none) -> Qn s') (qt:∀ σ' it' b t1,p σ' it' b t1.H -> CB (2 * n + 2 + 2) A fs own env σ g0 s0 (C :: D :: ip) t1.g t1.H t1.s -> bE t1.g t1.s.heap it' a ip -> (∀ x y,it' = .zip x y -> ∃ es k p,ao = .Tuple es k p) -> Acc t1.g t1.s.heap -> (∃ mm,t1.s.heap.Ns C mm) ->
    At (2 * n + 1 + 2) sc.names ⟨A,fs,C :: own,compEnvC sc (az env sc) C env⟩ σ' t1 -> Qt b t1.s):wpAny P.M A (pyNext (.ref a)) (fun r s₁=>match r with
   | none=>Qn s₁
   | some v=>wpAny P.M A (letOwnedTupleGo ao (.ref a) v) (fun _ s₂=>wpAny P.M A (assign ao (compEnvC sc (az env sc) C env) v) (fun _ s₃=>
     wpAny P.M A (forIn ifs true fun c r=>if r = true then do let ok ← isTrue c (compEnvC sc (az env sc) C env) (eval c (compEnvC sc (az env sc) C env)); pure (ForInStep.yield ok) else pure (ForInStep.yield r)) Qt E' s₃) E' s₂) E' s₁) E s :=
 bD (p:=fun p=>Gs.Gq p.1 p.2.1 p.2.2.1 p.2.2.2.1 p.2.2.2.2.1 p.2.2.2.2.2.1 p.2.2.2.2.2.2.1 p.2.2.2.2.2.2.2.1 p.2.2.2.2.2.2.2.2.1 p.2.2.2.2.2.2.2.2.2.1 p.2.2.2.2.2.2.2.2.2.2.1 p.2.2.2.2.2.2.2.2.2.2.2.1 p.2.2.2.2.2.2.2.2.2.2.2.2.1 p.2.2.2.2.2.2.2.2.2.2.2.2.2.1 p.2.2.2.2.2.2.2.2.2.2.2.2.2.2.1 p.2.2.2.2.2.2.2.2.2.2.2.2.2.2.2.1 p.2.2.2.2.2.2.2.2.2.2.2.2.2.2.2.2.1 p.2.2.2.2.2.2.2.2.2.2.2.2.2.2.2.2.2.1 p.2.2.2.2.2.2.2.2.2.2.2.2.2.2.2.2.2.2.1 p.2.2.2.2.2.2.2.2.2.2.2.2.2.2.2.2.2.2.2.1 p.2.2.2.2.2.2.2.2.2.2.2.2.2.2.2.2.2.2.2.2.1 p.2.2.2.2.2.2.2.2.2.2.2.2.2.2.2.2.2.2.2.2.2.1 p.2.2.2.2.2.2.2.2.2.2.2.2.2.2.2.2.2.2.2.2.2.2.1 p.2.2.2.2.2.2.2.2.2.2.2.2.2.2.2.2.2.2.2.2.2.2.2.1 p.2.2.2.2.2.2.2.2.2.2.2.2.2.2.2.2.2.2.2.2.2.2.2.2) Gs.tq (n,A,fs,own,ip,env,σ,g,g0,H,s,s0,ks,E,sc,ao,t,ifs,zs,it,a,p,Qn,Qt,E') C D o k tr ci nd cb ri hz Acc rP acc hC pe e qn qt
noncomputable def yy (N:Nat) (A:Around) (fs:List Env) (own:List Addr) (env:Env) (σ:Loc) (g0:Gh) (s0:Shared) (C D:Addr) (Acc:Gh -> Heap -> Prop) (H:Hp) (s:Shared):Prop :=
 ∃ g,Here N A fs own env σ g H s /\ After (frs fs) g0.μ g0 s0 g H s /\ Acc g s.heap /\ (∃ mm,s.heap.Ns C mm) /\ ∀ b ∈ [C,D],Off own fs g b /\ s0.heap.get? b = none
noncomputable def eO (D:Addr) (bx:List AV) (g:Gh) (h:Heap):Prop:=∃ us,h.PlainList D us.toArray /\ aC P g h bx us
theorem eO.mono {bx:List AV}:∀ g h g' h',eO D bx g h -> (∀ (l:Nat) (a:Addr),g.μ[l]? = some a -> g'.μ[l]? = some a) -> (∀ a,g.Z a -> g'.Z a) -> (∀ b o,(g.Z b \/ b = D) -> h.get? b = some o -> h'.get? b = some o) -> eO D bx g' h' :=
 fun g h g' h' ⟨us,p,r⟩ hm hz hk=>⟨us,plain_at p fun o=>hk _ o (.inr rfl),r.mono hm hz fun b o z=>hk b o (.inl z)⟩
end
end
end
end Mine
end
section
open PySem PySem.W PyProof.Rows PySem.Calls
namespace Mine
noncomputable section
section
section
variable {n N:Nat} {A:Around} {fs:List Env} {own ow pr W F ip:List Addr} {env:Env} {σ σ':Loc} {g g' g0:Gh} {H H':Hp} {s s' s0:Shared} {h h':Heap} {ks:List (Str × NameKind)} {E:Value -> Shared -> Prop} {sc:Scope} {C D:Addr}
variable {x:TE} {zs:List TE} {elt ao iter:Expr} {t:bq} {ifs:List Expr} {pos:Pos} {a:Addr} {p0:List AV -> Hp -> Prop} {R:Result -> Shared -> Prop}
variable (n A fs own env σ g0 s0 C D ip x t zs ao a p0) in
noncomputable def yv (m':Nat) (s':Shared):Prop:=∃ it g H bx p,cL (WF n) σ x t zs m' it H p /\ bx.length + m' <= lim /\ (∀ vs H,p vs H -> p0 (bx ++ vs) H) /\ CB (2 * n + 2 + 2) A fs own env σ g0 s0 (C :: D :: ip) g H s' /\ bE g s'.heap it a ip /\ (∀ x y,it = .zip x y -> ∃ es k p,ao = .Tuple es k p) /\ eO D bx g s'.heap /\ ∃ mm,s'.heap.Ns C mm
end
end
namespace Gr
noncomputable def Gq (n:Nat) (A:PySem.Around) (fs:List PySem.Env) (own:List PySem.Addr) (ip:List PySem.Addr) (env:PySem.Env) (σ:Mine.Loc) (g0:Mine.Gh) (s0:PySem.Shared) (ks:List (PySem.Str × PySem.NameKind)) (sc:PySem.Scope) (C:PySem.Addr) (x:Mine.TE) (zs:List Mine.TE) (elt:PySem.Expr) (ao:PySem.Expr) (iter:PySem.Expr) (t:Mine.bq) (ifs:List PySem.Expr) (pos:PySem.Pos) (a:PySem.Addr) (p0:List Mine.AV -> Mine.Hp -> Prop) (R:PySem.Result -> PySem.Shared -> Prop):Prop:=∀ (D:PySem.Addr) (o:fY ks sc t) (k:Kn ks env) (tr:fX sc.names ao t) (ce:Good n 1 sc.names elt x) (ci:jY n 1 sc.names ifs zs) (nd:C ∉ D :: ip /\ D ∉ ip) (fin:∀ tot H s',p0 tot H -> tot.length <= lim -> yy (2 * n + 2 + 2) A fs own env σ g0 s0 C D (eO D tot) H s' -> R (.ok .next) s') (m:Nat) (s:Shared) (hI:yv n A fs own ip env σ g0 s0 C D x zs ao t a p0 m s),codeAny P.M A (.compLoop (.ListComp elt [⟨ao,iter,ifs,0⟩] sc pos) 0 (.ref a) (.ref D) (compEnvC sc (az env sc) C env)) R s
noncomputable def kq:Nat × PySem.Around × List PySem.Env × List PySem.Addr × List PySem.Addr × PySem.Env × Mine.Loc × Mine.Gh × PySem.Shared × List (PySem.Str × PySem.NameKind) × PySem.Scope × PySem.Addr × Mine.TE × List Mine.TE × PySem.Expr × PySem.Expr × PySem.Expr × Mine.bq × List PySem.Expr × PySem.Pos × PySem.Addr × (List Mine.AV -> Mine.Hp -> Prop) × (PySem.Result -> PySem.Shared -> Prop):=cx fun p=>Gq p.1 p.2.1 p.2.2.1 p.2.2.2.1 p.2.2.2.2.1 p.2.2.2.2.2.1 p.2.2.2.2.2.2.1 p.2.2.2.2.2.2.2.1 p.2.2.2.2.2.2.2.2.1 p.2.2.2.2.2.2.2.2.2.1 p.2.2.2.2.2.2.2.2.2.2.1 p.2.2.2.2.2.2.2.2.2.2.2.1 p.2.2.2.2.2.2.2.2.2.2.2.2.1 p.2.2.2.2.2.2.2.2.2.2.2.2.2.1 p.2.2.2.2.2.2.2.2.2.2.2.2.2.2.1 p.2.2.2.2.2.2.2.2.2.2.2.2.2.2.2.1 p.2.2.2.2.2.2.2.2.2.2.2.2.2.2.2.2.1 p.2.2.2.2.2.2.2.2.2.2.2.2.2.2.2.2.2.1 p.2.2.2.2.2.2.2.2.2.2.2.2.2.2.2.2.2.2.1 p.2.2.2.2.2.2.2.2.2.2.2.2.2.2.2.2.2.2.2.1 p.2.2.2.2.2.2.2.2.2.2.2.2.2.2.2.2.2.2.2.2.1 p.2.2.2.2.2.2.2.2.2.2.2.2.2.2.2.2.2.2.2.2.2.1 p.2.2.2.2.2.2.2.2.2.2.2.2.2.2.2.2.2.2.2.2.2.2
noncomputable def n:=kq.1
noncomputable def A:=kq.2.1
noncomputable def fs:=kq.2.2.1
noncomputable def own:=kq.2.2.2.1
noncomputable def ip:=kq.2.2.2.2.1
noncomputable def env:=kq.2.2.2.2.2.1
noncomputable def σ:=kq.2.2.2.2.2.2.1
noncomputable def g0:=kq.2.2.2.2.2.2.2.1
noncomputable def s0:=kq.2.2.2.2.2.2.2.2.1
noncomputable def ks:=kq.2.2.2.2.2.2.2.2.2.1
noncomputable def sc:=kq.2.2.2.2.2.2.2.2.2.2.1
noncomputable def C:=kq.2.2.2.2.2.2.2.2.2.2.2.1
noncomputable def x:=kq.2.2.2.2.2.2.2.2.2.2.2.2.1
noncomputable def zs:=kq.2.2.2.2.2.2.2.2.2.2.2.2.2.1
noncomputable def elt:=kq.2.2.2.2.2.2.2.2.2.2.2.2.2.2.1
noncomputable def ao:=kq.2.2.2.2.2.2.2.2.2.2.2.2.2.2.2.1
noncomputable def iter:=kq.2.2.2.2.2.2.2.2.2.2.2.2.2.2.2.2.1
noncomputable def t:=kq.2.2.2.2.2.2.2.2.2.2.2.2.2.2.2.2.2.1
noncomputable def ifs:=kq.2.2.2.2.2.2.2.2.2.2.2.2.2.2.2.2.2.2.1
noncomputable def pos:=kq.2.2.2.2.2.2.2.2.2.2.2.2.2.2.2.2.2.2.2.1
noncomputable def a:=kq.2.2.2.2.2.2.2.2.2.2.2.2.2.2.2.2.2.2.2.2.1
noncomputable def p0:=kq.2.2.2.2.2.2.2.2.2.2.2.2.2.2.2.2.2.2.2.2.2.1
noncomputable def R:=kq.2.2.2.2.2.2.2.2.2.2.2.2.2.2.2.2.2.2.2.2.2.2
theorem tq:Gq n A fs own ip env σ g0 s0 ks sc C x zs elt ao iter t ifs pos a p0 R:=by
 intro D o k tr ce ci nd fin m s hI
 refine codeAny_loop rfl (yv n A fs own ip env σ g0 s0 C D x zs ao t a p0) (fun m s hI=>?_) m hI
 obtain ⟨it,g,H,bx,p,e,hlim,hp,cb,ri,hz,acc,hC⟩:=hI
 show wpAny _ A ((compTurn (.ListComp elt [⟨ao,iter,ifs,0⟩] sc pos) 0 (.ref a) (.ref D) (compEnvC sc (az env sc) C env)).onRaise (fun x=>do noteFrame x _; theTreesLotGoes x)) _ _ s
 refine wpAny_noted ?_
 rw [compTurn_list]
 cases m with
 | zero=>exact e.elim
 | succ m=>
 have body:=zF (Qn:=fun s'=>R (.ok .next) s')
  (Qt:=fun ok s₃=>if ok = true then wpAny P.M A (eval elt (compEnvC sc (az env sc) C env)) (fun y s₄=>wpAny P.M A (call (.builtin "list.append") [.ref D,y]) (fun _ s₅=>∃ m',m' < m + 1 /\ yv n A fs own ip env σ g0 s0 C D x zs ao t a p0 m' s₅) (notedBy P.M A (compEnvC sc (az env sc) C env) fun e s'=>R (.error e) s') s₄) (notedBy P.M A (compEnvC sc (az env sc) C env) fun e s'=>R (.error e) s') s₃
   else ∃ m',m' < m + 1 /\ yv n A fs own ip env σ g0 s0 C D x zs ao t a p0 m' s₃)
  (E:=notedBy P.M A (compEnvC sc (az env sc) C env) fun e s'=>R (.error e) s') (E':=notedBy P.M A (compEnvC sc (az env sc) C env) fun e s'=>R (.error e) s')
  o k tr ci nd cb ri hz (eO D bx) eO.mono acc hC e ?_ ?_
 ·refine wpAny_bind (wpAny_standAt (wpAny_bind (wpAny_mono body (fun r s₁ h₁=>?_) fun _ _ h'=>h')))
  cases r with
  | none=>exact wpAny_pure h₁
  | some v=>
   refine wpAny_bind (wpAny_mono h₁ (fun _ s₂ h₂=>wpAny_bind (wpAny_mono h₂ (fun _ s₃ h₃=>wpAny_bind (wpAny_mono h₃ (fun ok s₄ h₄=>?_) fun _ _ h'=>h')) fun _ _ h'=>h')) fun _ _ h'=>h')
   cases ok with
   | false=>exact wpAny_pure ⟨rfl,h₄⟩
   | true=>exact wpAny_bind (wpAny_bind (wpAny_mono h₄ (fun y s₅ h₅=>wpAny_bind (wpAny_mono h₅ (fun _ s₆ h₆=>wpAny_pure (wpAny_pure ⟨rfl,h₆⟩)) fun _ _ h'=>h')) fun _ _ h'=>h'))
 ·intro hr s' hh ha hac hc' ho
  exact fin bx H s' (List.append_nil bx ▸ hp [] H hr) (Nat.le_trans (Nat.le_add_right _ _) hlim) ⟨g,hh,ha,hac,hc',ho⟩
 ·intro σ' it' b t1 e jV wN hz1 rU xP hc1
  cases b with
  | false=>exact ⟨m,Nat.lt_succ_self _,it',t1.g,t1.H,bx,p,e,Nat.le_of_succ_le hlim,hp,jV,wN,hz1,rU,xP⟩
  | true=>
   show wpAny P.M A (eval elt _) _ _ _
   refine ce.ev ⟨A,fs,C :: own,compEnvC sc (az env sc) C env⟩ σ' t1 _ ee _ _ hc1 e ⟨fun v u t2 e2 a2 r2=>?_,fun _ _ _ z=>z.elim⟩
   have a2:After (frs fs) t1.g.μ t1.g t1.s t2.g t2.H t2.s:=a2
   have gw:=jV.step a2
   have F7:eO D bx t2.g t2.s.heap:=eO.mono _ _ _ _ rU (fun l a e=>a2.le.get e) a2.le.Z fun b o w e=>by
    rcases w with w | rfl
    ·exact a2.keep.same b o e (jV.here.apart b w).1 (jV.here.apart b w).2
    ·exact jV.keeps a2 b (by simp) o e
   have JE:bE t2.g t2.s.heap it' a ip:=wN.after a2 jV.here.apart fun b hb=>by
    have:=(jV.a8 b (by simp [hb])).2.1
    exact ⟨this.2.1,this.2.2.2.1⟩
   have K7:∃ mm,t2.s.heap.Ns C mm:=by
    obtain ⟨mm,j3⟩:=xP
    exact ⟨mm,dB j3 fun o e=>⟨o.slots,jV.keeps a2 C (by simp) o e⟩⟩
   obtain ⟨us,pl,rs⟩:=F7
   have hlen:=rs.length
   have hlt:bx.length <= lim:=Nat.le_trans (Nat.le_add_right _ _) hlim
   refine wpAny_list_append_plain (hsz:=cP (by simp; omega)) pl fun h' p' sb=>?_
   have kp:∀ b o,b ∉ [D] -> t2.s.heap.get? b = some o -> h'.get? b = some o:=fun b o m e=>(sb.2 b (by simpa using m)).trans e
   have oD:=(gw.a8 D (by simp)).2.1
   have pn:CB (2 * n + 2 + 2) A fs own env σ g0 s0 (C :: D :: ip) t2.g t2.H { t2.s with heap:=h',toks:=t2.s.toks }:=gw.off kp (fun b hb=>by simp at hb; subst hb; simp) fun b hb=>by simp at hb; subst hb; obtain ⟨n,e⟩:=p'; exact ⟨_,e⟩
   have kz:∀ b o,t2.g.Z b -> t2.s.heap.get? b = some o -> h'.get? b = some o:=fun b o z e=>kp b o (fun m=>by simp at m; subst m; exact oD.1 z) e
   refine ⟨m,Nat.lt_succ_self _,it',t2.g,t2.H,bx ++ [v],_,e2,by rw [List.length_append,Nat.add_right_comm]; exact hlim,fun vs H q=>by rw [List.append_assoc]; exact hp _ _ q,pn,JE.mono (fun _ _ e=>e) (fun _ z=>z) kz fun b hb o e=>kp b o (fun m=>by simp at m; subst m; exact nd.2 hb) e,hz1,⟨us ++ [u],by simpa using p',?_⟩,?_⟩
   ·exact (rs.mono (g:=t2.g) (fun _ _ e=>e) (fun _ z=>z) kz).append (.cons (r2.mono (g:=t2.g) (fun _ _ e=>e) (fun _ z=>z) kz) .nil)
   ·obtain ⟨mm,j3⟩:=K7
    exact ⟨mm,dB j3 fun o e=>⟨o.slots,kp C o (fun m=>by simp at m; exact nd.1 (by simp [m])) e⟩⟩
end Gr
section
section
variable {n N:Nat} {A:Around} {fs:List Env} {own ow pr W F ip:List Addr} {env:Env} {σ σ':Loc} {g g' g0:Gh} {H H':Hp} {s s' s0:Shared} {h h':Heap} {ks:List (Str × NameKind)} {E:Value -> Shared -> Prop} {sc:Scope} {C D:Addr}
variable {x:TE} {zs:List TE} {elt ao iter:Expr} {t:bq} {ifs:List Expr} {pos:Pos} {a:Addr} {p0:List AV -> Hp -> Prop} {R:Result -> Shared -> Prop}
theorem yR (o:fY ks sc t) (k:Kn ks env) (tr:fX sc.names ao t) (ce:Good n 1 sc.names elt x) (ci:jY n 1 sc.names ifs zs) (nd:C ∉ D :: ip /\ D ∉ ip) (fin:∀ tot H s',p0 tot H -> tot.length <= lim -> yy (2 * n + 2 + 2) A fs own env σ g0 s0 C D (eO D tot) H s' -> R (.ok .next) s') (m:Nat) (s:Shared) (hI:yv n A fs own ip env σ g0 s0 C D x zs ao t a p0 m s):codeAny P.M A (.compLoop (.ListComp elt [⟨ao,iter,ifs,0⟩] sc pos) 0 (.ref a) (.ref D) (compEnvC sc (az env sc) C env)) R s :=
 bD (p:=fun p=>Gr.Gq p.1 p.2.1 p.2.2.1 p.2.2.2.1 p.2.2.2.2.1 p.2.2.2.2.2.1 p.2.2.2.2.2.2.1 p.2.2.2.2.2.2.2.1 p.2.2.2.2.2.2.2.2.1 p.2.2.2.2.2.2.2.2.2.1 p.2.2.2.2.2.2.2.2.2.2.1 p.2.2.2.2.2.2.2.2.2.2.2.1 p.2.2.2.2.2.2.2.2.2.2.2.2.1 p.2.2.2.2.2.2.2.2.2.2.2.2.2.1 p.2.2.2.2.2.2.2.2.2.2.2.2.2.2.1 p.2.2.2.2.2.2.2.2.2.2.2.2.2.2.2.1 p.2.2.2.2.2.2.2.2.2.2.2.2.2.2.2.2.1 p.2.2.2.2.2.2.2.2.2.2.2.2.2.2.2.2.2.1 p.2.2.2.2.2.2.2.2.2.2.2.2.2.2.2.2.2.2.1 p.2.2.2.2.2.2.2.2.2.2.2.2.2.2.2.2.2.2.2.1 p.2.2.2.2.2.2.2.2.2.2.2.2.2.2.2.2.2.2.2.2.1 p.2.2.2.2.2.2.2.2.2.2.2.2.2.2.2.2.2.2.2.2.2.1 p.2.2.2.2.2.2.2.2.2.2.2.2.2.2.2.2.2.2.2.2.2.2) Gr.tq (n,A,fs,own,ip,env,σ,g0,s0,ks,sc,C,x,zs,elt,ao,iter,t,ifs,pos,a,p0,R) D o k tr ce ci nd fin m s hI
end
end
end
end Mine
end
section
open PySem PySem.W PyProof.Rows PySem.Calls
namespace Mine
noncomputable section
section
section
variable {n N:Nat} {A:Around} {fs:List Env} {own ow pr W F ip:List Addr} {env:Env} {σ σ':Loc} {g g' g0:Gh} {H H':Hp} {s s' s0:Shared} {h h':Heap} {ks:List (Str × NameKind)} {E:Value -> Shared -> Prop} {sc:Scope} {C D:Addr}
noncomputable def gh (D:Addr) (kvs:List (AK × AV)) (g:Gh) (h:Heap):Prop:=∃ es ep,h.DictAt P.kind D es ep /\ aU P g h kvs es
theorem gh.mono {kvs:List (AK × AV)}:∀ g h g' h',gh D kvs g h -> (∀ (l:Nat) (a:Addr),g.μ[l]? = some a -> g'.μ[l]? = some a) -> (∀ a,g.Z a -> g'.Z a) -> (∀ b o,(g.Z b \/ b = D) -> h.get? b = some o -> h'.get? b = some o) -> gh D kvs g' h' :=
 fun g h g' h' ⟨es,ep,p,r⟩ hm hz hk=>⟨es,ep,p.at fun o=>hk _ o (.inr rfl),r.mono hm hz fun b o z=>hk b o (.inl z)⟩
theorem Cm (kvs:List (AK × AV)) (k:AK) (v:AV):(ae kvs k v).length <= kvs.length + 1:=by unfold ae; split <;> simp
variable {x y:TE} {zs:List TE} {kx vx ao iter:Expr} {t:bq} {ifs:List Expr} {pos:Pos} {a:Addr} {p0:List (AK × AV) -> Hp -> Prop} {R:Result -> Shared -> Prop}
variable (n A fs own env σ g0 s0 C D ip x y t zs ao a p0) in
noncomputable def yw (m':Nat) (s':Shared):Prop:=∃ it g H kvs p,mq (WF n) σ x y t zs m' it kvs H p /\ kvs.length + m' <= lim /\ (∀ vs H,p vs H -> p0 vs H) /\ CB (2 * n + 2 + 2) A fs own env σ g0 s0 (C :: D :: ip) g H s' /\ bE g s'.heap it a ip /\ (∀ x y,it = .zip x y -> ∃ es k p,ao = .Tuple es k p) /\ gh D kvs g s'.heap /\ ∃ mm,s'.heap.Ns C mm
end
end
namespace Gp
noncomputable def Gq (n:Nat) (A:PySem.Around) (fs:List PySem.Env) (own:List PySem.Addr) (ip:List PySem.Addr) (env:PySem.Env) (σ:Mine.Loc) (g0:Mine.Gh) (s0:PySem.Shared) (ks:List (PySem.Str × PySem.NameKind)) (sc:PySem.Scope) (C:PySem.Addr) (x:Mine.TE) (y:Mine.TE) (zs:List Mine.TE) (kx:PySem.Expr) (vx:PySem.Expr) (ao:PySem.Expr) (iter:PySem.Expr) (t:Mine.bq) (ifs:List PySem.Expr) (pos:PySem.Pos) (a:PySem.Addr) (p0:List (Mine.AK × Mine.AV) -> Mine.Hp -> Prop) (R:PySem.Result -> PySem.Shared -> Prop):Prop:=∀ (D:PySem.Addr) (o:fY ks sc t) (k:Kn ks env) (tr:fX sc.names ao t) (ck:Good n 1 sc.names kx x) (cv:Good n 1 sc.names vx y) (ci:jY n 1 sc.names ifs zs) (nd:C ∉ D :: ip /\ D ∉ ip) (fin:∀ tot H s',p0 tot H -> yy (2 * n + 2 + 2) A fs own env σ g0 s0 C D (gh D tot) H s' -> R (.ok .next) s') (m:Nat) (s:Shared) (hI:yw n A fs own ip env σ g0 s0 C D x y zs ao t a p0 m s),codeAny P.M A (.compLoop (.DictComp kx vx [⟨ao,iter,ifs,0⟩] sc pos) 0 (.ref a) (.ref D) (compEnvC sc (az env sc) C env)) R s
noncomputable def kq:Nat × PySem.Around × List PySem.Env × List PySem.Addr × List PySem.Addr × PySem.Env × Mine.Loc × Mine.Gh × PySem.Shared × List (PySem.Str × PySem.NameKind) × PySem.Scope × PySem.Addr × Mine.TE × Mine.TE × List Mine.TE × PySem.Expr × PySem.Expr × PySem.Expr × PySem.Expr × Mine.bq × List PySem.Expr × PySem.Pos × PySem.Addr × (List (Mine.AK × Mine.AV) -> Mine.Hp -> Prop) × (PySem.Result -> PySem.Shared -> Prop):=cx fun p=>Gq p.1 p.2.1 p.2.2.1 p.2.2.2.1 p.2.2.2.2.1 p.2.2.2.2.2.1 p.2.2.2.2.2.2.1 p.2.2.2.2.2.2.2.1 p.2.2.2.2.2.2.2.2.1 p.2.2.2.2.2.2.2.2.2.1 p.2.2.2.2.2.2.2.2.2.2.1 p.2.2.2.2.2.2.2.2.2.2.2.1 p.2.2.2.2.2.2.2.2.2.2.2.2.1 p.2.2.2.2.2.2.2.2.2.2.2.2.2.1 p.2.2.2.2.2.2.2.2.2.2.2.2.2.2.1 p.2.2.2.2.2.2.2.2.2.2.2.2.2.2.2.1 p.2.2.2.2.2.2.2.2.2.2.2.2.2.2.2.2.1 p.2.2.2.2.2.2.2.2.2.2.2.2.2.2.2.2.2.1 p.2.2.2.2.2.2.2.2.2.2.2.2.2.2.2.2.2.2.1 p.2.2.2.2.2.2.2.2.2.2.2.2.2.2.2.2.2.2.2.1 p.2.2.2.2.2.2.2.2.2.2.2.2.2.2.2.2.2.2.2.2.1 p.2.2.2.2.2.2.2.2.2.2.2.2.2.2.2.2.2.2.2.2.2.1 p.2.2.2.2.2.2.2.2.2.2.2.2.2.2.2.2.2.2.2.2.2.2.1 p.2.2.2.2.2.2.2.2.2.2.2.2.2.2.2.2.2.2.2.2.2.2.2.1 p.2.2.2.2.2.2.2.2.2.2.2.2.2.2.2.2.2.2.2.2.2.2.2.2
noncomputable def n:=kq.1
noncomputable def A:=kq.2.1
noncomputable def fs:=kq.2.2.1
noncomputable def own:=kq.2.2.2.1
noncomputable def ip:=kq.2.2.2.2.1
noncomputable def env:=kq.2.2.2.2.2.1
noncomputable def σ:=kq.2.2.2.2.2.2.1
noncomputable def g0:=kq.2.2.2.2.2.2.2.1
noncomputable def s0:=kq.2.2.2.2.2.2.2.2.1
noncomputable def ks:=kq.2.2.2.2.2.2.2.2.2.1
noncomputable def sc:=kq.2.2.2.2.2.2.2.2.2.2.1
noncomputable def C:=kq.2.2.2.2.2.2.2.2.2.2.2.1
noncomputable def x:=kq.2.2.2.2.2.2.2.2.2.2.2.2.1
noncomputable def y:=kq.2.2.2.2.2.2.2.2.2.2.2.2.2.1
noncomputable def zs:=kq.2.2.2.2.2.2.2.2.2.2.2.2.2.2.1
noncomputable def kx:=kq.2.2.2.2.2.2.2.2.2.2.2.2.2.2.2.1
noncomputable def vx:=kq.2.2.2.2.2.2.2.2.2.2.2.2.2.2.2.2.1
noncomputable def ao:=kq.2.2.2.2.2.2.2.2.2.2.2.2.2.2.2.2.2.1
noncomputable def iter:=kq.2.2.2.2.2.2.2.2.2.2.2.2.2.2.2.2.2.2.1
noncomputable def t:=kq.2.2.2.2.2.2.2.2.2.2.2.2.2.2.2.2.2.2.2.1
noncomputable def ifs:=kq.2.2.2.2.2.2.2.2.2.2.2.2.2.2.2.2.2.2.2.2.1
noncomputable def pos:=kq.2.2.2.2.2.2.2.2.2.2.2.2.2.2.2.2.2.2.2.2.2.1
noncomputable def a:=kq.2.2.2.2.2.2.2.2.2.2.2.2.2.2.2.2.2.2.2.2.2.2.1
noncomputable def p0:=kq.2.2.2.2.2.2.2.2.2.2.2.2.2.2.2.2.2.2.2.2.2.2.2.1
noncomputable def R:=kq.2.2.2.2.2.2.2.2.2.2.2.2.2.2.2.2.2.2.2.2.2.2.2.2
theorem tq:Gq n A fs own ip env σ g0 s0 ks sc C x y zs kx vx ao iter t ifs pos a p0 R:=by
 intro D o k tr ck cv ci nd fin m s hI
 refine codeAny_loop rfl (yw n A fs own ip env σ g0 s0 C D x y zs ao t a p0) (fun m s hI=>?_) m hI
 obtain ⟨it,g,H,kvs,p,e,hlim,hp,cb,ri,hz,acc,hC⟩:=hI
 show wpAny _ A ((compTurn (.DictComp kx vx [⟨ao,iter,ifs,0⟩] sc pos) 0 (.ref a) (.ref D) (compEnvC sc (az env sc) C env)).onRaise (fun x=>do noteFrame x _; theTreesLotGoes x)) _ _ s
 refine wpAny_noted ?_
 rw [compTurn_dict]
 cases m with
 | zero=>exact e.elim
 | succ m=>
 have body:=zF (Qn:=fun s'=>R (.ok .next) s')
  (Qt:=fun ok s₃=>if ok = true then wpAny P.M A (eval kx (compEnvC sc (az env sc) C env)) (fun kv s₄=>wpAny P.M A (eval vx (compEnvC sc (az env sc) C env)) (fun vv s₅=>wpAny P.M A (dictSet D kv vv) (fun _ s₆=>∃ m',m' < m + 1 /\ yw n A fs own ip env σ g0 s0 C D x y zs ao t a p0 m' s₆) (notedBy P.M A (compEnvC sc (az env sc) C env) fun e s'=>R (.error e) s') s₅) (notedBy P.M A (compEnvC sc (az env sc) C env) fun e s'=>R (.error e) s') s₄) (notedBy P.M A (compEnvC sc (az env sc) C env) fun e s'=>R (.error e) s') s₃
   else ∃ m',m' < m + 1 /\ yw n A fs own ip env σ g0 s0 C D x y zs ao t a p0 m' s₃)
  (E:=notedBy P.M A (compEnvC sc (az env sc) C env) fun e s'=>R (.error e) s') (E':=notedBy P.M A (compEnvC sc (az env sc) C env) fun e s'=>R (.error e) s')
  o k tr ci nd cb ri hz (gh D kvs) gh.mono acc hC e ?_ ?_
 ·refine wpAny_bind (wpAny_standAt (wpAny_bind (wpAny_mono body (fun r s₁ h₁=>?_) fun _ _ h'=>h')))
  cases r with
  | none=>exact wpAny_pure h₁
  | some v=>
   refine wpAny_bind (wpAny_mono h₁ (fun _ s₂ h₂=>wpAny_bind (wpAny_mono h₂ (fun _ s₃ h₃=>wpAny_bind (wpAny_mono h₃ (fun ok s₄ h₄=>?_) fun _ _ h'=>h')) fun _ _ h'=>h')) fun _ _ h'=>h')
   cases ok with
   | false=>exact wpAny_pure ⟨rfl,h₄⟩
   | true=>exact wpAny_bind (wpAny_bind (wpAny_mono h₄ (fun kv s₅ h₅=>wpAny_bind (wpAny_holding (wpAny_mono h₅ (fun vv s₆ h₆=>wpAny_bind (wpAny_standAt (wpAny_holding (wpAny_mono h₆ (fun _ s₇ h₇=>wpAny_pure ⟨rfl,h₇⟩) fun _ _ h'=>h')))) fun _ _ h'=>h'))) fun _ _ h'=>h'))
 ·intro hr s' hh ha hac hc' ho
  exact fin kvs H s' (hp _ H hr) ⟨g,hh,ha,hac,hc',ho⟩
 ·intro σ' it' b t1 e jV wN hz1 rU xP hc1
  cases b with
  | false=>exact ⟨m,Nat.lt_succ_self _,it',t1.g,t1.H,kvs,p,e,Nat.le_of_succ_le hlim,hp,jV,wN,hz1,rU,xP⟩
  | true=>
   show wpAny P.M A (eval kx _) _ _ _
   refine ck.ev ⟨A,fs,C :: own,compEnvC sc (az env sc) C env⟩ σ' t1 _ ee _ _ hc1 e ⟨fun v u t2 e2 a2 r2=>?_,fun _ _ _ z=>z.elim⟩
   have hc2:=hc1.after a2
   refine cv.ev ⟨A,fs,C :: own,compEnvC sc (az env sc) C env⟩ σ' t2 _ ee _ _ hc2 e2 ⟨fun w u' t3 e3 a3 r3=>aW e3 fun key hkey e=>?_,fun _ _ _ z=>z.elim⟩
   have r2':=hc2.vr a3 r2
   have a2:After (frs fs) t1.g.μ t1.g t1.s t2.g t2.H t2.s:=a2
   have a3:After (frs fs) t2.g.μ t2.g t2.s t3.g t3.H t3.s:=a3
   have gw:=jV.step a2
   have pn:=gw.step a3
   have As:=a2.then a3
   have Pw:gh D kvs t3.g t3.s.heap:=gh.mono _ _ _ _ rU (fun l a e=>As.le.get e) As.le.Z fun b o w e=>by
    rcases w with w | rfl
    ·exact As.keep.same b o e (jV.here.apart b w).1 (jV.here.apart b w).2
    ·exact jV.keeps As b (by simp) o e
   have JD:bE t3.g t3.s.heap it' a ip:=wN.after As jV.here.apart fun b hb=>by
    have:=(jV.a8 b (by simp [hb])).2.1
    exact ⟨this.2.1,this.2.2.2.1⟩
   have Q7:∃ mm,t3.s.heap.Ns C mm:=by
    obtain ⟨mm,j3⟩:=xP
    exact ⟨mm,dB j3 fun o e=>⟨o.slots,jV.keeps As C (by simp) o e⟩⟩
   obtain ⟨es,ep,da,rk⟩:=Pw
   have hlen:=rk.length
   have hpl:=Cm kvs key w
   have oD:=(pn.a8 D (by simp)).2.1
   refine tN (knd:=P.kind) (iB hkey r2') da (cP (by omega)) fun h' j5 d' RP sb=>?_
   have kp:∀ b o,b ∉ [D] -> t3.s.heap.get? b = some o -> h'.get? b = some o:=fun b o m e=>(sb.2 b (by simpa using m)).trans e
   have LD:CB (2 * n + 2 + 2) A fs own env σ g0 s0 (C :: D :: ip) t3.g t3.H { t3.s with heap:=h',toks:=t3.s.toks + 1 }:=pn.off kp (fun b hb=>by simp at hb; subst hb; simp) fun b hb=>by simp at hb; subst hb; obtain ⟨o,_,e,_⟩:=d'; exact ⟨_,e⟩
   have kz:∀ b o,t3.g.Z b -> t3.s.heap.get? b = some o -> h'.get? b = some o:=fun b o z e=>kp b o (fun m=>by simp at m; subst m; exact oD.1 z) e
   refine ⟨m,Nat.lt_succ_self _,it',t3.g,t3.H,ae kvs key w,p,e,by omega,hp,LD,JD.mono (fun _ _ e=>e) (fun _ z=>z) kz fun b hb o e=>kp b o (fun m=>by simp at m; subst m; exact nd.2 hb) e,hz1,⟨stored es key u',j5,d',?_⟩,?_⟩
   ·exact (rk.put key r3).mono (g:=t3.g) (fun _ _ e=>e) (fun _ z=>z) kz
   ·obtain ⟨mm,j3⟩:=Q7
    exact ⟨mm,dB j3 fun o e=>⟨o.slots,kp C o (fun m=>by simp at m; exact nd.1 (by simp [m])) e⟩⟩
end Gp
section
section
variable {n N:Nat} {A:Around} {fs:List Env} {own ow pr W F ip:List Addr} {env:Env} {σ σ':Loc} {g g' g0:Gh} {H H':Hp} {s s' s0:Shared} {h h':Heap} {ks:List (Str × NameKind)} {E:Value -> Shared -> Prop} {sc:Scope} {C D:Addr}
variable {x y:TE} {zs:List TE} {kx vx ao iter:Expr} {t:bq} {ifs:List Expr} {pos:Pos} {a:Addr} {p0:List (AK × AV) -> Hp -> Prop} {R:Result -> Shared -> Prop}
theorem zu (o:fY ks sc t) (k:Kn ks env) (tr:fX sc.names ao t) (ck:Good n 1 sc.names kx x) (cv:Good n 1 sc.names vx y) (ci:jY n 1 sc.names ifs zs) (nd:C ∉ D :: ip /\ D ∉ ip) (fin:∀ tot H s',p0 tot H -> yy (2 * n + 2 + 2) A fs own env σ g0 s0 C D (gh D tot) H s' -> R (.ok .next) s') (m:Nat) (s:Shared) (hI:yw n A fs own ip env σ g0 s0 C D x y zs ao t a p0 m s):codeAny P.M A (.compLoop (.DictComp kx vx [⟨ao,iter,ifs,0⟩] sc pos) 0 (.ref a) (.ref D) (compEnvC sc (az env sc) C env)) R s :=
 bD (p:=fun p=>Gp.Gq p.1 p.2.1 p.2.2.1 p.2.2.2.1 p.2.2.2.2.1 p.2.2.2.2.2.1 p.2.2.2.2.2.2.1 p.2.2.2.2.2.2.2.1 p.2.2.2.2.2.2.2.2.1 p.2.2.2.2.2.2.2.2.2.1 p.2.2.2.2.2.2.2.2.2.2.1 p.2.2.2.2.2.2.2.2.2.2.2.1 p.2.2.2.2.2.2.2.2.2.2.2.2.1 p.2.2.2.2.2.2.2.2.2.2.2.2.2.1 p.2.2.2.2.2.2.2.2.2.2.2.2.2.2.1 p.2.2.2.2.2.2.2.2.2.2.2.2.2.2.2.1 p.2.2.2.2.2.2.2.2.2.2.2.2.2.2.2.2.1 p.2.2.2.2.2.2.2.2.2.2.2.2.2.2.2.2.2.1 p.2.2.2.2.2.2.2.2.2.2.2.2.2.2.2.2.2.2.1 p.2.2.2.2.2.2.2.2.2.2.2.2.2.2.2.2.2.2.2.1 p.2.2.2.2.2.2.2.2.2.2.2.2.2.2.2.2.2.2.2.2.1 p.2.2.2.2.2.2.2.2.2.2.2.2.2.2.2.2.2.2.2.2.2.1 p.2.2.2.2.2.2.2.2.2.2.2.2.2.2.2.2.2.2.2.2.2.2.1 p.2.2.2.2.2.2.2.2.2.2.2.2.2.2.2.2.2.2.2.2.2.2.2.1 p.2.2.2.2.2.2.2.2.2.2.2.2.2.2.2.2.2.2.2.2.2.2.2.2) Gp.tq (n,A,fs,own,ip,env,σ,g0,s0,ks,sc,C,x,y,zs,kx,vx,ao,iter,t,ifs,pos,a,p0,R) D o k tr ck cv ci nd fin m s hI
theorem z9 {it:It} {a:Addr} (r:bE g s.heap it a pr) {Q:Value -> Shared -> Prop} (q:Q (.ref a) s):wpAny P.M A (pyIter (.ref a)) Q E s:=by
 cases r with
 | sim r=>
  cases r with
  | lst _ x=>exact wpAny_pyIter_listiter x q
  | ah _ _ _ x=>exact wpAny_pyIter_listiter x q
  | tup _ _ _ x=>exact wpAny_pyIter_tupleiter x q
 | uS x=>exact wpAny_pyIter_rangeiter x q
 | mT _ _ _ x=>exact wpAny_pyIter_keyiter x q
 | keys _ x=>exact wpAny_pyIter_keyiter x q
 | bytes x=>exact KBw.pyIter_self x q
 | rev _ _ _ _ x=>exact wpAny_pyIter_revIter x q
 | zip hz _ _ _ _ _=>exact wpAny_pyIter_zip hz q
end
end
end
end Mine
end
section
open PySem PySem.W PyProof.Rows PySem.Calls
namespace Mine
noncomputable section
section
structure Made (N:Nat) (X:Cx) (σ:Loc) (t0:St) (C D:Addr) (a:AV) (t:St):Prop where
 here:Here N X.A X.fs X.own X.env σ t.g t.H t.s
 af:fJ X t0 t
 vr:VR P t.g t.s.heap a (.ref D)
 ns:∃ mm,t.s.heap.Ns C mm
 off:Off X.own X.fs t.g C
 fresh:t0.s.heap.get? C = none
section
variable {N:Nat} {X:Cx} {σ:Loc} {t0 t:St} {C D:Addr} {H:Hp} {s:Shared} {h':Heap} {a:AV}
noncomputable abbrev B5 (N:Nat) (X:Cx) (σ:Loc) (t0:St) (C D:Addr) (Acc:Gh -> Heap -> Prop) (H:Hp) (s:Shared):Prop:=yy N X.A X.fs X.own X.env σ t0.g t0.s C D Acc H s
end
end
namespace Gm
noncomputable def Gq (N:Nat) (X:Mine.Cx) (σ:Mine.Loc) (t0:Mine.St) (C:PySem.Addr) (D:PySem.Addr) (H:Mine.Hp) (s:PySem.Shared) (xs:List Mine.AV) (p:Mine.AP):Prop:=∀ (fz:Bool) (e:mw fz xs H p) (c:B5 N X σ t0 C D (eO D xs) H s) (qV:C ≠ D),∃ a t',t'.s = s /\ p a t'.H /\ Made N X σ t0 C D a t'
noncomputable def kq:Nat × Mine.Cx × Mine.Loc × Mine.St × PySem.Addr × PySem.Addr × Mine.Hp × PySem.Shared × List Mine.AV × Mine.AP:=cx fun p=>Gq p.1 p.2.1 p.2.2.1 p.2.2.2.1 p.2.2.2.2.1 p.2.2.2.2.2.1 p.2.2.2.2.2.2.1 p.2.2.2.2.2.2.2.1 p.2.2.2.2.2.2.2.2.1 p.2.2.2.2.2.2.2.2.2
noncomputable def N:=kq.1
noncomputable def X:=kq.2.1
noncomputable def σ:=kq.2.2.1
noncomputable def t0:=kq.2.2.2.1
noncomputable def C:=kq.2.2.2.2.1
noncomputable def D:=kq.2.2.2.2.2.1
noncomputable def H:=kq.2.2.2.2.2.2.1
noncomputable def s:=kq.2.2.2.2.2.2.2.1
noncomputable def xs:=kq.2.2.2.2.2.2.2.2.1
noncomputable def p:=kq.2.2.2.2.2.2.2.2.2
theorem tq:Gq N X σ t0 C D H s xs p:=by
 intro fz e c qV
 obtain ⟨g,x,af,⟨us,hd,r⟩,hC,of⟩:=c
 obtain ⟨oC,fC⟩:=of C (by simp)
 obtain ⟨⟨hz,hμ,ho,hf,hs⟩,hn⟩:=of D (by simp)
 have hl:∃ o,s.heap.get? D = some o:=let ⟨n,e⟩:=hd; ⟨_,e⟩
 cases fz with
 | true=>exact ⟨_,⟨g.freeze D,H,s⟩,rfl,e,x.freeze hl hμ ho hf,af.freeze hl hn hμ,.ah (.inr rfl) hd r.freeze,hC,⟨fun z=>z.elim oC.1 qV,oC.2⟩,fC⟩
 | false=>
  have ON:=af.add hl hn hμ hz hs (.list hd r)
  refine ⟨_,⟨g.add D,_,s⟩,rfl,e,⟨ON.inv,?_,x.frames,x.handled,x.depth,x.units,x.gens⟩,ON,.lst (x.inv.rM D),hC,⟨oC.1,fun m=>(List.mem_append.mp m).elim oC.2.1 fun m=>qV (by simpa using m),oC.2.2⟩,fC⟩
  have m:=x.fm
  have nm:∀ {b},b ≠ D -> b ∉ g.μ -> b ∉ (g.add D).μ:=fun h k m=>(List.mem_append.mp m).elim k fun m=>h (by simpa using m)
  exact ⟨m.kind,m.jC,m.globals,m.builtins,m.eU,m.du,fun b hb=>⟨(m.ownOut b hb).1,nm (fun q=>ho (q ▸ hb)) (m.ownOut b hb).2.1,(m.ownOut b hb).2.2⟩,fun b hb=>⟨(m.bH b hb).1,nm (fun q=>hf (q ▸ hb)) (m.bH b hb).2⟩,m.frames,m.isFrame,m.dO,m.fy,m.cells,let ⟨mm,hn,hv⟩:=m.vals; ⟨mm,hn,fun x v e=>let ⟨u,r,w⟩:=hv x v e; ⟨u,r.add,w⟩⟩⟩
end Gm
section
section
variable {N:Nat} {X:Cx} {σ:Loc} {t0 t:St} {C D:Addr} {H:Hp} {s:Shared} {h':Heap} {a:AV}
theorem BX {fz:Bool} {xs:List AV} {p:AP} (e:mw fz xs H p) (c:B5 N X σ t0 C D (eO D xs) H s) (qV:C ≠ D):∃ a t',t'.s = s /\ p a t'.H /\ Made N X σ t0 C D a t' :=
 bD (p:=fun p=>Gm.Gq p.1 p.2.1 p.2.2.1 p.2.2.2.1 p.2.2.2.2.1 p.2.2.2.2.2.1 p.2.2.2.2.2.2.1 p.2.2.2.2.2.2.2.1 p.2.2.2.2.2.2.2.2.1 p.2.2.2.2.2.2.2.2.2) Gm.tq (N,X,σ,t0,C,D,H,s,xs,p) fz e c qV
theorem BY {xs:List (AK × AV)} (c:B5 N X σ t0 C D (gh D xs) H s) (qV:C ≠ D):∃ t',t'.s = s /\ t'.H = H /\ Made N X σ t0 C D (.aj xs) t':=by
 obtain ⟨g,x,af,⟨es,ep,hd,r⟩,hC,of⟩:=c
 obtain ⟨oC,fC⟩:=of C (by simp)
 obtain ⟨⟨hz,hμ,ho,hf,hs⟩,hn⟩:=of D (by simp)
 have hl:∃ o,s.heap.get? D = some o:=let ⟨o,_,e,_⟩:=hd; ⟨o,e⟩
 exact ⟨⟨g.freeze D,H,s⟩,rfl,rfl,x.freeze hl hμ ho hf,af.freeze hl hn hμ,.aj (beq_false_of_ne hs) (.inr rfl) hd r.freeze,hC,⟨fun z=>z.elim oC.1 qV,oC.2⟩,fC⟩
theorem Made.letGo (m:Made N X σ t0 C D a t) (sb:Heap.SameBut C t.s.heap h'):fJ X t0 ⟨t.g,t.H,{ t.s with heap:=h' }⟩ /\ VR P t.g h' a (.ref D):=by
 have kp:∀ b o,b ∉ [C] -> t.s.heap.get? b = some o -> h'.get? b = some o:=fun b o m e=>(sb.2 b (by simpa using m)).trans e
 exact ⟨m.af.off (t:=t.s.toks) kp fun b hb=>by simp at hb; subst hb; exact ⟨m.fresh,m.off.1,m.off.2.1,m.off.2.2.2.2⟩,m.vr.mono (fun _ _ e=>e) (fun _ z=>z) fun b o z e=>kp b o (fun q=>m.off.1 (by simp at q; exact q ▸ z)) e⟩
end
noncomputable def pB (n:Nat) (ks:List (Str × NameKind)) (cm:Env -> Option (Value -> Sem Unit) -> Sem Value) (x:TE):Prop:=∀ X σ t0 (p:AP) (ex:EP) use (Q R:Value -> Shared -> Prop),At (2 * n + 2 + 2) ks X σ t0 -> x (WF n) σ t0.H p ex -> (∀ c x t',ex c t'.H -> fJ X t0 t' -> kY t0.s.heap t'.g c t'.s.heap x -> R x t'.s) ->
 (∀ C D a t',p a t'.H -> Made (2 * n + 2 + 2) X σ t0 C D a t' -> compPost P.M X.A R use Q (.ref D) C (.ok .next) t'.s) -> wpAny P.M X.A (cm X.env use) Q R t0.s
theorem pB.good {n:Nat} {ks:List (Str × NameKind)} {cm:Env -> Option (Value -> Sem Unit) -> Sem Value} {x:TE} {e:Expr} (u:pB n ks cm x) (h:∀ env,eval e env = cm env none) (sh:Shape e) (w:∀ env,isTrue e env (eval e env) = (do let v ← eval e env; standAt e.pos; holding [v] (PySem.truthy v))):Good n 2 ks e x :=
 .val (fun X σ t0 p ex Q R a q f=>by
  rw [h]
  refine u X σ t0 p ex none Q R a q f.exc fun C D a t' q m=>?_
  obtain ⟨mm,hm⟩:=m.ns
  refine ⟨mm,hm,fun h' sb=>?_⟩
  obtain ⟨a1,r1⟩:=m.letGo sb
  exact f.ok a _ ⟨t'.g,t'.H,_⟩ q a1 r1) sh w
end
end
end Mine
end
section
open PySem PySem.W PyProof.Rows PySem.Calls
namespace Mine
noncomputable section
section
section
variable {n:Nat} {X:Cx} {σ:Loc} {t0:St} {ks:List (Str × NameKind)} {sc:Scope} {E:Value -> Shared -> Prop} {zp:Prop}
theorem tP {ao iter:Expr} {y:TI} {t:bq} {e:Expr} {pos:Pos} {newAcc:Sem Value} {dat:Obj} {use:Option (Value -> Sem Unit)} {Q:Value -> Shared -> Prop} {ifs:List Expr} {p:It -> Hp -> Prop} {ex:EP}
  (hf:∀ env v,foldedSetIterable iter env v = pure v) (gi:pC n 2 ks zp iter y) (mf:zp -> ∃ es k p,ao = .Tuple es k p) (o:fY ks sc t) (h:At (2 * n + 2 + 2) ks X σ t0)
  (hcl:clausesOf e = [⟨ao,iter,ifs,0⟩]) (hacc:∀ {s:Shared} {Q:Value -> Shared -> Prop},Q (.ref s.heap.objs.size) { s with heap:=s.heap.push dat } -> wpAny P.M X.A newAcc Q E s) (hdat:dat.isFreed = false)
  (q:y (WF n) σ t0.H p ex) (fx:∀ c x t',ex c t'.H -> fJ X t0 t' -> kY t0.s.heap t'.g c t'.s.heap x -> E x t'.s)
  (start:∀ (it:It) (t1:St) (a:Addr) (ip:List Addr) (C D:Addr),p it t1.H -> bE t1.g t1.s.heap it a ip -> CB (2 * n + 2 + 2) X.A X.fs X.own X.env σ t0.g t0.s (C :: D :: ip) t1.g t1.H t1.s -> (∀ x y,it = .zip x y -> ∃ es k p,ao = .Tuple es k p) -> C ∉ D :: ip /\ D ∉ ip -> t1.s.heap.get? D = some dat -> (∃ mm,t1.s.heap.Ns C mm) ->
   codeAny P.M X.A (.compStart e 0 (.ref a) (.ref D) (compEnvC sc (az X.env sc) C X.env)) (compPost P.M X.A E use Q (.ref D) C) t1.s) :
  wpAny P.M X.A (comprehension e sc X.env pos newAcc false (eval iter X.env) use) Q E t0.s:=by
 refine wpAny_comprehension_free (use:=use) hcl (hf _) (o.closure h.kn) o.kind (fun x hx q=>q ▸ sM o.nodup hx) ?_
 refine gi X σ t0 p ex _ E h q ⟨fun it u t1 q a1 r1=>?_,fx⟩
 have a1:After (frs X.fs) t0.g.μ t0.g t0.s t1.g t1.H t1.s:=a1
 obtain ⟨a,ip,rfl,ri,hp,zz⟩:=r1
 refine hacc ?_
 generalize hD:t1.s.heap.objs.size = D
 have fD:t1.s.heap.get? D = none:=by rw [← hD]; exact ba _
 have gD:(t1.s.heap.push dat).get? D = some dat:=by rw [← hD]; exact Heap.get?_push_size _ hdat
 refine wpAny_newFunctionEnv (fun x hx=>o.sC x hx) (fun x hx=>by cases hx) (fun h₁ hns Hs=>?_) o.kind
 dsimp only at hns Hs ⊢
 generalize hC:(t1.s.heap.push dat).objs.size = C at hns Hs ⊢
 have Lk:(t1.s.heap.push dat).get? C = none:=by rw [← hC]; exact ba _
 have fC:t1.s.heap.get? C = none:=by
  cases q:t1.s.heap.get? C with
  | none=>rfl
  | some o'=>have:=Heap.get?_push_of_some dat q; rw [Lk] at this; cases this
 have qV:C ≠ D:=fun q=>by rw [q,gD] at Lk; cases Lk
 have kp:∀ b o,t1.s.heap.get? b = some o -> h₁.get? b = some o:=fun b o e=>Hs.extBut b o (fun q=>aX e (q ▸ fC)) (Heap.get?_push_of_some _ (Heap.get?_push_of_some _ e))
 have Oi:h₁.get? D = some dat:=Hs.extBut D _ (Ne.symm qV) (Heap.get?_push_of_some _ gD)
 have a2:After (frs X.fs) t1.g.μ t1.g t1.s t1.g t1.H { t1.s with heap:=h₁,toks:=t1.s.toks + ([]:List (Str × Value)).length }:=.grow a1.inv kp
 have D9:=a1.then a2
 have h1:=h.here.after a1
 have h12:=h.here.after D9
 have off:∀ b,t1.s.heap.get? b = none -> Off X.own X.fs t1.g b:=fun b hb=>by
  obtain ⟨q1,q2⟩:=a1.inv.fresh hb
  refine ⟨q2,q1,fun m=>?_,fun m=>?_,a1.inv.pM hb⟩
  ·obtain ⟨_,_,o,e⟩:=h1.fm.ownOut b m; exact aX e hb
  ·obtain ⟨_,o,e,_⟩:=Heap.FunFrames.mem h1.fm.frames m; exact aX e hb
 have lives:=ri.lives
 have wN:bE t1.g h₁ it a ip:=ri.mono (fun _ _ e=>e) (fun _ z=>z) (fun b o _ e=>kp b o e) fun b _ o e=>kp b o e
 refine start it ⟨t1.g,t1.H,_⟩ a ip C D q wN ⟨h12,D9,fun b hb=>?_⟩ (fun x y w=>mf (zz x y w)) ⟨fun m=>?_,fun m=>?_⟩ Oi ⟨_,hns⟩
 ·rcases List.mem_cons.mp hb with rfl | hb
  ·obtain ⟨oo,es,ep,e,_⟩:=hns
   exact ⟨a1.keep.fresh fC,off _ fC,oo,e⟩
  ·rcases List.mem_cons.mp hb with rfl | hb
   ·exact ⟨a1.keep.fresh fD,off _ fD,_,Oi⟩
   ·obtain ⟨q1,q2,q3,q4⟩:=hp b hb
    obtain ⟨oo,e⟩:=lives b hb
    refine ⟨q1,⟨q2,q3,fun m=>?_,fun m=>?_,q4⟩,oo,kp b oo e⟩
    ·obtain ⟨_,_,o,e⟩:=h.here.fm.ownOut b m; exact aX e q1
    ·obtain ⟨_,o,e,_⟩:=Heap.FunFrames.mem h.here.fm.frames m; exact aX e q1
 ·rcases List.mem_cons.mp m with m | m
  ·exact qV m
  ·obtain ⟨oo,e⟩:=lives C m; exact aX e fC
 ·obtain ⟨oo,e⟩:=lives D m; exact aX e fD
end
end
end
end Mine
end
section
open PySem PySem.W PyProof.Rows PySem.Calls
namespace Mine
noncomputable section
section
section
variable {n:Nat} {X:Cx} {σ:Loc} {t0:St} {ks:List (Str × NameKind)} {sc:Scope} {E:Value -> Shared -> Prop} {zp:Prop}
variable {elt ao iter:Expr} {ifs:List Expr} {pos pos':Pos} {x:TE} {t:bq} {y:TI} {zs:List TE} {fz:Bool}
theorem EC (hf:∀ env v,foldedSetIterable iter env v = pure v) (gi:pC n 2 ks zp iter y) (mf:zp -> ∃ es k p,ao = .Tuple es k p) (o:fY ks sc t) (tr:fX sc.names ao t) (ce:Good n 1 sc.names elt x) (ci:jY n 1 sc.names ifs zs) :
  pB n ks (fun env use=>comprehension (.ListComp elt [⟨ao,iter,ifs,0⟩] sc pos) sc env pos' (newList []) false (eval iter env) use) (.comp fz x t y zs):=fun X σ t0 p ex use Q R h q fx fin=>by
 refine tP (dat:={ cls:=.type "list",data:=.seq #[] }) hf gi mf o h rfl (fun {s Q} q=>?_) rfl q fx fun it t1 a ip C D hk ri cb hz nd hD hC=>?_
 ·unfold newList
  exact wpAny_newObj_type (T:="list") (data:=.seq #[]) q (by simp [sizeOk])
 obtain ⟨k,hk,e⟩:=hk
 have loop:=yR (R:=compPost P.M X.A R use Q (.ref D) C) (elt:=elt) (ao:=ao) (iter:=iter) (ifs:=ifs) (pos:=pos) (p0:=fun vs H=>vs.length <= lim /\ mw fz vs H p) o h.kn tr ce ci nd (fun tot H s' hp _ c=>?_) k t1.s
  ⟨it,t1.g,t1.H,[],_,e,by rw [List.length_nil,Nat.zero_add]; exact hk,fun vs H q=>q,cb,ri,hz,⟨[],⟨0,hD⟩,.nil⟩,hC⟩
 ·exact codeAny_compStart_list loop (z9 ri loop)
 ·obtain ⟨a',t',rfl,q,m⟩:=BX hp.2 c fun q=>nd.1 (by simp [q])
  exact fin C D a' t' q m
end
end
end
end Mine
end
section
open PySem PySem.W PyProof.Rows PySem.Calls
namespace Mine
noncomputable section
section
section
variable {n:Nat} {X:Cx} {σ:Loc} {t0:St} {ks:List (Str × NameKind)} {sc:Scope} {E:Value -> Shared -> Prop} {zp:Prop}
variable {kx vx ao iter:Expr} {ifs:List Expr} {pos pos':Pos} {x x':TE} {t:bq} {y:TI} {zs:List TE}
theorem Cs (hf:∀ env v,foldedSetIterable iter env v = pure v) (gi:pC n 2 ks zp iter y) (mf:zp -> ∃ es k p,ao = .Tuple es k p) (o:fY ks sc t) (tr:fX sc.names ao t) (ck:Good n 1 sc.names kx x) (cv:Good n 1 sc.names vx x') (ci:jY n 1 sc.names ifs zs) :
  pB n ks (fun env use=>comprehension (.DictComp kx vx [⟨ao,iter,ifs,0⟩] sc pos) sc env pos' newDict false (eval iter env) use) (.wx x x' t y zs):=fun X σ t0 p ex use Q R h q fx fin=>by
 refine tP (dat:={ cls:=.type "dict",data:=.dict #[] }) hf gi mf o h rfl (fun {s Q} q=>?_) rfl q fx fun it t1 a ip C D hk ri cb hz nd hD hC=>?_
 ·unfold newDict newObj
  exact wpAny_bind (wpAny_alloc (wpAny_pure q))
 obtain ⟨k,hk,e⟩:=hk
 have loop:=zu (R:=compPost P.M X.A R use Q (.ref D) C) (kx:=kx) (vx:=vx) (ao:=ao) (iter:=iter) (ifs:=ifs) (pos:=pos) (p0:=fun kvs H=>kvs.length <= lim /\ p (.aj kvs) H) o h.kn tr ck cv ci nd (fun tot H s' hp c=>?_) k t1.s
  ⟨it,t1.g,t1.H,[],_,e,by rw [List.length_nil,Nat.zero_add]; exact hk,fun vs H q=>q,cb,ri,hz,⟨[],0,⟨_,_,hD,⟨rfl,rfl,rfl⟩,rfl,fun e he=>by simp at he,.nil,by simp⟩,.nil⟩,hC⟩
 ·exact codeAny_compStart_dict loop (z9 ri loop)
 ·obtain ⟨t',rfl,rfl,m⟩:=BY c fun q=>nd.1 (by simp [q])
  exact fin C D _ t' hp.2 m
end
end
end
end Mine
end
section
open PySem PySem.W PyProof.Rows PySem.Calls
namespace Mine
noncomputable section
section
section
variable {n:Nat} {A:Around} {fs:List Env} {own ow:List Addr} {env:Env} {σ σ':Loc} {g g':Gh} {H H':Hp} {s s':Shared} {F:List Addr} {ks:List (Str × NameKind)} {E:Value -> Shared -> Prop}
theorem w6 {l:Nat} {f:Expr -> Option Str} (hf:∀ id pos,f (.Name id pos) = if (env.kindOf id == some .local && pos.line == l) = true then some id else none) {es:List Expr} {xs:List Nm} (r:ef ks es xs) :
  (es.filterMap f).length = es.length -> (es.filterMap f).map nm = xs /\ ∀ x ∈ es.filterMap f,env.kindOf x = some .local:=by
 induction r with
 | nil=>exact fun _=>⟨rfl,fun x hx=>by cases hx⟩
 | cons hx _ ih=>
  rename_i x p es xs _
  by_cases q:(env.kindOf x == some .local && p.line == l) = true
  ·rw [List.filterMap_cons_some ((hf x p).trans (if_pos q))]
   intro e
   obtain ⟨h3,h4⟩:=ih (Nat.succ.inj e)
   exact ⟨congrArg (nm x :: ·) h3,List.forall_mem_cons.mpr ⟨eq_of_beq ((Bool.and_eq_true _ _).mp q).1,h4⟩⟩
  ·rw [List.filterMap_cons_none ((hf x p).trans (if_neg q))]
   exact fun e=>absurd e (Nat.ne_of_lt (Nat.lt_succ_of_le (List.length_filterMap_le f es)))
noncomputable def Sw (env:Env) (xs:List Nm) (r:Sem (Option (List Str))):Prop:=r = pure none \/ ∃ names,r = pure (some names) /\ names.map nm = xs /\ ∀ x ∈ names,env.kindOf x = some .local
theorem Sw.ite {xs:List Nm} {c:Prop} [Decidable c] {r1 r2:Sem (Option (List Str))} (h1:c -> Sw env xs r1) (h2:¬ c -> Sw env xs r2):Sw env xs (if c then r1 else r2):=by
 by_cases q:c
 ·rw [if_pos q]; exact h1 q
 ·rw [if_neg q]; exact h2 q
theorem Sw.no {xs:List Nm}:Sw env xs (pure none):=.inl rfl
end
end
namespace Gl
noncomputable def Gq (env:PySem.Env) (ks:List (PySem.Str × PySem.NameKind)) (es:List PySem.Expr) (xs:List Mine.Nm) (kk:Nat) (p:PySem.Pos):Prop:=∀ (value:Expr) (r:ef ks es xs) (hfa:constantsAlone 9 value = false),Sw env xs (swappedStores [.Tuple es kk p] value env)
noncomputable def kq:PySem.Env × List (PySem.Str × PySem.NameKind) × List PySem.Expr × List Mine.Nm × Nat × PySem.Pos:=cx fun p=>Gq p.1 p.2.1 p.2.2.1 p.2.2.2.1 p.2.2.2.2.1 p.2.2.2.2.2
noncomputable def env:=kq.1
noncomputable def ks:=kq.2.1
noncomputable def es:=kq.2.2.1
noncomputable def xs:=kq.2.2.2.1
noncomputable def kk:=kq.2.2.2.2.1
noncomputable def p:=kq.2.2.2.2.2
theorem tq:Gq env ks es xs kk p:=by
 intro value r hfa
 cases value with
 | Tuple vs k2 p2=>
  exact .ite (fun _=>.no) fun _=>.ite (fun _=>.no) fun _=>.ite (fun _=>.no) fun h3=>.ite (fun _=>.no) fun _=>.ite (fun h5=>absurd h5 (Bool.eq_false_iff.mp hfa)) fun _=>
   .inr ⟨_,rfl,w6 (fun _ _=>rfl) r (bne_eq_false_iff_eq.mp (Bool.or_eq_false_iff.mp (Bool.eq_false_iff.mpr h3)).1)⟩
 | _=>exact .no
end Gl
section
section
variable {n:Nat} {A:Around} {fs:List Env} {own ow:List Addr} {env:Env} {σ σ':Loc} {g g':Gh} {H H':Hp} {s s':Shared} {F:List Addr} {ks:List (Str × NameKind)} {E:Value -> Shared -> Prop}
theorem AB {es:List Expr} {xs:List Nm} {kk:Nat} {p:Pos} {value:Expr} (r:ef ks es xs) (hfa:constantsAlone 9 value = false):Sw env xs (swappedStores [.Tuple es kk p] value env) :=
 bD (p:=fun p=>Gl.Gq p.1 p.2.1 p.2.2.1 p.2.2.2.1 p.2.2.2.2.1 p.2.2.2.2.2) Gl.tq (env,ks,es,xs,kk,p) value r hfa
theorem Cb {ns:List Str}:∀ {vs:List AV} {us:List Value} {σ:Loc} {s:Shared} {Q:Unit -> Shared -> Prop},(∀ x ∈ ns,env.kindOf x = some .local /\ nm x ≠ dot0) -> vs.length = ns.length -> Inv g H s.heap -> Fm fs own env σ g s.heap -> aC P g s.heap vs us ->
  (∀ s',After (frs fs) own g s g H s' -> Fm fs own env (((ns.map nm).zip vs).reverse ++ σ) g s'.heap -> Q () s') -> wpAny P.M A (assignInOrder (ns.map fun n=>bindName env n) us) Q E s:=by
 induction ns with
 | nil=>
  intro vs us σ s Q hk hl i m rv hQ
  cases vs with
  | cons _ _=>simp at hl
  | nil=>
   cases rv
   exact wpAny_pure (hQ s (.refl i) (by simpa using m))
 | cons x xs ih=>
  intro vs us σ s Q hk hl i m rv hQ
  cases vs with
  | nil=>simp at hl
  | cons v vs=>
   cases rv with | cons r1 rs=>
   rename_i u us
   show wpAny P.M A (assignInOrder (bindName env x :: xs.map fun n=>bindName env n) (u :: us)) Q E s
   refine wpAny_assignInOrder_more (wpAny_bindName (lj (F:=frs fs) (ow:=own) i m (.inl (hk x (by simp)).1) (hk x (by simp)).2 (fun a ha _=>ha) r1 fun s1 a1 m1=>?_))
   refine ih (fun y hy=>hk y (List.mem_cons_of_mem _ hy)) (by simpa using hl) a1.inv m1 (a1.zE (fun b z=>⟨fun q=>(m.ownOut b q).1 z,fun q=>(m.bH b q).1 z⟩) rs) fun s2 a2 m2=>hQ s2 (a1.trans a2 fun b hb=>.inl hb) ?_
   simpa using m2
theorem CV {k:Nm} {l:Loc} (h:(l.map (·.1)).Nodup):look l.reverse k = look l k:=om h
theorem H9 {α β:Type} {xs:List α} {ys:List β} (h:xs.length = ys.length):xs.reverse.zip ys.reverse = (xs.zip ys).reverse:=(List.reverse_zipWith h).symm
theorem AX {es:List Expr} {xs:List Nm} (r:ef ks es xs):∀ x ∈ xs,x ≠ dot0:=by
 induction r with
 | nil=>intro x hx; cases hx
 | cons h _ ih=>
  intro x hx
  rcases List.mem_cons.mp hx with rfl | hx
  ·exact kR h
  ·exact ih x hx
theorem After.wa {ow:List Addr} (a:After F ow g s g' H' s') (h:∀ b ∈ ow,b ∈ own):After F (own ++ g.μ) g s g' H' s' :=
 ⟨a.inv,a.le,a.keep.weaken fun b hb=>.inl (List.mem_append_left _ (h b hb)),a.gens,a.os⟩
theorem yE (value:Expr) (es:List Expr) (kk:Nat) (p:Pos) (l:Nat):swapsWith value (some (.Tuple es kk p)) l env = pure false:=by cases value <;> rfl
end
section
variable {n:Nat} {ks:List (Str × NameKind)} {x:TE} {v:Expr} {p q:Pos} {kk:Nat}
theorem rE {X:Cx} {σ:Loc} {t:St} {tn:Str} (h:gj n ks X σ t) (hv:isVar ks tn = true) {a:AV} {u:Value} (r:VR P t.g t.s.heap a u) {Q:Unit -> Shared -> Prop} {R:Value -> Shared -> Prop}
  (k:∀ s',fG X t ⟨t.g,t.H,s'⟩ -> Fm X.fs X.own X.env ((nm tn,a) :: σ) t.g s'.heap -> Q () s'):wpAny P.M X.A (storeName X.env tn u) Q R t.s :=
 lj (F:=frs X.fs) (ow:=X.own) h.at_.inv h.fm (h.at_.kn.var hv) (kR hv) (fun a ha _=>ha) r fun s2 a2 m2=>k s2 (a2.wa fun b h=>h) m2
theorem ED {tn:Str} (hv:isVar ks tn = true) (hb:∀ env,swapsWith v (some (.Name tn p)) q.line env = pure false) (gv:Good n 2 ks v x):lg n ks (.Assign [.Name tn p] v q) (.assign (.one (nm tn)) x):=fun X σ t br bk rt ex Q R h o f=>
 wpAny_Assign_Name (gv.ev X σ t _ ex _ R h.at_ o (f.val fun vv u t1 o a r=>rE (h.after a) hv r fun s' a2 m2=>f.n _ ⟨t1.g,t1.H,s'⟩ o (a.toS.dJ a2) m2)) (hb _)
theorem EE {tn:Str} {cm:Env -> Option (Value -> Sem Unit) -> Sem Value} (hv:isVar ks tn = true) (hb:∀ env,∃ b,swapsWith v (some (.Name tn p)) q.line env = pure b) (hu:∀ env u,evalThenUse v env u = (do let _ ← cm env (some u); pure ())) (gv:Good n 2 ks v x) (gu:pB n ks cm x) {X:Cx} {σ:Loc} {t:St} {br bk:LP} {rt:AP} {ex:EP} {Q:PySem.Flow -> Shared -> Prop} {R:Value -> Shared -> Prop} (h:gj n ks X σ t) (o:(.assign (.one (nm tn)) x:TS) (WF n) σ t.H br bk rt ex) (f:Ends X t br bk rt ex Q R):wpAny P.M X.A (PySem.exec (.Assign [.Name tn p] v q) X.env) Q R t.s:=by
 obtain ⟨b,hb⟩:=hb X.env
 cases b with
 | false=>exact wpAny_Assign_Name (gv.ev X σ t _ ex _ R h.at_ o (f.val fun vv u t1 o a r=>rE (h.after a) hv r fun s' a2 m2=>f.n _ ⟨t1.g,t1.H,s'⟩ o (a.toS.dJ a2) m2)) hb
 | true=>
  rw [exec_Assign_Name_used _ _ _ _ hb,hu]
  refine wpAny_bind (wpAny_standAt (wpAny_bind (wpAny_bind (gu X σ t _ ex _ _ _ h.at_ o (fun c x t' o a y=>f.e c x t' o a.toS y) fun C D a t1 o m=>?_))))
  have h1:gj n ks X σ t1:=⟨⟨m.here,h.at_.kn⟩,h.top,h.frame⟩
  show wpAny P.M X.A (assign (.Name tn p) X.env (.ref D)) _ R t1.s
  refine wpAny_assign_Name (rE h1 hv m.vr fun s' a2 m2=>?_)
  obtain ⟨mm,j3⟩:=m.ns
  refine ⟨mm,dB j3 fun o e=>a2.keep.slots _ o e fun w=>(List.mem_append.mp w).elim m.off.2.2.1 m.off.2.1,fun h' sb=>wpAny_pure (wpAny_pure ?_)⟩
  have kp:∀ b o,b ∉ [C] -> s'.heap.get? b = some o -> h'.get? b = some o:=fun b o m e=>(sb.2 b (by simpa using m)).trans e
  exact f.n _ ⟨t1.g,t1.H,{ s' with heap:=h' }⟩ o ((m.af.toS.dJ a2).off (t:=s'.toks) kp fun b hb=>by simp at hb; subst hb; exact ⟨m.fresh,m.off.1,m.off.2.1,m.off.2.2.2.2⟩) (m2.off kp fun b hb=>by simp at hb; subst hb; exact m.off)
theorem Cz {tn:Str} {cm:Env -> Option (Value -> Sem Unit) -> Sem Value} (hv:isVar ks tn = true) (hb:∀ env,∃ b,swapsWith v (some (.Name tn p)) q.line env = pure b) (hu:∀ env u,evalThenUse v env u = (do let _ ← cm env (some u); pure ())) (gv:Good n 2 ks v x) (gu:pB n ks cm x):lg n ks (.Assign [.Name tn p] v q) (.assign (.one (nm tn)) x):=fun X σ t br bk rt ex Q R h o f=>EE hv hb hu gv gu h o f
theorem yK {es:List Expr} {xs:List Nm} (nr:ef ks es xs) (nd:xs.Nodup) (hfa:constantsAlone 9 v = false) (gv:Good n 2 ks v x) {X:Cx} {σ:Loc} {t:St} {br bk:LP} {rt:AP} {ex:EP} {Q:PySem.Flow -> Shared -> Prop} {R:Value -> Shared -> Prop} (h:gj n ks X σ t) (o:(.assign (.many xs) x:TS) (WF n) σ t.H br bk rt ex) (f:Ends X t br bk rt ex Q R):wpAny P.M X.A (PySem.exec (.Assign [.Tuple es kk p] v q) X.env) Q R t.s:=by
 rw [exec_Assign]
 refine wpAny_bind (wpAny_standAt ?_)
 rw [show swapsWithSole [.Tuple es kk p] v q.line X.env = pure false from yE (env:=X.env) v es kk p q.line]
 refine wpAny_bind (wpAny_pure ?_)
 rw [if_neg (by decide)]
 refine wpAny_bind (gv.ev X σ t _ ex _ R h.at_ o (f.val fun vv u t1 o a1 r1=>aW o fun σ' hb o=>?_))
 have h1:=h.after a1
 rcases AB (kk:=kk) (p:=p) (env:=X.env) nr hfa with hw | ⟨names,hw,hn1,hn2⟩
 ·rw [hw]
  refine wpAny_bind (wpAny_pure ?_)
  show wpAny P.M X.A (do assignAll u [assign (.Tuple es kk p) X.env]; pure .next) Q R t1.s
  exact wpAny_bind (show wpAny P.M X.A (assign (.Tuple es kk p) X.env u) _ R t1.s from qh (ao:=.Tuple es kk p) (ow:=X.own) h1.at_.here h1.at_.kn (.many nr nd) (Ow.all _ _ _) (fun _ h=>h) r1 hb fun s2 a2 m2=>wpAny_pure (f.n _ ⟨t1.g,t1.H,s2⟩ o (a1.toS.dJ (a2.wa fun b h=>h)) m2))
 ·rw [hw]
  refine wpAny_bind (wpAny_pure ?_)
  show wpAny P.M X.A (do rule "assign.swapped-stores"; let items ← unpackItems u names.length none; assignInOrder (names.reverse.map fun n=>bindName X.env n) items.reverse; pure .next) Q R t1.s
  refine wpAny_bind (wpAny_rule ?_)
  refine bnd hb fun vs e1 hb=>k8 hb fun hl hb=>?_
  subst hb
  obtain ⟨us,a,rfl,zz,tt,rs⟩:=r1.fV e1
  have hlen:=rs.length
  have hnl:names.length = xs.length:=by rw [← hn1,List.length_map]
  have hsz:names.length = us.toArray.size:=hnl.trans (hl.symm.trans hlen)
  rw [hsz]
  refine wpAny_bind (unpackItems_tuple h1.at_.here.handled tt fun h' eb=>?_)
  have kp:∀ b o,t1.s.heap.get? b = some o -> h'.get? b = some o:=fun b o e=>eb b o (Nat.ne_of_lt (Heap.lt_size e)) e
  have a2:fJ X t1 ⟨t1.g,t1.H,{ t1.s with heap:=h',toks:=t1.s.toks }⟩:=.grow h1.at_.inv kp
  have h2:=h1.after a2
  have JC:=h1.at_.zE a2 rs
  refine wpAny_bind (Cb (s:={ t1.s with heap:=h' }) (ns:=names.reverse) (vs:=vs.reverse) (fun y hy=>⟨hn2 y (List.mem_reverse.mp hy),?_⟩) (by rw [List.length_reverse,List.length_reverse,hnl,hl]) h2.at_.inv h2.fm (by simpa using JC.reverse) fun s3 a3 m3=>wpAny_pure ?_)
  ·exact AX nr _ (by rw [← hn1]; exact List.mem_map.mpr ⟨y,List.mem_reverse.mp hy,rfl⟩)
  ·refine f.n _ ⟨t1.g,t1.H,s3⟩ o ((a1.toS.dJ a2.toS).dJ (a3.wa fun b h=>h)) (Fm.look m3 fun y=>?_)
   have e1:(names.reverse.map nm).zip vs.reverse = (xs.zip vs).reverse:=by
    rw [List.map_reverse,hn1]
    exact H9 hl.symm
   rw [e1,List.reverse_reverse,kI,kI,CV]
   rw [List.map_fst_zip (Nat.le_of_eq hl.symm)]
   exact nd
theorem Cu {es:List Expr} {xs:List Nm} (nr:ef ks es xs) (nd:xs.Nodup) (hfa:constantsAlone 9 v = false) (gv:Good n 2 ks v x):lg n ks (.Assign [.Tuple es kk p] v q) (.assign (.many xs) x):=fun X σ t br bk rt ex Q R h o f=>yK nr nd hfa gv h o f
end
end
end
end Mine
end
section
open PySem PySem.W PyProof.Rows PySem.Calls
namespace Mine
noncomputable section
section
structure FB (n:Nat) (ks:List (Str × NameKind)) (X:Cx) (t0:St) (pv:List Addr) (σ:Loc) (t:St):Prop where
 at_:gj n ks X σ t
 af:fG X t0 t
 a8:∀ b ∈ pv,t0.s.heap.get? b = none /\ Off X.own X.fs t.g b /\ ∃ o,t.s.heap.get? b = some o
section
variable {n:Nat} {ks:List (Str × NameKind)} {X:Cx} {t0 t t1:St} {pv q:List Addr} {σ σ':Loc} {h':Heap} {g':Gh} {zp:Prop}
theorem FB.step (c:FB n ks X t0 pv σ t) (a:fG X t t1) (m:Fm X.fs X.own X.env σ' t1.g t1.s.heap):FB n ks X t0 pv σ' t1 :=
 ⟨c.at_.to a m,c.af.dJ a,fun b hb=>by
  obtain ⟨q1,⟨o1,o2,o3,o4,o5⟩,o,e⟩:=c.a8 b hb
  exact ⟨q1,⟨fun z=>(a.le.kh b z).elim o1 (aX e),fun z=>(a.le.mem z).elim o2 (aX e),o3,o4,o5⟩,o,a.keep.same b o e (fun m=>(List.mem_append.mp m).elim o3 o2) o4⟩⟩
theorem FB.off (c:FB n ks X t0 pv σ t) (k:∀ b o,b ∉ pv -> t.s.heap.get? b = some o -> h'.get? b = some o) {tk:Nat}:Fm X.fs X.own X.env σ t.g h' /\ fG X t0 ⟨t.g,t.H,{ t.s with heap:=h',toks:=tk }⟩ :=
 ⟨c.at_.fm.off k fun b hb=>(c.a8 b hb).2.1,c.af.off k fun b hb=>⟨(c.a8 b hb).1,(c.a8 b hb).2.1.1,(c.a8 b hb).2.1.2.1,(c.a8 b hb).2.1.2.2.2.2⟩⟩
theorem FB.turn (c:FB n ks X t0 pv σ t) (k:∀ b o,b ∉ pv -> t.s.heap.get? b = some o -> h'.get? b = some o) (lv:∀ b ∈ pv,∃ o,h'.get? b = some o) {tk:Nat} (ng:qm t.g g' t.s.heap h'):FB n ks X t0 pv σ ⟨g',t.H,{ t.s with heap:=h',toks:=tk }⟩:=by
 have h1:=c.at_.at_.here.off (t:=tk) k fun b hb=>(c.a8 b hb).2.1
 have a1:=(c.off k (tk:=tk)).2
 have own:∀ b ∈ X.own,t.s.heap.get? b ≠ none:=fun b hb w=>by obtain ⟨_,_,o,e⟩:=c.at_.fm.ownOut b hb; exact aX e w
 have Pg:∀ b ∈ frs X.fs,t.s.heap.get? b ≠ none:=fun b hb w=>by obtain ⟨_,o,e,_⟩:=Heap.FunFrames.mem c.at_.fm.frames hb; exact aX e w
 rcases ng with rfl | ⟨T,rfl,e1,e2,e3⟩
 ·exact ⟨⟨⟨h1,c.at_.at_.kn⟩,c.at_.top,c.at_.frame⟩,a1,fun b hb=>⟨(c.a8 b hb).1,(c.a8 b hb).2.1,lv b hb⟩⟩
 ·refine ⟨⟨⟨h1.freeze e2 e3 (fun m=>own T m e1) fun m=>Pg T m e1,c.at_.at_.kn⟩,c.at_.top,c.at_.frame⟩,a1.freeze e2 (c.af.keep.fresh e1) e3,fun b hb=>?_⟩
  obtain ⟨q1,⟨o1,o2⟩,o,e⟩:=c.a8 b hb
  exact ⟨q1,⟨fun z=>z.elim o1 fun w=>aX e (w ▸ e1),o2⟩,lv b hb⟩
theorem FB.Hn (c:FB n ks X t0 pv σ t) (a:fG X t t1) {it:It} {ad:Addr} (ri:bE t.g t.s.heap it ad pv):bE t1.g t1.s.heap it ad pv :=
 ri.after a (L8 c.at_.at_.inv c.at_.fm) fun b hb=>⟨fun m=>(List.mem_append.mp m).elim (c.a8 b hb).2.1.2.2.1 (c.a8 b hb).2.1.2.1,(c.a8 b hb).2.1.2.2.2.1⟩
variable {ao iter test:Expr} {body:List Stmt} {bs:List TS} {y:TI} {x:TE} {tt:bq} {p:Pos} {br:LP} {rt:AP} {ex:EP} {ip:List Addr} {a:Addr}
variable (n ks X t0 bs tt ao br rt ip a) in
class inductive GW (m:Nat):Shared -> Prop
 | mk (it:It) (σ:Loc) (t:St):forL (WF n) tt bs m it σ t.H br rt ee -> FB n ks X t0 ip σ t -> bE t.g t.s.heap it a ip -> (∀ x y,it = .zip x y -> ∃ es k p,ao = .Tuple es k p) -> GW m t.s
end
end
namespace Gk
noncomputable def Gq (n:Nat) (ks:List (PySem.Str × PySem.NameKind)) (ao:PySem.Expr) (iter:PySem.Expr) (body:List PySem.Stmt) (bs:List Mine.TS) (y:Mine.TI) (tt:Mine.bq) (p:PySem.Pos) (X:Mine.Cx) (σ:Mine.Loc) (t0:Mine.St) (br:Mine.LP) (bk:Mine.LP) (rt:Mine.AP) (ex:Mine.EP) (Q:PySem.Flow -> PySem.Shared -> Prop) (R:PySem.Value -> PySem.Shared -> Prop):Prop:=∀ (zp:Prop) (hf:∀ env v,foldedSetIterable iter env v = pure v) (gi:pC n 2 ks zp iter y) (mf:zp -> ∃ es k p,ao = .Tuple es k p) (tr:fX ks ao tt) (cb:fB n ks body bs) (h:gj n ks X σ t0) (q:(.for tt y bs:TS) (WF n) σ t0.H br bk rt ex) (f:Ends X t0 br bk rt ex Q R),wpAny P.M X.A (PySem.exec (.For ao iter body [] p) X.env) Q R t0.s
noncomputable def kq:Nat × List (PySem.Str × PySem.NameKind) × PySem.Expr × PySem.Expr × List PySem.Stmt × List Mine.TS × Mine.TI × Mine.bq × PySem.Pos × Mine.Cx × Mine.Loc × Mine.St × Mine.LP × Mine.LP × Mine.AP × Mine.EP × (PySem.Flow -> PySem.Shared -> Prop) × (PySem.Value -> PySem.Shared -> Prop):=cx fun p=>Gq p.1 p.2.1 p.2.2.1 p.2.2.2.1 p.2.2.2.2.1 p.2.2.2.2.2.1 p.2.2.2.2.2.2.1 p.2.2.2.2.2.2.2.1 p.2.2.2.2.2.2.2.2.1 p.2.2.2.2.2.2.2.2.2.1 p.2.2.2.2.2.2.2.2.2.2.1 p.2.2.2.2.2.2.2.2.2.2.2.1 p.2.2.2.2.2.2.2.2.2.2.2.2.1 p.2.2.2.2.2.2.2.2.2.2.2.2.2.1 p.2.2.2.2.2.2.2.2.2.2.2.2.2.2.1 p.2.2.2.2.2.2.2.2.2.2.2.2.2.2.2.1 p.2.2.2.2.2.2.2.2.2.2.2.2.2.2.2.2.1 p.2.2.2.2.2.2.2.2.2.2.2.2.2.2.2.2.2
noncomputable def n:=kq.1
noncomputable def ks:=kq.2.1
noncomputable def ao:=kq.2.2.1
noncomputable def iter:=kq.2.2.2.1
noncomputable def body:=kq.2.2.2.2.1
noncomputable def bs:=kq.2.2.2.2.2.1
noncomputable def y:=kq.2.2.2.2.2.2.1
noncomputable def tt:=kq.2.2.2.2.2.2.2.1
noncomputable def p:=kq.2.2.2.2.2.2.2.2.1
noncomputable def X:=kq.2.2.2.2.2.2.2.2.2.1
noncomputable def σ:=kq.2.2.2.2.2.2.2.2.2.2.1
noncomputable def t0:=kq.2.2.2.2.2.2.2.2.2.2.2.1
noncomputable def br:=kq.2.2.2.2.2.2.2.2.2.2.2.2.1
noncomputable def bk:=kq.2.2.2.2.2.2.2.2.2.2.2.2.2.1
noncomputable def rt:=kq.2.2.2.2.2.2.2.2.2.2.2.2.2.2.1
noncomputable def ex:=kq.2.2.2.2.2.2.2.2.2.2.2.2.2.2.2.1
noncomputable def Q:=kq.2.2.2.2.2.2.2.2.2.2.2.2.2.2.2.2.1
noncomputable def R:=kq.2.2.2.2.2.2.2.2.2.2.2.2.2.2.2.2.2
theorem tq:Gq n ks ao iter body bs y tt p X σ t0 br bk rt ex Q R:=by
 intro zp hf gi mf tr cb h q f
 refine wpAny_For (gi X σ t0 _ ex _ R h.at_ q ⟨fun it u t1 q a1 r1=>?_,fun c x t' q a y=>f.e c x t' q a.toS y⟩) (hf _)
 obtain ⟨k,q⟩:=q
 obtain ⟨a,ip,rfl,ri,hp,zz⟩:=r1
 have fb:FB n ks X t0 ip σ t1:=⟨h.after a1,a1.toS,fun b hb=>by
  obtain ⟨q1,q2,q3,q4⟩:=hp b hb
  obtain ⟨o,e⟩:=ri.lives b hb
  refine ⟨q1,⟨q2,q3,fun m=>?_,fun m=>?_,q4⟩,o,e⟩
  ·obtain ⟨_,_,o,e⟩:=h.fm.ownOut b m; exact aX e q1
  ·obtain ⟨_,o,e,_⟩:=Heap.FunFrames.mem h.fm.frames m; exact aX e q1⟩
 refine codeAny_loop' rfl (GW n ks X t0 ao bs tt br rt ip a) (fun m s' hI=>?_) k ⟨it,σ,t1,q,fb,ri,fun x y w=>mf (zz x y w)⟩
 refine hI.casesOn fun it σ t q fb ri mf=>?_
 show wpAny _ _ ((forTurn ao (.ref a) body [] X.env).onRaise (fun x=>do noteFrame x X.env; theTreesLotGoes x)) _ _ t.s
 refine wpAny_noted ?_
 show wpAny _ _ (standAt ao.pos >>= _) _ _ t.s
 refine wpAny_bind (wpAny_standAt (wpAny_bind (wpAny_onRaise ?_)))
 cases m with
 | zero=>exact q.elim
 | succ m=>
 refine aW q fun res hn q=>?_
 refine wpAny_mono (Aa (Qn:=fun s₁=>wpAny P.M X.A (PySem.execs [] X.env) (fun f s₃=>(match (Except.ok f:Result) with | .ok f=>Q f s₃ | .error e=>cameBackBy P.M X.A X.env R e s₃)) (notedBy P.M X.A X.env fun e s'=>cameBackBy P.M X.A X.env R e s') s₁)
  (Qs:=fun v s₂=>wpAny P.M X.A (assign ao X.env v) (fun _ s₃=>wpAny P.M X.A (PySem.execs body X.env) (fun f s₄=>match f with
    | .next | .cont=>∃ m',m' < m + 1 /\ GW n ks X t0 ao bs tt br rt ip a m' s₄
    | .brk=>Q .next s₄
    | .ret v=>Q (.ret v) s₄) (notedBy P.M X.A X.env fun e s'=>cameBackBy P.M X.A X.env R e s') s₃) (notedBy P.M X.A X.env fun e s'=>cameBackBy P.M X.A X.env R e s') s₂)
  (E:=fun e s'=>wpAny P.M X.A (standAt { ao.pos with line:=0 }) (fun _ s''=>notedBy P.M X.A X.env (fun e s'=>cameBackBy P.M X.A X.env R e s') e s'') (fun e s'=>notedBy P.M X.A X.env (fun e s'=>cameBackBy P.M X.A X.env R e s') e s') s')
  (E':=notedBy P.M X.A X.env fun e s'=>cameBackBy P.M X.A X.env R e s') fb.at_.at_.inv fb.at_.at_.here.handled ri (fun b hb=>let ⟨_,o,_⟩:=fb.a8 b hb; ⟨o.1,o.2.1,o.2.2.2.2⟩) hn mf ?_ ?_) (fun rr s₁ h₁=>?_) fun _ _ h'=>h'
 ·intro hr h2 tk kp
  subst hr
  obtain ⟨m2,a2⟩:=fb.off (tk:=tk) kp
  exact wpAny_execs_nil (f.n σ ⟨t.g,t.H,_⟩ q a2 m2)
 ·intro x it' hr v g3 h3 tk kp ng rv Ck hz'
  subst hr
  refine aW (show Is (bg tt x σ) _ from q) fun σ3 hb q=>?_
  have HE:=fb.turn (tk:=tk) kp (fun b hb=>Ck.lives b hb) ng
  refine qh (ow:=X.own) HE.at_.at_.here HE.at_.at_.kn tr (Ow.all _ _ _) (fun _ h=>h) rv hb fun s4 a4 m4=>?_
  have OP:=a4.wa fun b h=>h
  have DM:=HE.step (t1:=⟨g3,t.H,s4⟩) OP m4
  have JD:=HE.Hn (t1:=⟨g3,t.H,s4⟩) OP Ck
  refine cb X σ3 _ _ _ _ _ _ _ DM.at_ q ⟨fun σ5 t5 q a5 m5=>?_,fun σ5 t5 q a5 m5=>f.n σ5 t5 q (DM.af.dJ a5) m5,fun v u t5 q a5 r=>f.r v u t5 q (DM.af.dJ a5) r,fun _ _ _ z=>z.elim⟩
  exact ⟨m,Nat.lt_succ_self _,it',σ5,t5,q,DM.step a5 m5,DM.Hn a5 JD,fun x y w=>let ⟨x',y',hh⟩:=hz' x y w; mf x' y' hh⟩
 ·cases rr with
  | none=>exact wpAny_pure (.inr ⟨rfl,codeAny_block h₁⟩)
  | some v=>
   refine wpAny_bind (wpAny_mono h₁ (fun _ s₂ h₂=>wpAny_bind (wpAny_mono h₂ (fun _ s₃ h₃=>wpAny_bind (wpAny_mono h₃ (fun f s₄ h₄=>?_) fun _ _ h'=>h')) fun _ _ h'=>h')) fun _ _ h'=>h')
   cases f with
   | next=>exact wpAny_pure (.inl ⟨rfl,h₄⟩)
   | cont=>exact wpAny_pure (.inl ⟨rfl,h₄⟩)
   | brk=>exact wpAny_pure h₄
   | ret v=>exact wpAny_pure h₄
end Gk
section
section
variable {n:Nat} {ks:List (Str × NameKind)} {X:Cx} {t0 t t1:St} {pv q:List Addr} {σ σ':Loc} {h':Heap} {g':Gh} {zp:Prop}
variable {ao iter test:Expr} {body:List Stmt} {bs:List TS} {y:TI} {x:TE} {tt:bq} {p:Pos} {br:LP} {rt:AP} {ex:EP} {ip:List Addr} {a:Addr}
theorem CC (hf:∀ env v,foldedSetIterable iter env v = pure v) (gi:pC n 2 ks zp iter y) (mf:zp -> ∃ es k p,ao = .Tuple es k p) (tr:fX ks ao tt) (cb:fB n ks body bs) {X:Cx} {σ:Loc} {t0:St} {br bk:LP} {rt:AP} {ex:EP} {Q:PySem.Flow -> Shared -> Prop} {R:Value -> Shared -> Prop} (h:gj n ks X σ t0) (q:(.for tt y bs:TS) (WF n) σ t0.H br bk rt ex) (f:Ends X t0 br bk rt ex Q R):wpAny P.M X.A (PySem.exec (.For ao iter body [] p) X.env) Q R t0.s :=
 bD (p:=fun p=>Gk.Gq p.1 p.2.1 p.2.2.1 p.2.2.2.1 p.2.2.2.2.1 p.2.2.2.2.2.1 p.2.2.2.2.2.2.1 p.2.2.2.2.2.2.2.1 p.2.2.2.2.2.2.2.2.1 p.2.2.2.2.2.2.2.2.2.1 p.2.2.2.2.2.2.2.2.2.2.1 p.2.2.2.2.2.2.2.2.2.2.2.1 p.2.2.2.2.2.2.2.2.2.2.2.2.1 p.2.2.2.2.2.2.2.2.2.2.2.2.2.1 p.2.2.2.2.2.2.2.2.2.2.2.2.2.2.1 p.2.2.2.2.2.2.2.2.2.2.2.2.2.2.2.1 p.2.2.2.2.2.2.2.2.2.2.2.2.2.2.2.2.1 p.2.2.2.2.2.2.2.2.2.2.2.2.2.2.2.2.2) Gk.tq (n,ks,ao,iter,body,bs,y,tt,p,X,σ,t0,br,bk,rt,ex,Q,R) zp hf gi mf tr cb h q f
theorem Ip (hf:∀ env v,foldedSetIterable iter env v = pure v) (gi:pC n 2 ks zp iter y) (mf:zp -> ∃ es k p,ao = .Tuple es k p) (tr:fX ks ao tt) (cb:fB n ks body bs):lg n ks (.For ao iter body [] p) (.for tt y bs):=fun X σ t0 br bk rt ex Q R h q f=>CC hf gi mf tr cb h q f
variable (n ks X t0 bs x br rt ex) in
class inductive Ml (m:Nat):Shared -> Prop
 | mk (σ:Loc) (t:St):gF (WF n) x bs m σ t.H br rt ex -> gj n ks X σ t -> fG X t0 t -> Ml m t.s
end
end
namespace Gj
noncomputable def Gq (n:Nat) (ks:List (PySem.Str × PySem.NameKind)) (test:PySem.Expr) (body:List PySem.Stmt) (bs:List Mine.TS) (x:Mine.TE) (p:PySem.Pos) (X:Mine.Cx) (σ:Mine.Loc) (t0:Mine.St) (br:Mine.LP) (bk:Mine.LP) (rt:Mine.AP) (ex:Mine.EP) (Q:PySem.Flow -> PySem.Shared -> Prop) (R:PySem.Value -> PySem.Shared -> Prop):Prop:=∀ (gt:Good n 2 ks test x) (cb:fB n ks body bs) (h:gj n ks X σ t0) (q:(.while x bs:TS) (WF n) σ t0.H br bk rt ex) (f:Ends X t0 br bk rt ex Q R),wpAny P.M X.A (PySem.exec (.While test body [] p) X.env) Q R t0.s
noncomputable def kq:Nat × List (PySem.Str × PySem.NameKind) × PySem.Expr × List PySem.Stmt × List Mine.TS × Mine.TE × PySem.Pos × Mine.Cx × Mine.Loc × Mine.St × Mine.LP × Mine.LP × Mine.AP × Mine.EP × (PySem.Flow -> PySem.Shared -> Prop) × (PySem.Value -> PySem.Shared -> Prop):=cx fun p=>Gq p.1 p.2.1 p.2.2.1 p.2.2.2.1 p.2.2.2.2.1 p.2.2.2.2.2.1 p.2.2.2.2.2.2.1 p.2.2.2.2.2.2.2.1 p.2.2.2.2.2.2.2.2.1 p.2.2.2.2.2.2.2.2.2.1 p.2.2.2.2.2.2.2.2.2.2.1 p.2.2.2.2.2.2.2.2.2.2.2.1 p.2.2.2.2.2.2.2.2.2.2.2.2.1 p.2.2.2.2.2.2.2.2.2.2.2.2.2.1 p.2.2.2.2.2.2.2.2.2.2.2.2.2.2.1 p.2.2.2.2.2.2.2.2.2.2.2.2.2.2.2
noncomputable def n:=kq.1
noncomputable def ks:=kq.2.1
noncomputable def test:=kq.2.2.1
noncomputable def body:=kq.2.2.2.1
noncomputable def bs:=kq.2.2.2.2.1
noncomputable def x:=kq.2.2.2.2.2.1
noncomputable def p:=kq.2.2.2.2.2.2.1
noncomputable def X:=kq.2.2.2.2.2.2.2.1
noncomputable def σ:=kq.2.2.2.2.2.2.2.2.1
noncomputable def t0:=kq.2.2.2.2.2.2.2.2.2.1
noncomputable def br:=kq.2.2.2.2.2.2.2.2.2.2.1
noncomputable def bk:=kq.2.2.2.2.2.2.2.2.2.2.2.1
noncomputable def rt:=kq.2.2.2.2.2.2.2.2.2.2.2.2.1
noncomputable def ex:=kq.2.2.2.2.2.2.2.2.2.2.2.2.2.1
noncomputable def Q:=kq.2.2.2.2.2.2.2.2.2.2.2.2.2.2.1
noncomputable def R:=kq.2.2.2.2.2.2.2.2.2.2.2.2.2.2.2
theorem tq:Gq n ks test body bs x p X σ t0 br bk rt ex Q R:=by
 intro gt cb h q f
 obtain ⟨L,hL⟩:=Option.ne_none_iff_exists'.mp h.frame
 obtain ⟨k,q⟩:=q
 obtain ⟨fs,hfs⟩:=h.top
 refine wpAny_While (codeAny_whileLoop (Ml n ks X t0 bs x br rt ex) (fun m s' hI=>?_) k ⟨σ,t0,q,h,h.refl⟩)
 refine hI.casesOn fun σ t q h1 a1=>?_
 cases m with
 | zero=>exact q.elim
 | succ m=>
 have up:∀ c xx (t3:St),ex c t3.H -> fG X t t3 -> kY t.s.heap t3.g c t3.s.heap xx -> notedBy P.M X.A X.env (fun e s'=>cameBackBy P.M X.A X.env R e s') xx t3.s:=fun c xx t3 q a3 y3=>by
  have yt:=a1.dJ a3
  have y:kY t0.s.heap t3.g c t3.s.heap xx:=y3.base fun b hb=>a1.keep.fresh hb
  have hP:∀ b ∈ frs X.fs,fh t0.s.heap t3.g b:=fun b hb=>by
   obtain ⟨_,o,e,_⟩:=Heap.FunFrames.mem h.fm.frames hb
   exact .inl (by rw [e]; exact fun q=>by cases q)
  have live:∀ b,fh t0.s.heap t3.g b -> ∃ o,t3.s.heap.get? b = some o:=fun b p=>by
   rcases p with p | p | p
   ·cases q:t0.s.heap.get? b with
    | none=>exact (p q).elim
    | some o=>exact yt.keep.live b o q
   ·exact yt.inv.oj b p
   ·exact yt.inv.oi b p
  refine lT (outer:=fs) y (hfs ▸ h.at_.here.frames) (hfs ▸ iD yt.keep.nf h.fm.frames) hL (hfs ▸ hP) live fun h4 y4 J7=>?_
  refine zx (s:={ t3.s with heap:=h4 }) y4 (frs (X.env :: fs)) fun h5 y5 J6=>?_
  have hF:∀ b ∈ frs X.fs,¬ t3.g.Z b /\ b ∉ t3.g.μ:=fun b hb=>by
   obtain ⟨q1,q2⟩:=h.fm.bH b hb
   obtain ⟨_,o,e,_⟩:=Heap.FunFrames.mem h.fm.frames hb
   exact ⟨fun z=>(yt.le.kh b z).elim q1 (aX e),fun z=>(yt.le.mem z).elim q2 (aX e)⟩
  exact f.e c xx ⟨t3.g,t3.H,{ t3.s with heap:=h5 }⟩ q (After.noted yt (fun b o e=>by rw [e]; exact fun q=>by cases q) hF h.at_.inv.iu (by rw [hfs]; exact J7.trans J6)) y5.DP
 refine gt.ts X σ t (fun b H=>Br b _ _) ex _ _ h1.at_ q ⟨fun b b' t2 q a2 r2=>?_,fun c xx t3 q a y=>up c xx t3 q a.toS y⟩
 cases r2
 have h2:=h1.after a2
 refine mV q (fun e q=>?_) fun e q=>?_
 ·subst e
  rw [if_pos rfl]
  exact cb X σ t2 _ _ _ _ _ _ h2 q ⟨fun σ' t3 q a3 m3=>⟨m,Nat.lt_succ_self _,σ',t3,q,h2.to a3 m3,(a1.dJ a2.toS).dJ a3⟩,fun σ' t3 q a3 m3=>f.n σ' t3 q ((a1.dJ a2.toS).dJ a3) m3,fun v u t3 q a3 r=>f.r v u t3 q ((a1.dJ a2.toS).dJ a3) r,
   fun c xx t3 q a y=>up c xx t3 q (a2.toS.dJ a) (y.base fun b=>a2.keep.fresh)⟩
 ·subst e
  rw [if_neg (by decide)]
  exact wpAny_execs_nil (f.n σ t2 q (a1.dJ a2.toS) h2.fm)
end Gj
section
section
variable {n:Nat} {ks:List (Str × NameKind)} {X:Cx} {t0 t t1:St} {pv q:List Addr} {σ σ':Loc} {h':Heap} {g':Gh} {zp:Prop}
variable {ao iter test:Expr} {body:List Stmt} {bs:List TS} {y:TI} {x:TE} {tt:bq} {p:Pos} {br:LP} {rt:AP} {ex:EP} {ip:List Addr} {a:Addr}
theorem yJ (gt:Good n 2 ks test x) (cb:fB n ks body bs) {X:Cx} {σ:Loc} {t0:St} {br bk:LP} {rt:AP} {ex:EP} {Q:PySem.Flow -> Shared -> Prop} {R:Value -> Shared -> Prop} (h:gj n ks X σ t0) (q:(.while x bs:TS) (WF n) σ t0.H br bk rt ex) (f:Ends X t0 br bk rt ex Q R):wpAny P.M X.A (PySem.exec (.While test body [] p) X.env) Q R t0.s :=
 bD (p:=fun p=>Gj.Gq p.1 p.2.1 p.2.2.1 p.2.2.2.1 p.2.2.2.2.1 p.2.2.2.2.2.1 p.2.2.2.2.2.2.1 p.2.2.2.2.2.2.2.1 p.2.2.2.2.2.2.2.2.1 p.2.2.2.2.2.2.2.2.2.1 p.2.2.2.2.2.2.2.2.2.2.1 p.2.2.2.2.2.2.2.2.2.2.2.1 p.2.2.2.2.2.2.2.2.2.2.2.2.1 p.2.2.2.2.2.2.2.2.2.2.2.2.2.1 p.2.2.2.2.2.2.2.2.2.2.2.2.2.2.1 p.2.2.2.2.2.2.2.2.2.2.2.2.2.2.2) Gj.tq (n,ks,test,body,bs,x,p,X,σ,t0,br,bk,rt,ex,Q,R) gt cb h q f
theorem Ct (gt:Good n 2 ks test x) (cb:fB n ks body bs):lg n ks (.While test body [] p) (.while x bs):=fun X σ t0 br bk rt ex Q R h q f=>yJ gt cb h q f
end
end
end
end Mine
end
section
open PySem PySem.W PyProof.Rows PySem.Calls Builtin Builtin.ObjectAttr
namespace Mine
noncomputable section
section
noncomputable abbrev aY (C T:Addr):Obj:={ cls:=.ref C,data:=.fields #[.ref T,.none,.none,.none,.bool false,.none] }
theorem AJ (self:Value) (rs:List Addr):refuseLoop self "__setattr__" (iE rs) = pure ():=by
 induction rs with
 | nil=>exact PySem.F.store_Exception.passes self
 | cons c r ih=>show refuseLoop self _ (.ref c :: iE r) = _; rw [refuseLoop_ref]; exact ih
theorem lO {T:String} {b:Bool} (hT:([.type "Exception",.type "BaseException",.type "object"]:List Value).contains (.type T) = b) (rs:List Addr):(iE rs).contains (.type T) = b:=by
 induction rs with
 | nil=>exact hT
 | cons c r ih=>exact (List.contains_cons ..).trans ih
section
variable {K:Frag} {prog:Program} {w:World} {A:Around} {E:Value -> Shared -> Prop} {s:Shared} {x C:Addr} {R:Result -> Shared -> Prop}
theorem I9 {h:Heap} {M:Model} (X:K.In h) {cd:ClassData} (hc:clsIn K C = some cd) {rs:List Addr} (he:cd.mro = iE rs) {b:Value} {r:Bool} (hb:cd.mro.contains b = r):Looks M h (isSubtype (.ref C) b) r :=
 looks_mroIn X (by unfold mroIn; rw [hc,Option.bind_some,if_neg (by rw [he]; cases rs <;> exact Bool.false_ne_true),hb])
theorem zN {ox:Obj} {od:Option Obj} {name:Str} {tk:Tok} {v:Value} (X:K.In s.heap) (I:InstAt s.heap x ox C od) {cd:ClassData} (hc:clsIn K C = some cd) {rs:List Addr} (he:cd.mro = iE rs) (ht:takerIn K C name = some none)
  (h:∀ b,wpAny (model prog w) A.in1 (storeInOwnDict (.ref x) (.ref C) (.str name tk) name v b)
   (fun fin s'=>match fin with | .done f=>R (.ok f) s' | .again c'=>c'.quiet = true /\ codeAny (model prog w) A c' R s') (fun e s'=>R (.error e) s') s) :
  codeAny (model prog w) A (.call (.builtin "object.__setattr__") ⟨[.ref x,.str name tk,v],[]⟩) R s:=by
 have SF:=PySem.F.store_object
 have sub:Looks (model prog w) s.heap (isInstance (.ref x) (.type "object")) true:=I.type.andThen (I9 X hc he (he ▸ lO (b:=true) (by decide) rs))
 refine codeAny_call_builtin SF.slot.plain SF.entry (@check_slot (model prog w) _ _ s "object.__setattr__" "object" "__setattr__" (.ref x) [.str name tk,v] [] _ SF.kind SF.split sub (SF.args (.ref x) (.str name tk) v) ?_)
 obtain ⟨attr,ha,hr⟩:=Option.bind_eq_some_iff.mp ht
 have hm:Looks (model prog w) s.heap (mroOf (.ref C)) cd.mro:=(looks_clsIn X hc).andThen .now
 have L3:Looks (model prog w) s.heap (storeTaker? attr) none:=by
  cases attr with
  | none=>cases hr; exact .now
  | some a=>
   obtain ⟨b,hb,QO⟩:=Option.map_eq_some_iff.mp hr
   refine (looks_takesIn X hb).andThen ?_
   cases b with
   | false=>exact .now
   | true=>cases QO
 rw [osa_eq,refuse_eq]
 refine wpAny_bind (wpAny_bind (I.type.here (wpAny_bind (hm.here ?_))))
 rw [he,AJ]
 refine wpAny_pure (wpAny_bind (I.type.here (wpAny_bind ((looks_findIn X ha).here (wpAny_bind (L3.here ?_))))))
 exact h _
end
end
namespace Gi
noncomputable def Gq (K:PySem.W.Frag) (prog:PySem.Program) (A:PySem.Around) (E:PySem.Value -> PySem.Shared -> Prop) (s:PySem.Shared) (x:PySem.Addr) (C:PySem.Addr) (T:PySem.Addr) (name:PySem.Str) (v:PySem.Value) (Q:Unit -> PySem.Shared -> Prop) (cd:PySem.ClassData) (rs:List PySem.Addr):Prop:=∀ (w:PySem.World) (X:K.In s.heap) (hx:s.heap.get? x = some (aY C T)) (hc:clsIn K C = some cd) (he:cd.mro = iE rs) (hD:cd.hasDict = true) (mh:findIn K (.ref C) "__setattr__" = some (some (.builtin "object.__setattr__"))) (ht:takerIn K C name = some none) (hq:∀ h' tk,h'.get? x = some { aY C T with dict:=some s.heap.objs.size } -> h'.Ns1 s.heap.objs.size (fun y=>if y = name then some v else none) -> (∀ b ob,b ≠ x -> s.heap.get? b = some ob -> h'.get? b = some ob) -> Q () { s with heap:=h',toks:=tk }),wpAny (model prog w) A (setAttr (.ref x) name v) Q E s
noncomputable def kq:PySem.W.Frag × PySem.Program × PySem.Around × (PySem.Value -> PySem.Shared -> Prop) × PySem.Shared × PySem.Addr × PySem.Addr × PySem.Addr × PySem.Str × PySem.Value × (Unit -> PySem.Shared -> Prop) × PySem.ClassData × List PySem.Addr:=cx fun p=>Gq p.1 p.2.1 p.2.2.1 p.2.2.2.1 p.2.2.2.2.1 p.2.2.2.2.2.1 p.2.2.2.2.2.2.1 p.2.2.2.2.2.2.2.1 p.2.2.2.2.2.2.2.2.1 p.2.2.2.2.2.2.2.2.2.1 p.2.2.2.2.2.2.2.2.2.2.1 p.2.2.2.2.2.2.2.2.2.2.2.1 p.2.2.2.2.2.2.2.2.2.2.2.2
noncomputable def K:=kq.1
noncomputable def prog:=kq.2.1
noncomputable def A:=kq.2.2.1
noncomputable def E:=kq.2.2.2.1
noncomputable def s:=kq.2.2.2.2.1
noncomputable def x:=kq.2.2.2.2.2.1
noncomputable def C:=kq.2.2.2.2.2.2.1
noncomputable def T:=kq.2.2.2.2.2.2.2.1
noncomputable def name:=kq.2.2.2.2.2.2.2.2.1
noncomputable def v:=kq.2.2.2.2.2.2.2.2.2.1
noncomputable def Q:=kq.2.2.2.2.2.2.2.2.2.2.1
noncomputable def cd:=kq.2.2.2.2.2.2.2.2.2.2.2.1
noncomputable def rs:=kq.2.2.2.2.2.2.2.2.2.2.2.2
theorem tq:Gq K prog A E s x C T name v Q cd rs:=by
 intro w X hx hc he hD mh ht hq
 have I:InstAt s.heap x (aY C T) C none:=⟨hx,rfl,rfl,trivial⟩
 refine set_plain X I mh (zN (s:={ s with toks:=s.toks + 1 }) X I hc he ht fun b=>?_)
 refine wpAny_bind (wpAny_pure (wpAny_bind (wpAny_bind (wpAny_loadPart (s:={ s with toks:=s.toks + 1 }) hx (wpAny_bind (Looks.here (s:={ s with toks:=s.toks + 1 }) (looks_clsIn X hc) ?_))))))
 rw [hD]
 have xA:(s.heap.push emptyDict).get? x = some (aY C T):=Heap.get?_push_of_some _ hx
 have hxs:x ≠ s.heap.objs.size:=Nat.ne_of_lt (Heap.lt_size hx)
 refine wpAny_bind (wpAny_alloc (o:=emptyDict) (wpAny_bind (wpAny_update xA (wpAny_pure (a:=some s.heap.objs.size) ?_))))
 have hgd:((s.heap.push emptyDict).update x fun o=>{ o with dict:=some s.heap.objs.size }).get? s.heap.objs.size = some emptyDict :=
  (Heap.get?_update_ne _ _ _ _ hxs.symm).trans (Heap.get?_push_at rfl rfl)
 have hnd:((s.heap.push emptyDict).update x fun o=>{ o with dict:=some s.heap.objs.size }).Ns s.heap.objs.size (fun _=>none) :=
  ⟨_,#[],_,hgd,rfl,fun e he=>absurd he (by simp),fun _=>rfl⟩
 refine wpAny_bind (wpAny_pure (wpAny_bind (wpAny_nsSet1 (Heap.Ns1.of_empty hnd) fun h' hn' hs=>?_)))
 obtain ⟨oD,esD,Rk,KI,Oa,QK⟩:=hn'.count (Within.cons name v Within.nil)
 refine wpAny_bind (wpAny_lookBehind KI (by rw [Oa]; exact pastItsLine_dict (Nat.le_trans QK (by rw [List.length_cons,List.length_nil,sizeLine_eq]; decide))) ?_)
 refine wpAny_pure (hq h' _ ((hs.2 x hxs).trans (Heap.get?_update_self _ xA rfl)) hn' fun b ob hb e=>?_)
 exact (hs.2 b (Nat.ne_of_lt (Heap.lt_size e))).trans ((Heap.get?_update_ne _ _ _ _ hb).trans (Heap.get?_push_of_some _ e))
end Gi
section
section
variable {K:Frag} {prog:Program} {w:World} {A:Around} {E:Value -> Shared -> Prop} {s:Shared} {x C:Addr} {R:Result -> Shared -> Prop}
theorem BH {T:Addr} {name:Str} {v:Value} {Q:Unit -> Shared -> Prop} (X:K.In s.heap) (hx:s.heap.get? x = some (aY C T)) {cd:ClassData} (hc:clsIn K C = some cd) {rs:List Addr} (he:cd.mro = iE rs) (hD:cd.hasDict = true) (mh:findIn K (.ref C) "__setattr__" = some (some (.builtin "object.__setattr__"))) (ht:takerIn K C name = some none) (hq:∀ h' tk,h'.get? x = some { aY C T with dict:=some s.heap.objs.size } -> h'.Ns1 s.heap.objs.size (fun y=>if y = name then some v else none) -> (∀ b ob,b ≠ x -> s.heap.get? b = some ob -> h'.get? b = some ob) -> Q () { s with heap:=h',toks:=tk }):wpAny (model prog w) A (setAttr (.ref x) name v) Q E s :=
 bD (p:=fun p=>Gi.Gq p.1 p.2.1 p.2.2.1 p.2.2.2.1 p.2.2.2.2.1 p.2.2.2.2.2.1 p.2.2.2.2.2.2.1 p.2.2.2.2.2.2.2.1 p.2.2.2.2.2.2.2.2.1 p.2.2.2.2.2.2.2.2.2.1 p.2.2.2.2.2.2.2.2.2.2.1 p.2.2.2.2.2.2.2.2.2.2.2.1 p.2.2.2.2.2.2.2.2.2.2.2.2) Gi.tq (K,prog,A,E,s,x,C,T,name,v,Q,cd,rs) w X hx hc he hD mh ht hq
theorem BG {T dx:Addr} {m:Str -> Option Value} {n1 name:Str} {v:Value} {Q:Unit -> Shared -> Prop} (X:K.In s.heap) (hx:s.heap.get? x = some { aY C T with dict:=some dx })
  (hns:s.heap.Ns1 dx m) (hw:Within m [n1])
  {cd:ClassData} (hc:clsIn K C = some cd) {rs:List Addr} (he:cd.mro = iE rs) (hD:cd.hasDict = true) (mh:findIn K (.ref C) "__setattr__" = some (some (.builtin "object.__setattr__"))) (ht:takerIn K C name = some none)
  (hq:∀ h' tk,Heap.SameBut dx s.heap h' -> Q () { s with heap:=h',toks:=tk }) :
  wpAny (model prog w) A (setAttr (.ref x) name v) Q E s:=by
 obtain ⟨oD,esD,Rk,KI,Oa,_⟩:=hns.count hw
 have I:InstAt s.heap x { aY C T with dict:=some dx } C (some oD):=⟨hx,rfl,rfl,KI⟩
 refine set_plain X I mh (zN (s:={ s with toks:=s.toks + 1 }) X I hc he ht fun b=>?_)
 refine wpAny_bind (wpAny_pure (wpAny_bind (wpAny_bind (wpAny_loadPart (s:={ s with toks:=s.toks + 1 }) hx (wpAny_bind (Looks.here (s:={ s with toks:=s.toks + 1 }) (looks_clsIn X hc) ?_))))))
 rw [hD]
 refine wpAny_pure (a:=some dx) (wpAny_bind (wpAny_pure (wpAny_bind (wpAny_nsSet1 (s:={ s with toks:=s.toks + 1 }) hns fun h' hn' hs=>?_))))
 obtain ⟨RW,RQ,RT,O6,Pa,Pb⟩:=hn'.count (Within.cons name v hw)
 refine wpAny_bind (wpAny_lookBehind O6 (by rw [Pa]; exact pastItsLine_dict (Nat.le_trans Pb (by rw [List.length_cons,List.length_cons,List.length_nil,sizeLine_eq]; decide))) ?_)
 exact wpAny_pure (hq h' _ hs)
end
end
end
end Mine
end
section
open PySem PySem.W PyProof.Rows PySem.Calls Builtin Builtin.ObjectAttr
namespace Mine
noncomputable section
section
section
variable {prog:Program} {w:World} {A:Around} {E:Value -> Shared -> Prop} {h:Heap} {g:Array GenState} {d:Drawn} {t:Nat} {os:OsState} {R:Result -> Shared -> Prop}
variable {C:Addr} {p:ClassData × Obj} {rs:List Addr}
end
end
namespace Gg
noncomputable def Gq (prog:PySem.Program) (A:PySem.Around) (h:PySem.Heap) (g:Array PySem.GenState) (d:PySem.Drawn) (t:Nat) (os:PySem.OsState) (R:PySem.Result -> PySem.Shared -> Prop) (C:PySem.Addr) (rs:List PySem.Addr) (rest:List PySem.Value):Prop:=∀ (w:PySem.World) (p:PySem.ClassData × PySem.Obj) (hC:h.get? C = some (jT C p rs)) (hq:R (.ok (.ret (.ref (h.objs.size + 1)))) ⟨(h.push { cls:=.type "tuple",data:=.seq rest.toArray }).push (aY C h.objs.size),g,d,t,os⟩) (hrest:rest.length <= sizeLine),codeAny (model prog w) A (.call (.builtin "Exception.__new__") ⟨.ref C :: rest,[]⟩) R ⟨h,g,d,t,os⟩
noncomputable def kq:PySem.Program × PySem.Around × PySem.Heap × Array PySem.GenState × PySem.Drawn × Nat × PySem.OsState × (PySem.Result -> PySem.Shared -> Prop) × PySem.Addr × List PySem.Addr × List PySem.Value:=cx fun p=>Gq p.1 p.2.1 p.2.2.1 p.2.2.2.1 p.2.2.2.2.1 p.2.2.2.2.2.1 p.2.2.2.2.2.2.1 p.2.2.2.2.2.2.2.1 p.2.2.2.2.2.2.2.2.1 p.2.2.2.2.2.2.2.2.2.1 p.2.2.2.2.2.2.2.2.2.2
noncomputable def prog:=kq.1
noncomputable def A:=kq.2.1
noncomputable def h:=kq.2.2.1
noncomputable def g:=kq.2.2.2.1
noncomputable def d:=kq.2.2.2.2.1
noncomputable def t:=kq.2.2.2.2.2.1
noncomputable def os:=kq.2.2.2.2.2.2.1
noncomputable def R:=kq.2.2.2.2.2.2.2.1
noncomputable def C:=kq.2.2.2.2.2.2.2.2.1
noncomputable def rs:=kq.2.2.2.2.2.2.2.2.2.1
noncomputable def rest:=kq.2.2.2.2.2.2.2.2.2.2
theorem tq:Gq prog A h g d t os R C rs rest:=by
 intro w p hC hq hrest
 have F:=PySem.F.excBase_Exception
 have Ag:(Value.ref C :: iE rs).contains (.type "Exception") = true:=lO (by decide) (C :: rs)
 have QL:(Value.ref C :: iE rs).contains (.type "AttributeError") = false:=lO (by decide) (C :: rs)
 have hcN:(Value.ref C :: iE rs).contains (.type "NameError") = false:=lO (by decide) (C :: rs)
 refine codeAny_call_builtin_code (Code.quiet_builtin _ F.quiet) ?_
 have RK:=F.ends
 have hstar:=F.noStar
 unfold checkBuiltinCall
 rw [F.newKind,F.newSplit,F.newRow]
 repeat (first | refine wpAny_loadPart_at hC ?_ | (refine wpAny_isSubtype_exc hC ?_; rw [Ag]) | refine wpAny_staticBase_exc hC ?_ | refine wpAny_madeBy_exc hC ?_ | simp only [bne_self_eq_false,Bool.false_eq_true,if_false] | wp_step)
 refine codeAny_builtinAt F.entry ?_
 unfold Builtin.«BaseException.__new__»
 refine PySem.wpAt_bind ?_
 show PySem.wpAt _ _ _ (stack >>= _) _ _ _
 refine PySem.wpAt_bind (PySem.wpAt_stack fun p below=>PySem.wpAt_of_wpAny ?_)
 wp_walk
 refine PySem.wpAt_of_wpAny ?_
 rw [F.owner]
 repeat (first | with_reducible refine wpAny_madeHere_exc F.canon hC ?_ | with_reducible refine wpAny_loadPart_at hC ?_ | (with_reducible refine wpAny_isSubtype_exc hC ?_; first | rw [Ag] | rw [QL] | rw [hcN]) | wp_step)
 show R _ _
 rw [Heap.size_push]
 exact hq
end Gg
section
section
variable {prog:Program} {w:World} {A:Around} {E:Value -> Shared -> Prop} {h:Heap} {g:Array GenState} {d:Drawn} {t:Nat} {os:OsState} {R:Result -> Shared -> Prop}
variable {C:Addr} {p:ClassData × Obj} {rs:List Addr}
theorem Ja {rest:List Value} (hC:h.get? C = some (jT C p rs)) (hq:R (.ok (.ret (.ref (h.objs.size + 1)))) ⟨(h.push { cls:=.type "tuple",data:=.seq rest.toArray }).push (aY C h.objs.size),g,d,t,os⟩) (hrest:rest.length <= sizeLine):codeAny (model prog w) A (.call (.builtin "Exception.__new__") ⟨.ref C :: rest,[]⟩) R ⟨h,g,d,t,os⟩ :=
 bD (p:=fun p=>Gg.Gq p.1 p.2.1 p.2.2.1 p.2.2.2.1 p.2.2.2.2.1 p.2.2.2.2.2.1 p.2.2.2.2.2.2.1 p.2.2.2.2.2.2.2.1 p.2.2.2.2.2.2.2.2.1 p.2.2.2.2.2.2.2.2.2.1 p.2.2.2.2.2.2.2.2.2.2) Gg.tq (prog,A,h,g,d,t,os,R,C,rs,rest) w p hC hq hrest
end
end
namespace Gf
noncomputable def Gq (prog:PySem.Program) (A:PySem.Around) (h:PySem.Heap) (g:Array PySem.GenState) (d:PySem.Drawn) (t:Nat) (os:PySem.OsState) (R:PySem.Result -> PySem.Shared -> Prop) (C:PySem.Addr) (rs:List PySem.Addr) (rest:List PySem.Value) (init:PySem.Value):Prop:=∀ (w:PySem.World) (p:PySem.ClassData × PySem.Obj) (hC:h.get? C = some (jT C p rs)) (call:Looks (model prog w) h (specialOf (.ref C) "__call__") (some (.builtin "type.__call__"))) (typ:Looks (model prog w) h (isInstance (.ref C) (.type "type")) true) (hi:Looks (model prog w) h (typeLookup (.ref C) "__init__") (some init)) (hb:∀ self,Looks (model prog w) h (bindSpecial init self) (init,[self])) (hrest:rest.length <= sizeLine) (hq:codeAny (model prog w) (A.under (.builtin "type.__call__" ⟨.ref C :: rest,[]⟩)) (.call init ⟨.ref (h.objs.size + 1) :: rest,[]⟩) (InitBack (h.objs.size + 1) R) ⟨(h.push { cls:=.type "tuple",data:=.seq rest.toArray }).push (aY C h.objs.size),g,d,t,os⟩),codeAny (model prog w) A (.call (.ref C) ⟨rest,[]⟩) R ⟨h,g,d,t,os⟩
noncomputable def kq:PySem.Program × PySem.Around × PySem.Heap × Array PySem.GenState × PySem.Drawn × Nat × PySem.OsState × (PySem.Result -> PySem.Shared -> Prop) × PySem.Addr × List PySem.Addr × List PySem.Value × PySem.Value:=cx fun p=>Gq p.1 p.2.1 p.2.2.1 p.2.2.2.1 p.2.2.2.2.1 p.2.2.2.2.2.1 p.2.2.2.2.2.2.1 p.2.2.2.2.2.2.2.1 p.2.2.2.2.2.2.2.2.1 p.2.2.2.2.2.2.2.2.2.1 p.2.2.2.2.2.2.2.2.2.2.1 p.2.2.2.2.2.2.2.2.2.2.2
noncomputable def prog:=kq.1
noncomputable def A:=kq.2.1
noncomputable def h:=kq.2.2.1
noncomputable def g:=kq.2.2.2.1
noncomputable def d:=kq.2.2.2.2.1
noncomputable def t:=kq.2.2.2.2.2.1
noncomputable def os:=kq.2.2.2.2.2.2.1
noncomputable def R:=kq.2.2.2.2.2.2.2.1
noncomputable def C:=kq.2.2.2.2.2.2.2.2.1
noncomputable def rs:=kq.2.2.2.2.2.2.2.2.2.1
noncomputable def rest:=kq.2.2.2.2.2.2.2.2.2.2.1
noncomputable def init:=kq.2.2.2.2.2.2.2.2.2.2.2
theorem tq:Gq prog A h g d t os R C rs rest init:=by
 intro w p hC call typ hi hb hrest hq
 refine codeAny_of_tree ?_
 show wpAny _ _ (callAny (.ref C) _) _ _ _
 refine nd_load hC ?_
 show wpAny _ _ (callAny.viaDunder (.ref C) _) _ _ _
 unfold callAny.viaDunder
 refine wpAny_bind (call.at ?_)
 dsimp only
 rw [tc_bind]
 refine wpAny_bind (wpAny_pure (wpAny_bind (wpAny_pure ?_)))
 refine wpAny_pure (a:=Fin.again (.call (.builtin "type.__call__") ⟨.ref C :: rest,[]⟩)) (And.intro rfl ?_)
 refine codeAny_call_builtin_at (Code.quiet_builtin _ (by decide +kernel)) entry_typeCall (check_slot tc_kind tc_split typ (tc_args _ _ _) ?_)
 unfold Builtin.«type.__call__»
 have hm:Looks (model prog w) h (mroOf (.ref C)) (.ref C :: iE rs):=fun A _ E s k q=>by
  obtain ⟨h',g',d',t',os'⟩:=s
  exact wpAny_mroOf_exc (k _ _ hC) q
 have made:Looks (model prog w) h (Bind.madeBy (.ref C)) (some "Exception.__new__"):=fun A _ E s k q=>by
  obtain ⟨h',g',d',t',os'⟩:=s
  exact wpAny_madeBy_exc (k _ _ hC) q
 repeat (first | simp only [List.isEmpty_cons,Bool.false_eq_true,if_false] | with_reducible refine wpAny_call ?_ | lk)
 refine Ja hC ?_ hrest
 have k:∀ b o,h.get? b = some o -> ((h.push { cls:=.type "tuple",data:=.seq rest.toArray }).push (aY C h.objs.size)).get? b = some o:=fun b o e=>Heap.get?_push_of_some _ (Heap.get?_push_of_some _ e)
 have hx:((h.push { cls:=.type "tuple",data:=.seq rest.toArray }).push (aY C h.objs.size)).get? (h.objs.size + 1) = some (aY C h.objs.size):=by
  have:=Heap.get?_push_size (h.push { cls:=.type "tuple",data:=.seq rest.toArray }) (o:=aY C h.objs.size) rfl
  rw [Heap.size_push] at this; exact this
 have t1:Looks (model prog w) ((h.push { cls:=.type "tuple",data:=.seq rest.toArray }).push (aY C h.objs.size)) (typeOf (.ref (h.objs.size + 1))) (.ref C):=(Looks.ld hx).andThen .now
 have self:Looks (model prog w) h (isSubtype (.ref C) (.ref C)) true:=fun A _ E s k q=>by
  obtain ⟨h',g',d',t',os'⟩:=s
  refine wpAny_isSubtype_exc (k _ _ hC) ?_
  rw [show (Value.ref C :: iE rs).contains (.ref C) = true from by simp]
  exact q
 have s1:=self.keeps k
 have i1:=hi.keeps k
 have b1:=(hb (.ref (h.objs.size + 1))).keeps k
 unfold isInstance callSpecial? specialOf
 repeat (first | with_reducible refine wpAny_call ?_ | lk)
 refine codeAny_mono hq fun r s' z=>?_
 rcases r with e | (v | _ | _ | _) <;> first | exact z | exact z.elim | skip
 obtain ⟨rfl,z⟩:=z
 exact wpAny_pure (wpAny_pure z)
end Gf
section
section
variable {prog:Program} {w:World} {A:Around} {E:Value -> Shared -> Prop} {h:Heap} {g:Array GenState} {d:Drawn} {t:Nat} {os:OsState} {R:Result -> Shared -> Prop}
variable {C:Addr} {p:ClassData × Obj} {rs:List Addr}
theorem FE {rest:List Value} {init:Value} (hC:h.get? C = some (jT C p rs)) (call:Looks (model prog w) h (specialOf (.ref C) "__call__") (some (.builtin "type.__call__"))) (typ:Looks (model prog w) h (isInstance (.ref C) (.type "type")) true) (hi:Looks (model prog w) h (typeLookup (.ref C) "__init__") (some init)) (hb:∀ self,Looks (model prog w) h (bindSpecial init self) (init,[self])) (hrest:rest.length <= sizeLine) (hq:codeAny (model prog w) (A.under (.builtin "type.__call__" ⟨.ref C :: rest,[]⟩)) (.call init ⟨.ref (h.objs.size + 1) :: rest,[]⟩) (InitBack (h.objs.size + 1) R) ⟨(h.push { cls:=.type "tuple",data:=.seq rest.toArray }).push (aY C h.objs.size),g,d,t,os⟩):codeAny (model prog w) A (.call (.ref C) ⟨rest,[]⟩) R ⟨h,g,d,t,os⟩ :=
 bD (p:=fun p=>Gf.Gq p.1 p.2.1 p.2.2.1 p.2.2.2.1 p.2.2.2.2.1 p.2.2.2.2.2.1 p.2.2.2.2.2.2.1 p.2.2.2.2.2.2.2.1 p.2.2.2.2.2.2.2.2.1 p.2.2.2.2.2.2.2.2.2.1 p.2.2.2.2.2.2.2.2.2.2.1 p.2.2.2.2.2.2.2.2.2.2.2) Gf.tq (prog,A,h,g,d,t,os,R,C,rs,rest,init) w p hC call typ hi hb hrest hq
end
end
end
end Mine
end
section
open PySem PySem.W PyProof.Rows PySem.Calls Builtin Builtin.ObjectAttr
set_option maxRecDepth 100000
namespace Mine
noncomputable section
section
section
variable {prog:Program} {w:World} {A:Around} {E:Value -> Shared -> Prop} {h:Heap} {g:Array GenState} {d:Drawn} {t:Nat} {os:OsState} {R:Result -> Shared -> Prop}
variable {C:Addr} {p:ClassData × Obj} {rs:List Addr}
end
end
namespace Ge
noncomputable def Gq (prog:PySem.Program) (A:PySem.Around) (E:PySem.Value -> PySem.Shared -> Prop) (h:PySem.Heap) (g:Array PySem.GenState) (d:PySem.Drawn) (t:Nat) (os:PySem.OsState) (C:PySem.Addr) (rs:List PySem.Addr) (e:PySem.Addr) (T:PySem.Addr) (rest:List PySem.Value) (Q:PySem.Value -> PySem.Shared -> Prop):Prop:=∀ (w:PySem.World) (p:PySem.ClassData × PySem.Obj) (hC:h.get? C = some (jT C p rs)) (he:h.get? e = some (aY C T)) (hrest:rest.length <= sizeLine) (hq:∀ h',h'.get? e = some (aY C h.objs.size) -> (∀ b o,b ≠ e -> h.get? b = some o -> h'.get? b = some o) -> Q .none ⟨h',g,d,t,os⟩),wpAny (model prog w) A (call (.builtin "Exception.__init__") (.ref e :: rest)) Q E ⟨h,g,d,t,os⟩
noncomputable def kq:PySem.Program × PySem.Around × (PySem.Value -> PySem.Shared -> Prop) × PySem.Heap × Array PySem.GenState × PySem.Drawn × Nat × PySem.OsState × PySem.Addr × List PySem.Addr × PySem.Addr × PySem.Addr × List PySem.Value × (PySem.Value -> PySem.Shared -> Prop):=cx fun p=>Gq p.1 p.2.1 p.2.2.1 p.2.2.2.1 p.2.2.2.2.1 p.2.2.2.2.2.1 p.2.2.2.2.2.2.1 p.2.2.2.2.2.2.2.1 p.2.2.2.2.2.2.2.2.1 p.2.2.2.2.2.2.2.2.2.1 p.2.2.2.2.2.2.2.2.2.2.1 p.2.2.2.2.2.2.2.2.2.2.2.1 p.2.2.2.2.2.2.2.2.2.2.2.2.1 p.2.2.2.2.2.2.2.2.2.2.2.2.2
noncomputable def prog:=kq.1
noncomputable def A:=kq.2.1
noncomputable def E:=kq.2.2.1
noncomputable def h:=kq.2.2.2.1
noncomputable def g:=kq.2.2.2.2.1
noncomputable def d:=kq.2.2.2.2.2.1
noncomputable def t:=kq.2.2.2.2.2.2.1
noncomputable def os:=kq.2.2.2.2.2.2.2.1
noncomputable def C:=kq.2.2.2.2.2.2.2.2.1
noncomputable def rs:=kq.2.2.2.2.2.2.2.2.2.1
noncomputable def e:=kq.2.2.2.2.2.2.2.2.2.2.1
noncomputable def T:=kq.2.2.2.2.2.2.2.2.2.2.2.1
noncomputable def rest:=kq.2.2.2.2.2.2.2.2.2.2.2.2.1
noncomputable def Q:=kq.2.2.2.2.2.2.2.2.2.2.2.2.2
theorem tq:Gq prog A E h g d t os C rs e T rest Q:=by
 intro w p hC he hrest hq
 have F:=PySem.F.excBase_Exception
 have Ag:(Value.ref C :: iE rs).contains (.type "Exception") = true:=lO (by decide) (C :: rs)
 have Qz:=F.noStar
 refine wpAny_call (codeAny_call_builtin F.init.plain F.initEntry ?_)
 simp only [checkBuiltinCall,F.initKind,F.initSplit,F.initRow]
 repeat (first | with_reducible refine wpAny_loadPart_at he ?_ | with_reducible refine wpAny_loadPart_at hC ?_ | (with_reducible refine wpAny_isSubtype_exc hC ?_; rw [Ag]) | wp_step)
 refine wpAny_onRaise ?_
 rw [show ∀ (a b:String) (n:Nat),Bind.check ⟨.positional,"*","Exception",.self,[⟨"args",.varPos,false⟩]⟩ a b n (List.map (fun x=>x.fst) ({ pos:=Value.ref e :: rest }:Args).kw) = pure () from
  fun a b n=>check_star_args _ _ _ _ _ _]
 refine wpAny_pure ?_
 wp_walk
 refine hq _ ?_ fun b o hb QN=>?_
 ·rw [Heap.get?_update_self _ (Heap.get?_push_of_some _ he) rfl]
  rfl
 ·rw [Heap.get?_update_other _ _ (Ne.symm hb)]
  exact Heap.get?_push_of_some _ QN
end Ge
section
section
variable {prog:Program} {w:World} {A:Around} {E:Value -> Shared -> Prop} {h:Heap} {g:Array GenState} {d:Drawn} {t:Nat} {os:OsState} {R:Result -> Shared -> Prop}
variable {C:Addr} {p:ClassData × Obj} {rs:List Addr}
theorem FD {e T:Addr} {rest:List Value} {Q:Value -> Shared -> Prop} (hC:h.get? C = some (jT C p rs)) (he:h.get? e = some (aY C T)) (hrest:rest.length <= sizeLine) (hq:∀ h',h'.get? e = some (aY C h.objs.size) -> (∀ b o,b ≠ e -> h.get? b = some o -> h'.get? b = some o) -> Q .none ⟨h',g,d,t,os⟩):wpAny (model prog w) A (call (.builtin "Exception.__init__") (.ref e :: rest)) Q E ⟨h,g,d,t,os⟩ :=
 bD (p:=fun p=>Ge.Gq p.1 p.2.1 p.2.2.1 p.2.2.2.1 p.2.2.2.2.1 p.2.2.2.2.2.1 p.2.2.2.2.2.2.1 p.2.2.2.2.2.2.2.1 p.2.2.2.2.2.2.2.2.1 p.2.2.2.2.2.2.2.2.2.1 p.2.2.2.2.2.2.2.2.2.2.1 p.2.2.2.2.2.2.2.2.2.2.2.1 p.2.2.2.2.2.2.2.2.2.2.2.2.1 p.2.2.2.2.2.2.2.2.2.2.2.2.2) Ge.tq (prog,A,E,h,g,d,t,os,C,rs,e,T,rest,Q) w p hC he hrest hq
theorem DK:findCls [] (.type "Exception") (.type "type") "__init__" = some (.val (.builtin "Exception.__init__")):=by kernel_rfl
theorem Ej:typeOf (.type "Exception") = pure (.type "type"):=by kernel_rfl
theorem Er:Manifest.isStub "Exception" = false:=by decide +kernel
theorem DH {K:Frag} {s:Shared} {pl:Sem Bool} {Q:Value × List Value -> Shared -> Prop} (X:K.In s.heap)
  (h:Q (.builtin "Exception.__init__",[]) { s with toks:=s.toks + 1 }):wpAny (model prog w) A (getMethod (.type "Exception") "__init__" pl) Q E s:=by
 have MQ:opaqueClassAbove (.type "Exception") = pure none:=by unfold opaqueClassAbove; dsimp only; rw [Er]; rfl
 have L0:Looks (model prog w) s.heap (typeOf (.type "Exception")) (.type "type"):=Looks.of_pure Ej
 have hg:findIn K (.type "type") "__getattribute__" = some (some (.builtin "type.__getattribute__")):=type_tga
 unfold getMethod specialOf
 refine wpAny_bind (wpAny_bind (L0.here ((looks_findIn X hg).here ?_)))
 dsimp only
 rw [if_pos canon_tga]
 refine wpAny_bind (wpAny_mono (Q:=fun v=>Q (v,[])) (E:=E) ?_ (fun _ _ z=>wpAny_pure z) fun _ _ z=>z)
 have LO:Looks (model prog w) s.heap (opaqueClassAbove (.type "Exception")) none:=Looks.of_pure MQ
 refine cls_open X LO L0 hg (looks_hook X (r:=none) (by rfl)) (by show subIn K _ _ = _; rfl) (show findCls K (.type "Exception") (.type "type") "__init__" = _ from DK)
  (wpAny_pure (by show wpAny _ _ (handedOut (.builtin "Exception.__init__")) _ _ _; rw [handedOut_of (by decide +kernel)]; exact wpAny_pure h))
end
end
end
end Mine
end
section
open PySem PySem.W PyProof.Rows PySem.Calls Builtin Builtin.ObjectAttr
set_option maxRecDepth 100000
namespace Mine
noncomputable section
section
theorem AG {f:Str} {p:Pos}:Shape (.Name f p):=⟨fun _=>rfl,fun _ _=>rfl,fun _ _=>rfl,fun a en w h=>h⟩
noncomputable abbrev PA (C:Addr) (p:ClassData × Obj) (rs:List Addr):ClassData:={ name:=p.1.name,bases:=p.1.bases,mro:=iE (C :: rs),ns:=p.1.ns,qualname:=p.1.qualname,hasDict:=true,slotNames:=p.1.slotNames,subclasses:=p.1.subclasses,abstract:=p.1.abstract,collection:=p.1.collection }
theorem B7 {C:Addr} {p:ClassData × Obj} {rs:List Addr} (h:P.K.lookup C = some (jT C p rs)):clsIn P.K C = some (PA C p rs):=by unfold clsIn; rw [h]; rfl
section
variable {A:Around} {C fI d:Addr} {fd:FuncData} {dv w:Value} {p:ClassData × Obj} {rs:List Addr} {mg mb:Str -> Option Value} {hh h₁:Heap} {gg:Array GenState} {dr:Drawn} {tk:Nat} {os:OsState}
noncomputable abbrev Nf (d:Addr) (w dv:Value):Str -> Option Value:=fun y=>([("self",Value.ref (d + 1)),("what",w),("at",dv)]:List (Str × Value)).reverse.lookup y
theorem FF (X0:XI P C fI fd dv) (XC:ExcAt P C) (hlk:P.K.lookup C = some (jT C p rs)) (N:Ec P mg mb) (IK:P.K.In hh) (k₀:∀ b o,P.h₀.get? b = some o -> hh.get? b = some o) (oX:hh.get? (d + 1) = none)
  (kp:∀ b o,hh.get? b = some o -> h₁.get? b = some o) (xA:h₁.get? (d + 1) = some (aY C d)) (hns:h₁.Ns (d + 2) (Nf d w dv)) {E:Value -> Shared -> Prop} {Q:PySem.Flow -> Shared -> Prop}
  (q:∀ h5 G2 T dx,(∀ b o,hh.get? b = some o -> h5.get? b = some o) -> h5.get? (d + 1) = some { aY C T with dict:=some dx } -> Q .next ⟨h5,gg,dr,G2,os⟩) :
  wpAny P.M A (PySem.execs xB (callEnv fd (d + 2) fI)) Q E ⟨h₁,gg,dr,tk,os⟩:=by
 have Q6:=kp _ _ (IK _ _ hlk)
 have Hw:h₁.Ns (callEnv fd (d + 2) fI).globals mg:=by rw [show (callEnv fd (d + 2) fI).globals = mainGlobals from X0.at_.globals]; exact N.hg.keeps fun b o e=>kp b o (k₀ b o e)
 have QM:h₁.Ns (callEnv fd (d + 2) fI).builtins mb:=by rw [show (callEnv fd (d + 2) fI).builtins = builtinsNs from X0.at_.builtins]; exact N.hb.keeps fun b o e=>kp b o (k₀ b o e)
 have at2:∀ {h':Heap},(∀ o,h₁.get? (d + 2) = some o -> h'.get? (d + 2) = some o) -> h'.Ns (d + 2) (Nf d w dv):=fun k=>let ⟨o,es,ep,e,r⟩:=hns; ⟨o,es,ep,k o e,r⟩
 have l1:(callEnv fd (d + 2) fI).kindOf "self" = some .local:=X0.loc _ (.head _)
 have l2:(callEnv fd (d + 2) fI).kindOf "what" = some .local:=X0.loc _ (.tail _ (.head _))
 have l3:(callEnv fd (d + 2) fI).kindOf "at" = some .local:=X0.loc _ (.tail _ (.tail _ (.head _)))
 have ht:∀ t ∈ backTo ⟨8,8,8,38⟩ (starEach [.Name "self" ⟨8,27,8,31⟩,.Name "what" ⟨8,33,8,37⟩] (callEnv fd (d + 2) fI)),t.1 = false:=fun t ht=>(List.mem_cons.mp ht).elim (fun e=>e ▸ rfl) fun ht=>(List.mem_cons.mp ht).elim (fun e=>e ▸ rfl) fun ht=>(by cases ht)
 refine wpAny_execs_cons (wpAny_Expr_any ?_ (by unfold interactive; rw [show (callEnv fd (d + 2) fI).scope.kind = .function from X0.kind]; rfl) rfl)
 refine uX AG rfl (show 2 < 30 by decide) ht (Name_function_global X0.kind X0.glob (loadGlobal_builtin Hw N.DP.1 QM N.DP.2 ?_) (by decide))
 intro pl
 refine DH (IK.keeps kp) (cu ht ?_)
 show wpAny _ _ (spliced ((false,_) :: (false,_) :: [])) _ _ _
 refine spliced_cons (ldc X0.kind l1 hns rfl (spliced_cons (ldc X0.kind l2 hns rfl (spliced_nil ⟨⟨.machine,.inr rfl,fun h=>wpAny_pure h⟩,?_⟩))))
 show wpAny _ _ (call (.builtin "Exception.__init__") [.ref (d + 1),w]) _ _ _
 refine FD Q6 xA (by rw [sizeLine_eq]; exact Nat.le_of_ble_eq_true rfl) fun h3 g3 k3=>?_
 have ne3:∀ b o,hh.get? b = some o -> b ≠ d + 1:=fun b o e w=>aX e (w ▸ oX)
 have mP:∀ b o,hh.get? b = some o -> h3.get? b = some o:=fun b o e=>k3 b o (ne3 b o e) (kp b o e)
 have Lg:∀ o,h₁.get? (d + 2) = some o -> h3.get? (d + 2) = some o:=fun o e=>k3 _ o (Nat.succ_ne_self (d + 1)) e
 refine wpAny_execs_cons (plainObj_wpAny_Assign_Attribute (ldc X0.kind l2 (at2 Lg) rfl (ldc X0.kind l1 (at2 Lg) rfl ?_)) (nS _ _ _ _ _ _))
 refine BH (IK.keeps mP) g3 (B7 hlk) (rs:=C :: rs) rfl rfl XC.wc X0.PJ fun h4 RU g4 PX k4=>?_
 have Ol:∀ o,h₁.get? (d + 2) = some o -> h4.get? (d + 2) = some o:=fun o e=>k4 _ o (Nat.succ_ne_self (d + 1)) (Lg o e)
 have qS:∀ b o,hh.get? b = some o -> h4.get? b = some o:=fun b o e=>k4 b o (ne3 b o e) (mP b o e)
 refine wpAny_execs_cons (plainObj_wpAny_Assign_Attribute (ldc X0.kind l3 (at2 Ol) rfl (ldc X0.kind l1 (at2 Ol) rfl ?_)) (nS _ _ _ _ _ _))
 refine BG (IK.keeps qS) g4 PX (Within.cons "what" w Within.nil) (B7 hlk) (rs:=C :: rs) rfl rfl XC.wc X0.PI fun h5 G2 k5=>wpAny_execs_nil ?_
 have Hz:∀ b o,h3.get? b = some o -> b ≠ h3.objs.size:=fun b o e=>Nat.ne_of_lt (Heap.lt_size e)
 exact q h5 G2 _ _ (fun b o e=>(k5.2 b (Hz b o (mP b o e))).trans (qS b o e)) ((k5.2 (d + 1) (Hz _ _ g3)).trans g4)
end
section
variable {n:Nat} {A:Around} {fs:List Env} {own:List Addr} {env:Env} {σ:Loc} {g:Gh} {H:Hp} {s:Shared} {Q:Value -> Shared -> Prop} {E:Value -> Shared -> Prop}
theorem FA (T:oN P) (NL:P.h₀.NoLimit) {c:Nm} {C:Addr} (hP:P.exc c = some C) (X:ExcAt P C) {mg mb:Str -> Option Value} (N:Ec P mg mb) {p:ClassData × Obj} {rs:List Addr} (hlk:P.K.lookup C = some (jT C p rs))
  (h:Here (n + 1) A fs own env σ g H s) {w:Value}
  (q:∀ s' e dx t,After (frs fs) g.μ g s g H s' -> kY s.heap g c s'.heap (.ref e) -> s'.heap.get? e = some { aY C t with dict:=some dx } -> Q (.ref e) s'):wpAny P.M A (call (.ref C) [w]) Q E s:=by
 obtain ⟨fI,fd,dv,hfind,hty,X0⟩:=X.init
 obtain ⟨o,f1,f2⟩:=X0.at_.obj
 have IK:=h.inv.oU T
 have i₀:=h.inv
 have k₀:=i₀.jM
 refine wpAny_call (FE (IK _ _ hlk) (looks_specialIn IK X.call) (looks_instIn IK X.typ) (looks_findIn IK hfind) (fun self=>bind_fn IK self hty) (by rw [sizeLine_eq]; exact Nat.le_of_ble_eq_true rfl) ?_)
 have je:∀ b o,s.heap.get? b = some o -> ((s.heap.push { cls:=.type "tuple",data:=.seq [w].toArray }).push (aY C s.heap.objs.size)).get? b = some o:=fun b o e=>Heap.get?_push_of_some _ (Heap.get?_push_of_some _ e)
 have kk:∀ b o,P.h₀.get? b = some o -> ((s.heap.push { cls:=.type "tuple",data:=.seq [w].toArray }).push (aY C s.heap.objs.size)).get? b = some o:=fun b o e=>je b o (k₀ b o e)
 refine codeAny_call_def (by rw [depth_under_kw]; have:=h.depth; omega) (kk _ _ f1) f2 (NL.keeps kk) (X0.at_.code.keeps kk) X0.at_.body (X0.binds _ _ _ kk) X0.jD (fun y hy=>?_) (fun h₁ hns hkeep=>?_) X0.co X0.gen X0.kind
 ·exact (List.mem_cons.mp hy).elim (fun e=>e ▸ X0.loc _ (.head _)) fun hy=>(List.mem_cons.mp hy).elim (fun e=>e ▸ X0.loc _ (.tail _ (.head _))) fun hy=>(List.mem_cons.mp hy).elim (fun e=>e ▸ X0.loc _ (.tail _ (.tail _ (.head _)))) fun hy=>(by cases hy)
 have sz:((s.heap.push { cls:=.type "tuple",data:=.seq [w].toArray }).push (aY C s.heap.objs.size)).objs.size = s.heap.objs.size + 2:=by rw [Heap.size_push,Heap.size_push]
 rw [show Shared.heap ⟨(s.heap.push { cls:=.type "tuple",data:=.seq [w].toArray }).push (aY C s.heap.objs.size),s.gens,s.drawn,s.toks,s.os⟩ = _ from rfl,sz] at hns
 rw [show Shared.heap ⟨(s.heap.push { cls:=.type "tuple",data:=.seq [w].toArray }).push (aY C s.heap.objs.size),s.gens,s.drawn,s.toks,s.os⟩ = _ from rfl,sz]
 have oX:s.heap.get? (s.heap.objs.size + 1) = none:=Heap.get?_none_of_le (Nat.le_succ _)
 refine FF X0 X hlk N IK k₀ oX (fun b o e=>hkeep b o (je b o e)) (hkeep _ _ ?_) hns fun h5 G2 T dx Hl g5=>⟨rfl,?_⟩
 ·have:=Heap.get?_push_size (s.heap.push { cls:=.type "tuple",data:=.seq [w].toArray }) (o:=aY C s.heap.objs.size) rfl
  rw [Heap.size_push] at this; exact this
 ·have fx:=i₀.fresh oX
  exact q _ _ dx _ (.grow i₀ Hl) (.mk _ _ _ C oX fx.2 fx.1 hP g5 rfl rfl (Nat.le_of_ble_eq_true rfl) (.inl rfl)) g5
end
end
end
end Mine
end
section
open PySem PySem.W PyProof.Rows PySem.Calls Builtin Builtin.ObjectAttr
namespace Mine
noncomputable section
section
section
variable {M:Model} {A:Around} {E:Value -> Shared -> Prop} {env:Env}
theorem AM {s:Shared} {C:Addr} {p:ClassData × Obj} {rs:List Addr} {x:Sem Value} {Q:PySem.Flow -> Shared -> Prop} (hh:A.handled = none)
  (h:wpAny M A x (fun v s₁=>∃ e t dx,v = .ref e /\ s₁.heap.get? C = some (jT C p rs) /\ s₁.heap.get? e = some { aY C t with dict:=some dx } /\ E (.ref e) s₁) E s) :
  wpAny M A (raiseStmt env (some x) none) Q E s:=by
 have Ag:(Value.ref C :: iE rs).contains (.type "BaseException") = true:=lO (by decide) (C :: rs)
 unfold raiseStmt
 refine wpAny_bind (wpAny_mono h (fun v s₁ h₁=>?_) fun _ _ x=>x)
 obtain ⟨e,t,dx,rfl,hC,he,hE⟩:=h₁
 obtain ⟨hp,g,d,tk,os⟩:=s₁
 repeat (first | with_reducible refine wpAny_loadPart_at he ?_ | with_reducible refine wpAny_loadPart_at hC ?_ | (with_reducible refine wpAny_isSubtype_exc hC ?_; rw [Ag]) | wp_step)
 exact wpAny_raiseNew_none hh hE
end
section
variable {n:Nat} {ks:List (Str × NameKind)} {f c d:Str} {p pos q pc pd qq hp pp:Pos} {kd kk:Nat} {v:Bool} {e:Expr} {x:TE} {b:List Stmt} {xs:List TS}
theorem yM (G:dT P) (hex:fM (nm f) = true) (hf:aQ ks f = true) (hd:(f == aM) = false) (g:Good n 2 ks e x) {X:Cx} {σ:Loc} {t:St} {br bk:LP} {rt:AP} {ex:EP} {Q:PySem.Flow -> Shared -> Prop} {R:Value -> Shared -> Prop} (h:gj n ks X σ t) (o:(.raise (nm f) x:TS) (WF n) σ t.H br bk rt ex) (fi:Ends X t br bk rt ex Q R):wpAny P.M X.A (PySem.exec (.Raise (some (.Call (.Name f p) [e] [] pos)) none q) X.env) Q R t.s :=
 G.ns.elim fun mg N=>N.elim fun mb N=>(N.exc f hex).elim fun C hall=>by
 obtain ⟨hP,QF,XA,_⟩:=hall
 obtain ⟨pp,rs,hlk⟩:=XA.obj
 rw [arm_exec_Raise]
 refine wpAny_bind (wpAny_standAt ?_)
 refine AM (C:=C) (p:=pp) (rs:=rs) h.at_.here.handled (wpAny_bind ?_)
 rw [arm_eval_Call_Name']
 refine wpAny_bind (dS N h.at_ hd hf (.inl QF) ?_)
 show wpAny P.M X.A (callWith pos (.ref C) [] (backTo pos (starEach [e] X.env)) []) _ R t.s
 refine cu (by rw [g.sh.star]; exact fun t ht=>by cases List.mem_singleton.mp ht; rfl) ?_
 rw [g.sh.star]
 refine spliced_cons (g.ev X σ t _ ex _ R h.at_ o (fi.val fun vv u t1 o a1 r1=>?_))
 have h1:=h.after a1
 have IK:=h1.at_.inv.oU G.T
 refine spliced_nil ⟨⟨.machine,.inr rfl,fun {Q'} hq=>?_⟩,?_⟩
 ·obtain ⟨g1,H1,⟨hh,gg,dr,tk,os⟩⟩:=t1
  exact wpAny_keeperOf_exc (IK _ _ hlk) hq
 show wpAny P.M X.A (PySem.call (.ref C) [u]) _ R t1.s
 exact FA G.T G.nolimit hP XA N hlk h1.at_.here fun s2 ea dx tt a2 y2 g2=>wpAny_bind (wpAny_standAt (wpAny_pure ⟨ea,tt,dx,rfl,a2.inv.oU G.T _ _ hlk,g2,fi.e (nm f) (.ref ea) ⟨t1.g,t1.H,s2⟩ o (After.toS (a1.then a2)) (y2.base fun b hb=>a1.keep.fresh hb)⟩))
theorem Cy (G:dT P) (hex:fM (nm f) = true) (hf:aQ ks f = true) (hd:(f == aM) = false) (g:Good n 2 ks e x):lg n ks (.Raise (some (.Call (.Name f p) [e] [] pos)) none q) (.raise (nm f) x):=fun X σ t br bk rt ex Q R h o fi=>yM G hex hf hd g h o fi
theorem jt.grow {B h h':Heap} {g:Gh} {c:Nm} {x:Value} (y:jt B g c x h) (k:∀ b o,h.get? b = some o -> h'.get? b = some o):jt B g c x h':=by
 obtain ⟨e,oe,vs,C,T,oT,ts,h1,h2,h3,h4,h5,h6,h7,h8,h9,tg,h11,h12⟩:=y
 exact ⟨e,oe,vs,C,T,oT,ts,h1,h2,h3,k _ _ h4,h5,h6,h7,h8,h9,k _ _ tg,h11,h12⟩
end
end
namespace Gd
noncomputable def Gq (n:Nat) (ks:List (PySem.Str × PySem.NameKind)) (c:PySem.Str) (d:PySem.Str) (p:PySem.Pos) (q:PySem.Pos) (pc:PySem.Pos) (pd:PySem.Pos) (qq:PySem.Pos) (hp:PySem.Pos) (pp:PySem.Pos) (kd:Nat) (kk:Nat) (v:Bool) (b:List PySem.Stmt) (xs:List Mine.TS) (X:Mine.Cx) (σ:Mine.Loc) (t:Mine.St) (br:Mine.LP) (bk:Mine.LP) (rt:Mine.AP) (ex:Mine.EP) (Q:PySem.Flow -> PySem.Shared -> Prop) (R:PySem.Value -> PySem.Shared -> Prop):Prop:=∀ (G:dT P) (hc1:fM (nm c) = true) (hc2:aQ ks c = true) (hc3:(c == aM) = false) (hd1:fM (nm d) = true) (hd2:aQ ks d = true) (mi:(d == aM) = false) (g:fB n ks b xs) (h:gj n ks X σ t) (o:(.Ay xs [nm c,nm d] (.bool v):TS) (WF n) σ t.H br bk rt ex) (fi:Ends X t br bk rt ex Q R),wpAny P.M X.A (PySem.exec (.Try b [.ExceptHandler (some (.Tuple [.Name c pc,.Name d pd] kd p)) none [.Return (some (.Constant (.bool v) kk pp)) qq] hp] [] [] q) X.env) Q R t.s
noncomputable def kq:Nat × List (PySem.Str × PySem.NameKind) × PySem.Str × PySem.Str × PySem.Pos × PySem.Pos × PySem.Pos × PySem.Pos × PySem.Pos × PySem.Pos × PySem.Pos × Nat × Nat × Bool × List PySem.Stmt × List Mine.TS × Mine.Cx × Mine.Loc × Mine.St × Mine.LP × Mine.LP × Mine.AP × Mine.EP × (PySem.Flow -> PySem.Shared -> Prop) × (PySem.Value -> PySem.Shared -> Prop):=cx fun p=>Gq p.1 p.2.1 p.2.2.1 p.2.2.2.1 p.2.2.2.2.1 p.2.2.2.2.2.1 p.2.2.2.2.2.2.1 p.2.2.2.2.2.2.2.1 p.2.2.2.2.2.2.2.2.1 p.2.2.2.2.2.2.2.2.2.1 p.2.2.2.2.2.2.2.2.2.2.1 p.2.2.2.2.2.2.2.2.2.2.2.1 p.2.2.2.2.2.2.2.2.2.2.2.2.1 p.2.2.2.2.2.2.2.2.2.2.2.2.2.1 p.2.2.2.2.2.2.2.2.2.2.2.2.2.2.1 p.2.2.2.2.2.2.2.2.2.2.2.2.2.2.2.1 p.2.2.2.2.2.2.2.2.2.2.2.2.2.2.2.2.1 p.2.2.2.2.2.2.2.2.2.2.2.2.2.2.2.2.2.1 p.2.2.2.2.2.2.2.2.2.2.2.2.2.2.2.2.2.2.1 p.2.2.2.2.2.2.2.2.2.2.2.2.2.2.2.2.2.2.2.1 p.2.2.2.2.2.2.2.2.2.2.2.2.2.2.2.2.2.2.2.2.1 p.2.2.2.2.2.2.2.2.2.2.2.2.2.2.2.2.2.2.2.2.2.1 p.2.2.2.2.2.2.2.2.2.2.2.2.2.2.2.2.2.2.2.2.2.2.1 p.2.2.2.2.2.2.2.2.2.2.2.2.2.2.2.2.2.2.2.2.2.2.2.1 p.2.2.2.2.2.2.2.2.2.2.2.2.2.2.2.2.2.2.2.2.2.2.2.2
noncomputable def n:=kq.1
noncomputable def ks:=kq.2.1
noncomputable def c:=kq.2.2.1
noncomputable def d:=kq.2.2.2.1
noncomputable def p:=kq.2.2.2.2.1
noncomputable def q:=kq.2.2.2.2.2.1
noncomputable def pc:=kq.2.2.2.2.2.2.1
noncomputable def pd:=kq.2.2.2.2.2.2.2.1
noncomputable def qq:=kq.2.2.2.2.2.2.2.2.1
noncomputable def hp:=kq.2.2.2.2.2.2.2.2.2.1
noncomputable def pp:=kq.2.2.2.2.2.2.2.2.2.2.1
noncomputable def kd:=kq.2.2.2.2.2.2.2.2.2.2.2.1
noncomputable def kk:=kq.2.2.2.2.2.2.2.2.2.2.2.2.1
noncomputable def v:=kq.2.2.2.2.2.2.2.2.2.2.2.2.2.1
noncomputable def b:=kq.2.2.2.2.2.2.2.2.2.2.2.2.2.2.1
noncomputable def xs:=kq.2.2.2.2.2.2.2.2.2.2.2.2.2.2.2.1
noncomputable def X:=kq.2.2.2.2.2.2.2.2.2.2.2.2.2.2.2.2.1
noncomputable def σ:=kq.2.2.2.2.2.2.2.2.2.2.2.2.2.2.2.2.2.1
noncomputable def t:=kq.2.2.2.2.2.2.2.2.2.2.2.2.2.2.2.2.2.2.1
noncomputable def br:=kq.2.2.2.2.2.2.2.2.2.2.2.2.2.2.2.2.2.2.2.1
noncomputable def bk:=kq.2.2.2.2.2.2.2.2.2.2.2.2.2.2.2.2.2.2.2.2.1
noncomputable def rt:=kq.2.2.2.2.2.2.2.2.2.2.2.2.2.2.2.2.2.2.2.2.2.1
noncomputable def ex:=kq.2.2.2.2.2.2.2.2.2.2.2.2.2.2.2.2.2.2.2.2.2.2.1
noncomputable def Q:=kq.2.2.2.2.2.2.2.2.2.2.2.2.2.2.2.2.2.2.2.2.2.2.2.1
noncomputable def R:=kq.2.2.2.2.2.2.2.2.2.2.2.2.2.2.2.2.2.2.2.2.2.2.2.2
theorem tq:Gq n ks c d p q pc pd qq hp pp kd kk v b xs X σ t br bk rt ex Q R:=by
 intro G hc1 hc2 hc3 hd1 hd2 mi g h o fi
 refine wpAny_Try_except (g X σ t br bk rt _ _ _ h o ⟨fun σ' t' o a m=>wpAny_execs_nil (fi.n σ' t' o a m),fi.b,fi.r,fun cc xx t3 o a3 y3=>G.ns.elim fun mg N=>N.elim fun mb N=>(N.exc c hc1).elim fun C1 hc=>(N.exc d hd1).elim fun C2 hd=>?_⟩)
 obtain ⟨R1,hm1,X1,hs1⟩:=hc
 obtain ⟨R0,hm2,X2,hs2⟩:=hd
 obtain ⟨hmem,o⟩:=o
 obtain ⟨L,hL⟩:=Option.ne_none_iff_exists'.mp h.frame
 obtain ⟨fs,hfs⟩:=h.top
 have hP:∀ b ∈ frs X.fs,fh t.s.heap t3.g b:=fun b hb=>by
  obtain ⟨_,o,e,_⟩:=Heap.FunFrames.mem h.fm.frames hb
  exact .inl (by rw [e]; exact fun q=>by cases q)
 have live:∀ b,fh t.s.heap t3.g b -> ∃ o,t3.s.heap.get? b = some o:=fun b p=>by
  rcases p with p | p | p
  ·cases q:t.s.heap.get? b with
   | none=>exact (p q).elim
   | some o=>exact a3.keep.live b o q
  ·exact a3.inv.oj b p
  ·exact a3.inv.oi b p
 have hF:∀ b ∈ frs X.fs,¬ t3.g.Z b /\ b ∉ t3.g.μ:=fun b hb=>by
  obtain ⟨q1,q2⟩:=h.fm.bH b hb
  obtain ⟨_,o,e,_⟩:=Heap.FunFrames.mem h.fm.frames hb
  exact ⟨fun z=>(a3.le.kh b z).elim q1 (aX e),fun z=>(a3.le.mem z).elim q2 (aX e)⟩
 refine lT (outer:=fs) y3 (hfs ▸ h.at_.here.frames) (hfs ▸ iD a3.keep.nf h.fm.frames) hL (hfs ▸ hP) live fun h4 y4 J7=>?_
 refine jA (s:={ t3.s with heap:=h4 }) y4 (frs (X.env :: fs)) fun h5 y5 J6=>?_
 have a5:fG X t ⟨t3.g,t3.H,{ t3.s with heap:=h5 }⟩:=After.noted a3 (fun b o e=>by rw [e]; exact fun q=>by cases q) hF h.at_.inv.iu (by rw [hfs]; exact J7.trans J6)
 have IK:P.K.In h5:=a5.inv.oU G.T
 have Pz:=y5
 obtain ⟨ea,oe,vs,C,T,oT,ts,rfl,z2,z3,z4,z5,z6,z7⟩:=Pz
 have MJ:∀ b o,P.h₀.get? b = some o -> h5.get? b = some o:=a5.inv.jM
 have N4:h5.Ns X.env.globals mg:=by rw [h.fm.globals]; exact N.hg.keeps MJ
 refine wpAny_handleBy_cons (codeAny_handlers_test ?_) (by intro q; cases q)
 rw [arm_eval_Tuple]
 refine wpAny_bind (wpAny_standAt (wpAny_bind ?_))
 show wpAny _ _ (spliced ((false,_) :: (false,_) :: [])) _ _ _
 refine spliced_cons (Name_function_global h.fm.kind (h.at_.kn.glob c (lC hc2)) (loadGlobal_global N4 hm1 ?_) hc3)
 refine spliced_cons (Name_function_global h.fm.kind (h.at_.kn.glob d (lC hd2)) (loadGlobal_global N4 hm2 ?_) mi)
 refine spliced_nil ?_
 unfold newTuple
 refine wpAny_newObj_type ?_ (cP (by simp [lim]))
 generalize hO:({ cls:=.type "tuple",data:=.seq [Value.ref C1,Value.ref C2].toArray }:Obj) = O
 have k6:∀ b o,h5.get? b = some o -> (h5.push O).get? b = some o:=fun b o e=>Heap.get?_push_of_some _ e
 have a6:fG X t ⟨t3.g,t3.H,{ t3.s with heap:=h5.push O }⟩:=a5.Mu (.grow a5.inv k6)
 have y6:=y5.grow k6
 have QE:(h5.push O).get? h5.objs.size = some O:=Heap.get?_push_size h5 (by rw [← hO]; rfl)
 have LT:Looks P.M (h5.push O) (typeOf (.ref ea)) (.ref C):=by
  obtain ⟨oc,od,RV,osl⟩:=oe
  dsimp only at z5
  subst z5
  exact (Looks.ld (k6 _ _ z4)).andThen .now
 have hx:exmAny P.K (.ref C) [.ref C1,.ref C2] = some true:=by
  unfold exmAny exmAny exmAny
  rw [hs1 cc C z3,hs2 cc C z3]
  simp only [List.mem_cons,List.not_mem_nil,or_false] at hmem
  rcases hmem with w | w <;> simp [w]
 refine (exm_tup2 (M:=P.M) (IK.keeps k6) LT (by rw [QE,← hO]) hx).here ?_
 show codeAny _ _ _ _ _
 refine codeAny_handlers_suite (jA (s:={ t3.s with heap:=h5.push O }) y6 (frs (X.env :: fs)) fun h7 y7 Qh=>?_)
 exact wpAny_execs_cons (wpAny_Return_some (wpAny_pure (fi.r (.bool v) (.bool v) ⟨t3.g,t3.H,{ t3.s with heap:=h7 }⟩ o (After.noted (s':={ t3.s with heap:=h5.push O }) a6 (fun b o e=>by rw [e]; exact fun q=>by cases q) hF h.at_.inv.iu (by rw [hfs]; exact Qh)) (.bool v))))
end Gd
section
section
variable {n:Nat} {ks:List (Str × NameKind)} {f c d:Str} {p pos q pc pd qq hp pp:Pos} {kd kk:Nat} {v:Bool} {e:Expr} {x:TE} {b:List Stmt} {xs:List TS}
theorem Cv (G:dT P) (hc1:fM (nm c) = true) (hc2:aQ ks c = true) (hc3:(c == aM) = false) (hd1:fM (nm d) = true) (hd2:aQ ks d = true) (mi:(d == aM) = false) (g:fB n ks b xs) {X:Cx} {σ:Loc} {t:St} {br bk:LP} {rt:AP} {ex:EP} {Q:PySem.Flow -> Shared -> Prop} {R:Value -> Shared -> Prop} (h:gj n ks X σ t) (o:(.Ay xs [nm c,nm d] (.bool v):TS) (WF n) σ t.H br bk rt ex) (fi:Ends X t br bk rt ex Q R):wpAny P.M X.A (PySem.exec (.Try b [.ExceptHandler (some (.Tuple [.Name c pc,.Name d pd] kd p)) none [.Return (some (.Constant (.bool v) kk pp)) qq] hp] [] [] q) X.env) Q R t.s :=
 bD (p:=fun p=>Gd.Gq p.1 p.2.1 p.2.2.1 p.2.2.2.1 p.2.2.2.2.1 p.2.2.2.2.2.1 p.2.2.2.2.2.2.1 p.2.2.2.2.2.2.2.1 p.2.2.2.2.2.2.2.2.1 p.2.2.2.2.2.2.2.2.2.1 p.2.2.2.2.2.2.2.2.2.2.1 p.2.2.2.2.2.2.2.2.2.2.2.1 p.2.2.2.2.2.2.2.2.2.2.2.2.1 p.2.2.2.2.2.2.2.2.2.2.2.2.2.1 p.2.2.2.2.2.2.2.2.2.2.2.2.2.2.1 p.2.2.2.2.2.2.2.2.2.2.2.2.2.2.2.1 p.2.2.2.2.2.2.2.2.2.2.2.2.2.2.2.2.1 p.2.2.2.2.2.2.2.2.2.2.2.2.2.2.2.2.2.1 p.2.2.2.2.2.2.2.2.2.2.2.2.2.2.2.2.2.2.1 p.2.2.2.2.2.2.2.2.2.2.2.2.2.2.2.2.2.2.2.1 p.2.2.2.2.2.2.2.2.2.2.2.2.2.2.2.2.2.2.2.2.1 p.2.2.2.2.2.2.2.2.2.2.2.2.2.2.2.2.2.2.2.2.2.1 p.2.2.2.2.2.2.2.2.2.2.2.2.2.2.2.2.2.2.2.2.2.2.1 p.2.2.2.2.2.2.2.2.2.2.2.2.2.2.2.2.2.2.2.2.2.2.2.1 p.2.2.2.2.2.2.2.2.2.2.2.2.2.2.2.2.2.2.2.2.2.2.2.2) Gd.tq (n,ks,c,d,p,q,pc,pd,qq,hp,pp,kd,kk,v,b,xs,X,σ,t,br,bk,rt,ex,Q,R) G hc1 hc2 hc3 hd1 hd2 mi g h o fi
theorem Ik (G:dT P) (hc1:fM (nm c) = true) (hc2:aQ ks c = true) (hc3:(c == aM) = false) (hd1:fM (nm d) = true) (hd2:aQ ks d = true) (mi:(d == aM) = false) (g:fB n ks b xs):lg n ks (.Try b [.ExceptHandler (some (.Tuple [.Name c pc,.Name d pd] kd p)) none [.Return (some (.Constant (.bool v) kk pp)) qq] hp] [] [] q) (.Ay xs [nm c,nm d] (.bool v)):=fun X σ t br bk rt ex Q R h o fi=>Cv G hc1 hc2 hc3 hd1 hd2 mi g h o fi
end
end
end
end Mine
end
section
open PySem PySem.W PyProof.Rows PySem.Calls
namespace Mine
noncomputable section
section
noncomputable def gn {α:Type} (b:Bool) (f:b = true -> Option α):Option α:=Bool.rec (motive:=fun b=>(b = true -> Option α) -> Option α) (fun _=>none) (fun f=>f rfl) b f
noncomputable def lS {α:Type} (b:Bool) (f:b = false -> Option α):Option α:=Bool.rec (motive:=fun b=>(b = false -> Option α) -> Option α) (fun f=>f rfl) (fun _=>none) b f
noncomputable def Cr {α β:Type} (o:Option α) (f:∀ a,o = some a -> Option β):Option β:=Option.rec (motive:=fun o=>(∀ a,o = some a -> Option β) -> Option β) (fun _=>none) (fun a f=>f a rfl) o f
noncomputable def Wk (n d:Nat):Prop:=0 < d -> nQ n /\ ∀ f cl D,gQ.lookup f = some cl -> vC f = some D -> yx cl D
section
variable (n:Nat)
noncomputable abbrev RE (d:Nat) (ks:List (Str × NameKind)) (e:Expr):Type:=Option {x:TE // Good n d ks e x}
noncomputable abbrev CE:Type:=∀ d,Wk n d -> ∀ ks e,RE n d ks e
end
section
variable {n d:Nat} {ks:List (Str × NameKind)}
noncomputable def HN (f:∀ e,RE n d ks e) (es:List Expr):Option {xs:List TE // kX n d ks es xs} :=
 List.rec (motive:=fun es=>Option {xs:List TE // kX n d ks es xs}) (some ⟨[],Dt⟩) (fun e _ ih=>(f e).bind fun x=>ih.bind fun xs=>some ⟨x.1 :: xs.1,Bo x.2 xs.2⟩) es
noncomputable def Rx (f:∀ e,RE n d ks e) (es:List Expr):Option {xs:List TE // jY n d ks es xs} :=
 List.rec (motive:=fun es=>Option {xs:List TE // jY n d ks es xs}) (some ⟨[],EH⟩) (fun e _ ih=>(f e).bind fun x=>ih.bind fun xs=>some ⟨x.1 :: xs.1,CI x.2 xs.2⟩) es
noncomputable def OF (f:∀ e,RE n d ks e):∀ j1 kM,Option {xs:List (TE × TE) // tV n d ks j1 kM xs}
 | [],[]=>some ⟨[],Dw⟩
 | [],_ :: _=>none
 | _ :: _,[]=>none
 | a :: j1,b :: kM=>match a with
  | none=>none
  | some a=>(f a).bind fun x=>(f b).bind fun y=>(OF f j1 kM).bind fun xs=>some ⟨(x.1,y.1) :: xs.1,Bq x.2 y.2 xs.2⟩
noncomputable def Po (f:∀ e,RE n d ks e) (r:List Expr):∀ a,Option {x:TE // GoodC n d ks .And (a :: r) x} :=
 List.rec (motive:=fun r=>∀ a,Option {x:TE // GoodC n d ks .And (a :: r) x}) (fun a=>(f a).bind fun x=>some ⟨x.1,vg x.2⟩) (fun b _ ih a=>(f a).bind fun x=>(ih b).bind fun y=>some ⟨_,Fv x.2 y.2⟩) r
noncomputable def Rr (f:∀ e,RE n d ks e) (r:List Expr):∀ a,Option {x:TE // GoodC n d ks .Or (a :: r) x} :=
 List.rec (motive:=fun r=>∀ a,Option {x:TE // GoodC n d ks .Or (a :: r) x}) (fun a=>(f a).bind fun x=>some ⟨x.1,vg x.2⟩) (fun b _ ih a=>(f a).bind fun x=>(ih b).bind fun y=>some ⟨_,I2 x.2 y.2⟩) r
variable (G:dT P)
include G
noncomputable def OI (f:∀ e,RE n d ks e) {g:Str} {p pos:Pos} (hd:(g == aM) = false) (hf:aQ ks g = true) {b:Bi} (hb:BU g = some b \/ ((g == ("dict":Str)) = true /\ ∃ fz,b = .dict fz)):∀ as,RE n d ks (.Call (.Name g p) as [] pos)
 | []=>none
 | a :: r=>match r with
  | []=>(f a).bind fun x=>some ⟨_,I3 G hd hf hb x.2⟩
  | _ :: _=>none
noncomputable def MY (f:∀ e,RE n d ks e) {g:Str} {p pos:Pos} (hd:(g == aM) = false) (hf:aQ ks g = true) (hi:(g == ("isinstance":Str)) = true):∀ as,RE n d ks (.Call (.Name g p) as [] pos)
 | [a,.Name t q]=>lS (t == aM) fun h1=>gn (aQ ks t) fun h2=>Cr (Ek t) fun ty h3=>(f a).bind fun x=>some ⟨_,Dy G hd hf hi h1 h2 h3 x.2⟩
 | _=>none
noncomputable def Rw (W:Wk n d) (f:∀ e,RE n d ks e) {g:Str} {p pos:Pos} (hd:(g == aM) = false) (hf:aQ ks g = true) (as:List Expr):RE n d ks (.Call (.Name g p) as [] pos) :=
 lS (g == ("super":Str)) fun hs=>match d with
  | 0=>none
  | d + 1=>(HN f as).bind fun xs=>match h:gQ.lookup (nm g) with
   | some cl=>Cr (vC (nm g)) fun D hD=>some ⟨_,Fl G hd hs hf h hD ((W (Nat.succ_pos d)).2 _ _ _ h hD) xs.2⟩
   | none=>lS ((nm g).contains 46) fun h=>Cr (kT (nm g)) fun D hD=>some ⟨_,DE G (W (Nat.succ_pos d)).1 hd hs hf h hD xs.2⟩
noncomputable def M0 (W:Wk n d) (f:∀ e,RE n d ks e) (g:Str) (p pos:Pos) (as:List Expr):RE n d ks (.Call (.Name g p) as [] pos) :=
 lS (g == aM) fun hd=>gn (aQ ks g) fun hf=>
  match h:BU g with
  | some b=>OI G f hd hf (.inl h) as
  | none=>match h:g == ("dict":Str) with
   | true=>OI G f hd hf (b:=.dict (match as with | [.Name ..]=>false | _=>true)) (.inr ⟨h,_,rfl⟩) as
   | false=>match h:g == ("isinstance":Str) with
    | true=>MY G f hd hf h as
    | false=>Rw G W f hd hf as
noncomputable abbrev RI (n d:Nat) (ks:List (Str × NameKind)) (e:Expr):Type:=Option {y:TI × Bool // pC n d ks (cond y.2 True False) e y.1 /\ ∀ env v,foldedSetIterable e env v = pure v}
noncomputable def LJ (f:∀ e,RE n d ks e) (e:Expr):RI n d ks e:=(f e).bind fun x=>some ⟨(.ex x.1,false),JN x.2,x.2.sh.Lh⟩
noncomputable def Rv (f:∀ e,RE n d ks e) (g:Str) (p pos:Pos) (a:Expr):RI n d ks (.Call (.Name g p) [a] [] pos) :=
 match h:g == ("reversed":Str) with
 | true=>lS (g == aM) fun hd=>gn (aQ ks g) fun hf=>(f a).bind fun x=>some ⟨(.rev x.1,false),Iu G hd hf h x.2,fun _ _=>rfl⟩
 | false=>match h:g == ("range":Str) with
  | true=>lS (g == aM) fun hd=>gn (aQ ks g) fun hf=>(f a).bind fun x=>some ⟨(.range x.1,false),CH G hd hf h x.2,fun _ _=>rfl⟩
  | false=>LJ f _
noncomputable def Ru (f:∀ e,RE n d ks e) (g:Str) (p pos:Pos) (a b:Expr):RI n d ks (.Call (.Name g p) [a,b] [] pos) :=
 match h:g == ("zip":Str) with
 | true=>lS (g == aM) fun hd=>gn (aQ ks g) fun hf=>(f a).bind fun x=>(f b).bind fun y=>some ⟨(.zip x.1 y.1,true),Ir G hd hf h x.2 y.2,fun _ _=>rfl⟩
 | false=>LJ f _
noncomputable def cI (f:∀ e,RE n d ks e):∀ e,RI n d ks e
 | .Call (.Name g p) [a] [] pos=>Rv G f g p pos a
 | .Call (.Name g p) [a,b] [] pos=>Ru G f g p pos a b
 | e=>LJ f e
omit G
noncomputable def OD (ks:List (Str × NameKind)) (es:List Expr):Option {xs // ef ks es xs} :=
 List.rec (motive:=fun es=>Option {xs // ef ks es xs}) (some ⟨[],.nil⟩) (fun e r ih=>match e with
  | .Name x _=>gn (isVar ks x) fun h=>ih.bind fun xs=>some ⟨_,.cons h xs.2⟩
  | _=>none) es
noncomputable def cT (ks:List (Str × NameKind)):∀ e,Option {t // fX ks e t}
 | .Name x _=>gn (isVar ks x) fun h=>some ⟨_,.one h⟩
 | .Tuple es _ _=>(OD ks es).bind fun xs=>if h:xs.1.Nodup then some ⟨_,.many xs.2 h⟩ else none
 | _=>none
theorem fX.tup {e:Expr} {xs:List Nm} (r:fX ks e (.many xs)):∃ es k p,e = .Tuple es k p:=by cases r; exact ⟨_,_,_,rfl⟩
noncomputable def Jo:Bool -> bq -> Bool
 | true,.one _=>false
 | _,_=>true
theorem B6 {e:Expr}:∀ {b:Bool} {t:bq},Jo b t = true -> fX ks e t -> cond b True False -> ∃ es k p,e = .Tuple es k p
 | false,_,_,_,h=>h.elim
 | true,.many _,_,r,_=>r.tup
include G
noncomputable abbrev Gn (n:Nat) (ks:List (Str × NameKind)) (sc:Scope) (ao iter:Expr) (ifs:List Expr):Type:={p:(bq × TI × List TE) × Bool // (∀ env v,foldedSetIterable iter env v = pure v) /\ pC n 2 ks (cond p.2 True False) iter p.1.2.1 /\ (cond p.2 True False -> ∃ es k p,ao = .Tuple es k p) /\ fY ks sc p.1.1 /\ fX sc.names ao p.1.1 /\ jY n 1 sc.names ifs p.1.2.2}
omit G
theorem Wk.one (W:Wk n 2):Wk n 1:=fun _=>W (Nat.succ_pos 1)
include G
noncomputable def LI (W:Wk n 2) (ih:CE n) (sc:Scope) (ao iter:Expr) (ifs:List Expr):Option (Gn n ks sc ao iter ifs) :=
 (cT sc.names ao).bind fun t=>(cI G (ih 2 W ks) iter).bind fun y=>gn (jD sc.names) fun h1=>gn (freeOk ks sc.names) fun h2=>gn (sc.kind == .function) fun h3=>gn (Hi sc.names t.1) fun h4=>gn (Jo y.1.2 t.1) fun h5=>
  (Rx (ih 1 W.one sc.names) ifs).bind fun zs=>some ⟨((t.1,y.1.1,zs.1),y.1.2),y.2.2,y.2.1,B6 h5 t.2,Ig h1 h2 h3 h4,t.2,zs.2⟩
noncomputable abbrev OA (elt ao iter:Expr) (ifs:List Expr) (sc:Scope) (pos:Pos):Env -> Option (Value -> Sem Unit) -> Sem Value:=fun env use=>comprehension (.ListComp elt [⟨ao,iter,ifs,0⟩] sc pos) sc env (firstIterPos [⟨ao,iter,ifs,0⟩] pos) (newList []) false (eval iter env) use
noncomputable abbrev OB (kx vx ao iter:Expr) (ifs:List Expr) (sc:Scope) (pos:Pos):Env -> Option (Value -> Sem Unit) -> Sem Value:=fun env use=>comprehension (.DictComp kx vx [⟨ao,iter,ifs,0⟩] sc pos) sc env (firstIterPos [⟨ao,iter,ifs,0⟩] pos) newDict false (eval iter env) use
noncomputable def OE (W:Wk n 2) (ih:CE n) (elt ao iter:Expr) (ifs:List Expr) (sc:Scope) (pos:Pos):Option {x:TE // pB n ks (OA elt ao iter ifs sc pos) x} :=
 (LI G W ih sc ao iter ifs).bind fun g=>(ih 1 W.one sc.names elt).bind fun x=>some ⟨.comp (Ld pos) x.1 g.1.1.1 g.1.1.2.1 g.1.1.2.2,EC g.2.1 g.2.2.1 g.2.2.2.1 g.2.2.2.2.1 g.2.2.2.2.2.1 x.2 g.2.2.2.2.2.2⟩
noncomputable def OH (W:Wk n 2) (ih:CE n) (kx vx ao iter:Expr) (ifs:List Expr) (sc:Scope) (pos:Pos):Option {x:TE // pB n ks (OB kx vx ao iter ifs sc pos) x} :=
 (LI G W ih sc ao iter ifs).bind fun g=>(ih 1 W.one sc.names kx).bind fun x=>(ih 1 W.one sc.names vx).bind fun x'=>some ⟨.wx x.1 x'.1 g.1.1.1 g.1.1.2.1 g.1.1.2.2,Cs g.2.1 g.2.2.1 g.2.2.2.1 g.2.2.2.2.1 g.2.2.2.2.2.1 x.2 x'.2 g.2.2.2.2.2.2⟩
omit G
theorem pB.list {elt ao iter:Expr} {ifs:List Expr} {sc:Scope} {pos:Pos} {x:TE} (u:pB n ks (OA elt ao iter ifs sc pos) x):Good n 2 ks (.ListComp elt [⟨ao,iter,ifs,0⟩] sc pos) x :=
 u.good (fun _=>rfl) ⟨fun _=>rfl,fun _ _=>rfl,fun _ _=>rfl,fun a en w h=>h⟩ fun _=>rfl
theorem pB.dict {kx vx ao iter:Expr} {ifs:List Expr} {sc:Scope} {pos:Pos} {x:TE} (u:pB n ks (OB kx vx ao iter ifs sc pos) x):Good n 2 ks (.DictComp kx vx [⟨ao,iter,ifs,0⟩] sc pos) x :=
 u.good (fun _=>rfl) ⟨fun _=>rfl,fun _ _=>rfl,fun _ _=>rfl,fun a en w h=>h⟩ fun _=>rfl
include G
noncomputable def Pj (f:∀ e,RE n d ks e) (a:Expr) (pos:Pos):∀ i,RE n d ks (.Subscript a i pos)
 | .Slice none (some k) none _=>(f a).bind fun x=>(f k).bind fun y=>some ⟨_,Bp x.2 y.2⟩
 | i=>(f a).bind fun x=>(f i).bind fun y=>some ⟨_,Ff x.2 y.2⟩
noncomputable def Pk (f:∀ e,RE n d ks e) (a:Expr) (pos:Pos):∀ os bs,RE n d ks (.Compare a os bs pos)
 | [_],[b]=>(f a).bind fun x=>(f b).bind fun y=>some ⟨_,Fq x.2 y.2⟩
 | [_,_],[b,c]=>(f a).bind fun x=>(f b).bind fun y=>(f c).bind fun z=>some ⟨_,DC x.2 y.2 z.2⟩
 | _,_=>none
noncomputable def Rq (f:∀ e,RE n d ks e) (pos:Pos):∀ op a,RE n d ks (.UnaryOp op a pos)
 | .Not,a=>(f a).bind fun x=>some ⟨_,Fg x.2⟩
 | .USub,.Constant (.int i) _ _=>some ⟨_,Fo⟩
 | _,_=>none
noncomputable def MX (x:Str) (pos:Pos):RE n d ks (.Name x pos) :=
 lS (x == aM) fun hd=>match h:aQ ks x with
  | true=>Cr (Bv.lookup (nm x)) fun v hv=>some ⟨_,Dz G hd h hv⟩
  | false=>gn (isLocal ks x) fun hl=>some ⟨_,Fd hd hl⟩
noncomputable def MZ (f:∀ e,RE n d ks e) (pos:Pos):∀ j1 kM,RE n d ks (.Dict j1 kM pos)
 | [],[]=>some ⟨.dict (DI pos true) [],Bs⟩
 | j1,kM=>(OF f j1 kM).bind fun xs=>lS xs.1.isEmpty fun h=>if hl:xs.1.length <= 15 then some ⟨.dict (DI pos j1.isEmpty) xs.1,DA xs.2 h hl⟩ else none
noncomputable def Mw (ih:CE n) (d:Nat) (W:Wk n d) (ks:List (Str × NameKind)) (e:Expr):RE n d ks e:=match e with
 | .Constant c _ _=>Cr (litOf c) fun v h=>some ⟨_,Bt h⟩
 | .Name x pos=>MX G x pos
 | .BoolOp op vs _=>(match op,vs with
  | .And,a :: r=>(Po (ih d W ks) r a).bind fun x=>some ⟨_,tm x.2⟩
  | .Or,a :: r=>(Rr (ih d W ks) r a).bind fun x=>some ⟨_,tm x.2⟩
  | _,_=>none)
 | .UnaryOp op a pos=>Rq (ih d W ks) pos op a
 | .IfExp t a b _=>(ih d W ks t).bind fun x=>(ih d W ks a).bind fun y=>(ih d W ks b).bind fun z=>some ⟨_,Fp x.2 y.2 z.2⟩
 | .BinOp a op b _=>(ih d W ks a).bind fun x=>(ih d W ks b).bind fun y=>some ⟨_,Ft x.2 y.2⟩
 | .Compare a os cs pos=>Pk (ih d W ks) a pos os cs
 | .Attribute a x _=>if h:nm x ∈ dj then (ih d W ks a).bind fun y=>some ⟨_,DF G h y.2⟩ else none
 | .Subscript a i pos=>Pj (ih d W ks) a pos i
 | .Tuple es _ _=>(HN (ih d W ks) es).bind fun xs=>if h:es.length <= lim then some ⟨_,Fe xs.2.ev h⟩ else none
 | .List es pos=>(HN (ih d W ks) es).bind fun xs=>if h:es.length <= lim then some ⟨.list (Lc pos es.isEmpty) xs.1,Dv xs.2.ev h⟩ else none
 | .Dict kvs vs pos=>MZ (ih d W ks) pos kvs vs
 | .ListComp elt [⟨ao,iter,ifs,0⟩] sc pos=>(match d with
  | 2=>(OE G W ih elt ao iter ifs sc pos).bind fun x=>some ⟨_,x.2.list⟩
  | _=>none)
 | .DictComp kx vx [⟨ao,iter,ifs,0⟩] sc pos=>(match d with
  | 2=>(OH G W ih kx vx ao iter ifs sc pos).bind fun x=>some ⟨_,x.2.dict⟩
  | _=>none)
 | .Call f as kws q=>(match f,kws with
  | .Name g p,[]=>M0 G W (ih d W ks) g p q as
  | .Attribute o m p,[]=>(match d with
   | 0=>none
   | d + 1=>gn (p.endLine == q.line) fun h1=>if h2:as.length < 30 then (ih (d + 1) W ks o).bind fun x=>(HN (ih (d + 1) W ks) as).bind fun xs=>some ⟨_,Du G (W (Nat.succ_pos d)).1 h1 h2 x.2 xs.2⟩ else none)
  | _,_=>none)
 | _=>none
noncomputable def cE:Nat -> CE n
 | 0=>fun _ _ _ _=>none
 | m + 1=>Mw G (cE m)
end
end
end
end Mine
end
section
open PySem PySem.W PyProof.Rows PySem.Calls
namespace Mine
noncomputable section
section
section
variable {n:Nat} {ks:List (Str × NameKind)}
noncomputable abbrev RS (n:Nat) (ks:List (Str × NameKind)) (st:Stmt):Type:=Option {x:TS // lg n ks st x}
noncomputable abbrev CS (n:Nat) (ks:List (Str × NameKind)):Type:=∀ st,{x:TS // lg n ks st x}
theorem En {v:Expr} (h:s7 v = false) (t:Str) (p:Pos) (l:Nat):∀ env,swapsWith v (some (.Name t p)) l env = pure false:=by
 cases v <;> first | exact fun _=>rfl | exact nomatch h
noncomputable def Am (f:CS n ks) (sts:List Stmt):{xs:List TS // fB n ks sts xs} :=
 List.rec (motive:=fun sts=>{xs:List TS // fB n ks sts xs}) ⟨[],Im⟩ (fun s _ ih=>⟨(f s).1 :: ih.1,EG (f s).2 ih.2⟩) sts
variable (G:dT P) (W:Wk n 2) (ih:CE n)
noncomputable abbrev fE (ks:List (Str × NameKind)):∀ e,RE n 2 ks e:=ih 2 W ks
noncomputable def Rt (t:Str) (p q:Pos) (hv:isVar ks t = true):∀ v,RS n ks (.Assign [.Name t p] v q)
 | .ListComp elt [⟨ao,iter,ifs,0⟩] sc pos=>(OE G W ih elt ao iter ifs sc pos).bind fun x=>some ⟨_,Cz hv (fun _=>⟨_,rfl⟩) (fun _ _=>rfl) x.2.list x.2⟩
 | .DictComp kx vx [⟨ao,iter,ifs,0⟩] sc pos=>(OH G W ih kx vx ao iter ifs sc pos).bind fun x=>some ⟨_,Cz hv (fun _=>⟨_,rfl⟩) (fun _ _=>rfl) x.2.dict x.2⟩
 | v=>lS (s7 v) fun h=>(fE W ih ks v).bind fun x=>some ⟨_,ED hv (En h _ _ _) x.2⟩
noncomputable def Pn (v:Expr) (q:Pos):∀ t,RS n ks (.Assign [t] v q)
 | .Subscript o i _=>(fE W ih ks o).bind fun x=>(fE W ih ks i).bind fun y=>(fE W ih ks v).bind fun z=>some ⟨_,Cw x.2 y.2 z.2⟩
 | .Name t p=>gn (isVar ks t) fun hv=>Rt G W ih t p q hv v
 | .Tuple es _ _=>(OD ks es).bind fun xs=>lS (constantsAlone 9 v) fun hf=>if h:xs.1.Nodup then (fE W ih ks v).bind fun x=>some ⟨_,Cu xs.2 h hf x.2⟩ else none
 | _=>none
noncomputable def LG (q:Pos):∀ e c,RS n ks (.Raise e c q)
 | some (.Call (.Name c _) [e] [] _),none=>gn (fM (nm c)) fun h1=>gn (aQ ks c) fun h2=>lS (c == aM) fun h3=>(fE W ih ks e).bind fun x=>some ⟨_,Cy G h1 h2 h3 x.2⟩
 | _,_=>none
noncomputable def Ph (f:CS n ks) (b:List Stmt) (q:Pos):∀ hs,RS n ks (.Try b hs [] [] q)
 | [.ExceptHandler (some (.Tuple [.Name c _,.Name d _] _ _)) none [.Return (some (.Constant (.bool v) _ _)) _] _]=>gn (fM (nm c)) fun h1=>gn (aQ ks c) fun h2=>lS (c == aM) fun h3=>gn (fM (nm d)) fun k1=>gn (aQ ks d) fun k2=>lS (d == aM) fun k3=>
   some ⟨_,Ik G h1 h2 h3 k1 k2 k3 (Am f b).2⟩
 | _=>none
noncomputable def Mv (f:CS n ks):∀ st,RS n ks st
 | .Assign [t] v q=>Pn G W ih v q t
 | .Expr e _=>lS (s7 e) fun h=>(fE W ih ks e).bind fun x=>some ⟨_,EF x.2 h⟩
 | .If t a b _=>(fE W ih ks t).bind fun x=>some ⟨_,Io x.2 (Am f a).2 (Am f b).2⟩
 | .While t b [] _=>(fE W ih ks t).bind fun x=>some ⟨_,Ct x.2 (Am f b).2⟩
 | .For ao iter b [] _=>(cT ks ao).bind fun t=>(cI G (fE W ih ks) iter).bind fun y=>gn (Jo y.1.2 t.1) fun h=>some ⟨_,Ip y.2.2 y.2.1 (B6 h t.2) t.2 (Am f b).2⟩
 | .Return (some e) _=>(fE W ih ks e).bind fun x=>some ⟨_,Il x.2⟩
 | .Raise e c q=>LG G W ih q e c
 | .Try b hs [] [] q=>Ph G f b q hs
 | .Break _=>some ⟨_,Iq⟩
 | _=>none
noncomputable def cS:Nat -> CS n ks
 | 0=>fun _=>⟨.bad,zO⟩
 | m + 1=>fun st=>(Mv G W ih (cS m) st).getD ⟨.bad,zO⟩
end
section
variable {n:Nat} (G:dT P)
noncomputable def HO (W:Wk n 2) (D:Df):{xs:List TS // fB n D.sc.names D.body xs}:=Am (cS G W (cE G 60) 60) D.body
theorem PC:Wk 0 0:=fun h=>absurd h (Nat.lt_irrefl 0)
theorem Bu {ks:List (Str × NameKind)} {s self x:Str} {p q pos:Pos} {v:Expr} {e:TE} {b:List Stmt} {r:List (Nm × TE)} (h:(s == self) = true) (g:Good 0 0 ks v e) (hx:nm x ∈ dj) (gr:lG ks self b r):lG ks self (.Assign [.Attribute (.Name s p) x q] v pos :: b) ((nm x,e) :: r):=by
 cases eq_of_beq h; exact .cons g hx gr
noncomputable def OG (ks:List (Str × NameKind)) (self:Str):∀ b,Option {r:List (Nm × TE) // lG ks self b r}
 | []=>some ⟨[],.nil⟩
 | .Assign [.Attribute (.Name s p) x q] v pos :: b=>gn (s == self) fun h=>(cE G 60 0 PC ks v).bind fun e=>if hx:nm x ∈ dj then (OG ks self b).bind fun r=>some ⟨(nm x,e.1) :: r.1,Bu h e.2 hx r.2⟩ else none
 | _=>none
theorem rO {l:List (Str × NameKind)} {x:Str} (h:wj l x = true):l.lookup x = some .local:=of_decide_eq_true h
theorem uW {l:List (Str × NameKind)} (h:jD l = true):∀ x ∈ l,x.2 ≠ .cell:=of_decide_eq_true h
noncomputable def G5 (sc:Scope):Bool:=decide (sc.kind = .function /\ sc.isCoroutine = false /\ sc.isGenerator = false /\ ∀ p ∈ sc.names,p.2 ≠ .free)
theorem wL {sc:Scope} (h:G5 sc = true):sc.kind = .function /\ sc.isCoroutine = false /\ sc.isGenerator = false /\ ∀ x,sc.names.lookup x ≠ some .free :=
 have h:=of_decide_eq_true h
 ⟨h.1,h.2.1,h.2.2.1,fun _ w=>h.2.2.2 _ (PySem.mem_of_lookup w) rfl⟩
noncomputable def Ly (D:Df):Bool:=G5 D.sc && (decide D.params.Nodup && D.params.all fun x=>isVar D.sc.names (toS x))
theorem Lx {D:Df} (h:Ly D = true):B4 D:=by
 simp only [Ly,Bool.and_eq_true,decide_eq_true_iff] at h
 obtain ⟨h1,h2,h3,h4⟩:=wL h.1
 exact ⟨h1,h2,h3,h.2.1,List.all_eq_true.mp h.2.2,h4⟩
noncomputable def OC (D:Cf):Bool:=G5 D.sc && (decide (nm D.self ∉ D.params /\ D.params.Nodup) && (wj D.sc.names D.self && (!(D.self == aM) && (jD D.sc.names && D.params.all fun x=>wj D.sc.names (toS x) && !(x == dot0)))))
theorem MV:gQ.map (fun p=>(vC p.1).bind fun D=>gn (OC D) fun _=>(OG G D.sc.names D.self D.body).map fun r=>(D.params,D.bb,r.1)) = gQ.map fun p=>some (p.2.params,p.2.bb,p.2.jn):=by kernel_rfl
end
end
end
end Mine
end
section
open PySem PySem.W PyProof.Rows PySem.Calls
namespace Mine
noncomputable section
section
theorem wU {α:Type} {b:Bool} {f:b = true -> Option α} {a:α} (h:gn b f = some a):∃ e:b = true,f e = some a:=by
 cases b with
 | true=>exact ⟨rfl,h⟩
 | false=>cases h
theorem jb {β:Type} {k:Nm} {v:β}:∀ {l:List (Nm × β)},l.lookup k = some v -> (k,v) ∈ l
 | (x,w) :: r,h=>by
  rw [List.lookup_cons] at h
  by_cases q:k = x
  ·subst q; simp at h; simp [h]
  ·rw [beq_false_of_ne q] at h
   exact List.mem_cons_of_mem _ (jb h)
theorem map_eq {α β:Type} {f g:α -> β} {l:List α} (h:l.map f = l.map g):∀ x ∈ l,f x = g x:=List.map_inj_left.mp h
section
variable {n:Nat} (G:dT P)
theorem LA:(gQ.all fun p=>decide ((p.2.jn.map (·.1)).Nodup) && decide (p.2.jn.length <= 100)) = true:=by kernel_rfl
include G in
theorem HL {f:Nm} {cl:Cl} {D:Cf} (h:gQ.lookup f = some cl) (hD:vC f = some D):yx cl D:=by
 have hm:=jb h
 have e:=map_eq (MV G) _ hm
 have e2:=List.all_eq_true.mp LA _ hm
 dsimp only at e e2
 rw [hD] at e
 obtain ⟨hb,e⟩:=wU e
 obtain ⟨r,_,e⟩:=Option.map_eq_some_iff.mp e
 simp only [Prod.mk.injEq] at e
 obtain ⟨e1,e3,e4⟩:=e
 simp only [Bool.and_eq_true,decide_eq_true_iff] at e2
 simp only [OC,Bool.and_eq_true,decide_eq_true_iff,Bool.not_eq_true'] at hb
 obtain ⟨b1,⟨b2,b3⟩,b4,b5,b6,b7⟩:=hb
 obtain ⟨k1,k2,k3,k4⟩:=wL b1
 refine ⟨e1.symm,e3.symm,e4 ▸ r.2,e2.1,e2.2,k1,k2,k3,b2,b3,rO b4,b5,fun x hx=>?_,uW b6,k4⟩
 have:=List.all_eq_true.mp b7 x hx
 rw [Bool.and_eq_true,Bool.not_eq_true',beq_eq_false_iff_ne] at this
 exact ⟨rO this.1,this.2⟩
theorem I8 (W:Wk n 2):aG.map (fun p=>(kT p.1).bind fun D=>gn (Ly D) fun _=>some (D.params,(HO G W D).1)) = aG.map fun p=>some (p.2.params,p.2.body):=by kernel_rfl
include G in
theorem An (W:Wk n 2):BodyOk n:=fun f D fn hD h=>by
 have e:=map_eq (I8 G W) _ (jb h)
 dsimp only at e
 rw [hD] at e
 obtain ⟨hb,e⟩:=wU e
 injection e with e
 injection e with e1 e2
 exact ⟨e1.symm,Lx hb,e2 ▸ (HO G W D).2⟩
include G in
theorem Al:∀ n,nQ n
 | 0=>DT
 | n + 1=>DU G (An G fun _=>⟨Al n,fun _ _ _=>HL G⟩)
end
end
end
end Mine
end
section
open PySem PySem.W PyProof.Rows PySem.Calls
namespace Mine
noncomputable section
section
theorem zip_get {ps:List Str}:∀ {vs:List Value} {i:Nat} {x:Str},ps.Nodup -> ps[i]? = some x -> (ps.zip vs).lookup x = vs[i]?:=by
 induction ps with
 | nil=>intro vs i x _ h; cases h
 | cons p ps ih=>
  intro vs i x nd h
  cases vs with
  | nil=>rfl
  | cons v vs=>
   rw [List.zip_cons_cons,List.lookup_cons]
   cases i with
   | zero=>cases h; rw [beq_self_eq_true]; rfl
   | succ i=>rw [beq_false_of_ne (show x ≠ p from fun q=>(List.nodup_cons.mp nd).1 (q ▸ List.mem_of_getElem? h))]; exact ih (List.nodup_cons.mp nd).2 h
theorem Eh {l:List (Str × Value)} {ps:List Str}:∀ {vs:List Value},vs.length = ps.length -> (∀ (i:Nat) (x:Str),ps[i]? = some x -> l.lookup x = vs[i]?) -> (ps.filterMap fun n=>(l.lookup n).map (n,·)) = ps.zip vs:=by
 induction ps with
 | nil=>intro vs _ _; rfl
 | cons p ps ih=>
  intro vs hl h
  cases vs with
  | nil=>cases hl
  | cons v vs=>rw [List.filterMap_cons,h 0 p rfl]; exact congrArg _ (ih (Nat.succ.inj hl) fun i x e=>h (i + 1) x e)
noncomputable def fill (l:List (Str × Value)) (s:List (Str × Value)):List (Str × Value):=l.foldl (fun s p=>if (s.lookup p.1).isNone = true then s ++ [p] else s) s
theorem qW {x:Str}:∀ {l s:List (Str × Value)},(fill l s).lookup x = (s.lookup x).or (l.lookup x)
 | [],s=>(Option.or_none).symm
 | p :: l,s=>by
  show (fill l (if (s.lookup p.1).isNone = true then s ++ [p] else s)).lookup x = _
  rw [qW]
  by_cases q:x = p.1
  ·subst q
   cases w:s.lookup p.1 with
   | none=>
    show ((s ++ [p]).lookup p.1).or _ = _
    rw [List.lookup_append,w,List.lookup_cons,List.lookup_cons,beq_self_eq_true]; rfl
   | some v=>
    show (s.lookup p.1).or _ = _
    rw [w]; rfl
  ·rw [List.lookup_cons,beq_false_of_ne q]
   split
   ·rw [List.lookup_append,List.lookup_cons,beq_false_of_ne q,List.lookup_nil,Option.or_none]
   ·rfl
theorem ya:∀ {l s:List (Str × Value)},(forIn l s fun (p:Str × Value) r=>(if (r.lookup p.1).isNone = true then pure (.yield (r ++ [(p.1,p.2)])) else pure (.yield r):Sem (ForInStep (List (Str × Value))))) = pure (fill l s)
 | [],s=>rfl
 | p :: l,s=>by
  rw [List.forIn_cons]
  show _ = pure (fill l (if (s.lookup p.1).isNone = true then s ++ [p] else s))
  split <;> (rw [pure_bind]; exact ya)
theorem Qo {i p D v:Nat} (h1:D <= p) (h2:v <= p) (h3:p <= v + D) (q:v <= i):i - (p - D) = D - (p - v) + (i - v):=by
 obtain ⟨k,rfl⟩:=Nat.exists_eq_add_of_le q
 rw [Nat.sub_sub_right _ h1,Nat.sub_sub_right _ h2,Nat.add_sub_cancel_left,Nat.add_comm D v,Nat.add_right_comm,Nat.sub_add_comm h3]
theorem Qi {p D v:Nat} (h2:v <= p) (h3:p <= v + D):v + (D - (D - (p - v))) = p:=by
 rw [Nat.sub_sub_self (Nat.sub_le_iff_le_add'.mpr h3),Nat.add_sub_of_le h2]
end
namespace Gb
noncomputable def Gq (fd:PySem.FuncData) (as:List PySem.Arg) (kd:List (Option PySem.Expr)) (dd:List PySem.Expr):Prop:=∀ (hp:fd.params = ⟨[],as,none,[],kd,none,dd⟩) (vals:List Value),∃ k,bindArgs fd ⟨vals,[]⟩ = seqItems? fd.defaults >>= k /\
  ∀ (o:Option (Array Value)) (bx:List Value),(o.getD #[]).toList = bx -> ∀ (ps:List Str),as.map (·.arg) = ps -> ps.Nodup -> bx.length <= ps.length -> vals.length <= ps.length -> ps.length <= vals.length + bx.length -> k o = pure (ps.zip (vals ++ bx.drop (bx.length - (ps.length - vals.length))))
noncomputable def kq:PySem.FuncData × List PySem.Arg × List (Option PySem.Expr) × List PySem.Expr:=cx fun p=>Gq p.1 p.2.1 p.2.2.1 p.2.2.2
noncomputable def fd:=kq.1
noncomputable def as:=kq.2.1
noncomputable def kd:=kq.2.2.1
noncomputable def dd:=kq.2.2.2
theorem tq:Gq fd as kd dd:=by
 intro hp vals
 refine ⟨?k,?e,?p⟩
 case e=>
  unfold bindArgs
  rw [hp]
  refine (pure_bind _ _).trans ?_
  dsimp only
  exact rfl
 case p=>
  intro o bx ho ps Ae hn h1 h2 h3
  subst ho Ae
  generalize hd:(o.getD #[]).toList = bx at *
  have hD:bx.drop (bx.length - (as.map (·.arg)).length) = bx:=by rw [Nat.sub_eq_zero_of_le h1]; rfl
  refine (if_neg ?_).trans ((if_neg ?_).trans ((congrArg (fun m=>m >>= _) ya).trans ((pure_bind _ _).trans ((pure_bind _ _).trans ((if_neg Bool.false_ne_true).trans (congrArg pure ((congrArg (List.filterMap _) (List.append_nil _)).trans (Eh (ps:=as.map (·.arg)) ?_ fun i x e=>?_))))))))
  ·exact fun w=>Nat.not_lt.mpr h2 (of_decide_eq_true (Bool.and_eq_true _ _ ▸ w).1)
  ·have:(((as.map (·.arg)).take ((as.map (·.arg)).length - (bx.drop (bx.length - (as.map (·.arg)).length)).length)).filter fun n=>(((as.map (·.arg)).zip vals).lookup n).isNone) = []:=by
    rw [List.filter_eq_nil_iff,hD]
    intro x hx
    obtain ⟨i,hi,e⟩:=List.mem_take_iff_getElem.mp hx
    rw [zip_get (i:=i) hn (List.getElem?_eq_some_iff.mpr ⟨(Nat.lt_min.mp hi).2,e⟩),List.getElem?_eq_getElem (Nat.lt_of_lt_of_le (Nat.lt_min.mp hi).1 (Nat.sub_le_iff_le_add.mpr h3))]
    exact Bool.false_ne_true
   exact fun w=>Bool.noConfusion ((congrArg (fun l:List Str=>!l.isEmpty) this).symm.trans w)
  ·rw [List.length_append,List.length_drop]; exact Qi h2 h3
  ·have hi:=(List.getElem?_eq_some_iff.mp e).1
   refine qW.trans ?_
   show (((as.map (·.arg)).zip vals).lookup x).or ((((as.map (·.arg)).drop ((as.map (·.arg)).length - (bx.drop (bx.length - (as.map (·.arg)).length)).length)).zip (bx.drop (bx.length - (as.map (·.arg)).length))).lookup x) = _
   rw [hD,zip_get hn e]
   generalize as.map (·.arg) = ps at *
   by_cases q:i < vals.length
   ·rw [List.getElem?_append_left q,List.getElem?_eq_getElem q]; rfl
   ·rw [List.getElem?_append_right (Nat.not_lt.mp q),List.getElem?_eq_none (Nat.not_lt.mp q),List.getElem?_drop,zip_get (i:=i - (ps.length - bx.length)) (hn.sublist (List.drop_sublist _ _)) (by rw [List.getElem?_drop,Nat.add_sub_cancel' (Nat.le_trans (Nat.sub_le_iff_le_add.mpr h3) (Nat.not_lt.mp q))]; exact e)]
    exact congrArg (bx[·]?) (Qo h1 h2 h3 (Nat.not_lt.mp q))
end Gb
section
theorem bind_eq {fd:FuncData} {as:List Arg} {kd:List (Option Expr)} {dd:List Expr} (hp:fd.params = ⟨[],as,none,[],kd,none,dd⟩) (vals:List Value):∃ k,bindArgs fd ⟨vals,[]⟩ = seqItems? fd.defaults >>= k /\
  ∀ (o:Option (Array Value)) (bx:List Value),(o.getD #[]).toList = bx -> ∀ (ps:List Str),as.map (·.arg) = ps -> ps.Nodup -> bx.length <= ps.length -> vals.length <= ps.length -> ps.length <= vals.length + bx.length -> k o = pure (ps.zip (vals ++ bx.drop (bx.length - (ps.length - vals.length)))) :=
 bD (p:=fun p=>Gb.Gq p.1 p.2.1 p.2.2.1 p.2.2.2) Gb.tq (fd,as,kd,dd) hp vals
end
end
end Mine
end
section
open PySem PySem.W PyProof.Rows PySem.Calls
namespace Mine
noncomputable section
section
noncomputable def wO (v:Value):Option Addr:=match v with
 | .ref a=>some a
 | _=>none
theorem zL {v:Value} {a:Addr} (h:wO v = some a):v = .ref a:=by
 cases v with
 | ref _=>exact congrArg Value.ref (Option.some.inj h)
 | _=>exact gG h
noncomputable def Pe (d:Data):Option FuncData:=match d with
 | .func fd=>some fd
 | _=>none
noncomputable def OY (d:Data):Option (List Value):=match d with
 | .seq xs _=>some xs.toList
 | _=>none
noncomputable def dq (K:Frag) (a:Addr):Option FuncData:=(K.lookup a).bind fun o=>Pe o.data
noncomputable def mY (p:Arguments):Bool:=p.posonlyargs.isEmpty && (p.vararg.isNone && (p.kwonlyargs.isEmpty && p.kwarg.isNone))
noncomputable def DL (K:Frag) (fd:FuncData):Bool:=codeIn K fd.code fd.qualname && (fd.closure.isEmpty && (fd.globals == mainGlobals && (fd.builtins == builtinsNs && (mY fd.params && decide (fd.params.args.map (·.arg)).Nodup))))
noncomputable def qH (K:Frag) (v:Value):Option (List Value):=if v = .none then some [] else (wO v).bind fun T=>(K.lookup T).bind fun o=>OY o.data
noncomputable def dV (a:AV):Value:=match a with
 | .bool b=>.bool b
 | _=>.none
noncomputable def Oz (a:AV):Bool:=match a with
 | .bool _=>true
 | .none=>true
 | _=>false
theorem MU {P:TP} {g:Gh} {h:Heap}:∀ {l:List AV},l.all Oz = true -> aC P g h l (l.map dV):=fun {l}=>by
 induction l with
 | nil=>exact fun _=>.nil
 | cons a l ih=>
  rw [List.all_cons,Bool.and_eq_true]
  refine fun e=>.cons ?_ (ih e.2)
  have e:=e.1
  cases a <;> first | exact .none | exact .bool _ | exact (Bool.false_ne_true e).elim
noncomputable abbrev partsOf (fd:FuncData):FuncBody × Scope × List Str:=(fd.body,fd.scope,fd.params.args.map (·.arg))
noncomputable abbrev sq (K:Frag) (fd:FuncData):(FuncBody × Scope × List Str) × Option (List Value):=(partsOf fd,qH K fd.defaults)
noncomputable def gP {α:Type} (o:Option α) (f:α -> Bool):Bool:=match o with
 | some a=>f a
 | none=>false
theorem dh {α:Type} {o:Option α} {f:α -> Bool} (h:gP o f = true):∃ a,o = some a /\ f a = true:=by
 cases o with
 | some a=>exact ⟨a,rfl,h⟩
 | none=>cases h
noncomputable def wu (K:Frag) (a:Addr):Bool:=gP (dq K a) fun fd=>DL K fd && decide (fd.defaults = .none)
noncomputable def Ac (K:Frag) (a:Addr) (HJ:List AV):Bool:=gP (dq K a) fun fd=>DL K fd && (HJ.all Oz && decide (HJ.length < fd.params.args.length))
theorem Fz {K:Frag} {a:Addr} {fd:FuncData} (h:dq K a = some fd):∃ o,K.lookup a = some o /\ o.data = .func fd :=
 bnd h fun o e h=>⟨o,e,by
  revert h
  cases o.data with
  | func _=>exact fun h=>congrArg Data.func (Option.some.inj h)
  | _=>exact fun h=>gG h⟩
theorem ua {p:Arguments} (h:mY p = true):p = ⟨[],p.args,none,[],p.kw_defaults,none,p.defaults⟩:=by
 obtain ⟨po,as,va,ko,kd,kw,dd⟩:=p
 simp only [mY,Bool.and_eq_true,List.isEmpty_iff,Option.isNone_iff_eq_none] at h
 obtain ⟨rfl,rfl,rfl,rfl⟩:=h
 rfl
section
variable {P:TP} (X:P.K.In P.h₀)
include X
theorem uD {a:Addr} {fd:FuncData} {b:List Stmt} {sc:Scope} {ps:List Str} (h:dq P.K a = some fd) (c:DL P.K fd = true) (e:partsOf fd = (.stmts b,sc,ps)):B3 P a fd b sc /\ ps.Nodup /\ fd.params = ⟨[],fd.params.args,none,[],fd.params.kw_defaults,none,fd.params.defaults⟩ /\ fd.params.args.map (·.arg) = ps:=by
 obtain ⟨o,ho,hod⟩:=Fz h
 simp only [DL,Bool.and_eq_true,beq_iff_eq,List.isEmpty_iff,decide_eq_true_iff] at c
 injection e with e1 e2
 injection e2 with e2 e3
 exact ⟨⟨⟨o,X _ _ ho,hod⟩,e1,codeRec_of X c.1,c.2.1,c.2.2.1,c.2.2.2.1,e2⟩,e3 ▸ c.2.2.2.2.2,ua c.2.2.2.2.1,e3⟩
theorem rQ {a:Addr} {D:Df} (c:wu P.K a = true) (e:(dq P.K a).map partsOf = some (.stmts D.body,D.sc,D.params.map toS)):kL P D a:=by
 obtain ⟨fd,hfd,c⟩:=dh c
 rw [hfd] at e
 injection e with e
 rw [Bool.and_eq_true] at c
 obtain ⟨F,nd,hp,ha⟩:=uD X hfd c.1 e
 refine ⟨fd,F,fun vals hv=>?_⟩
 obtain ⟨k,e1,e2⟩:=bind_eq hp vals
 have hl:vals.length = (D.params.map toS).length:=by rw [List.length_map,hv]
 rw [e1,of_decide_eq_true c.2]
 refine (e2 none [] rfl _ ha nd (Nat.zero_le _) (Nat.le_of_eq hl) (Nat.le_of_eq hl.symm)).trans ?_
 rw [List.drop_nil,List.append_nil]
theorem yr {fd:FuncData} {ds vals:List Value} {ps:List Str} (hp:fd.params = ⟨[],fd.params.args,none,[],fd.params.kw_defaults,none,fd.params.defaults⟩) (ha:fd.params.args.map (·.arg) = ps) (nd:ps.Nodup) (hd:qH P.K fd.defaults = some ds) {s:Shared} (kk:∀ b o,P.h₀.get? b = some o -> s.heap.get? b = some o)
  (h1:ds.length <= ps.length) (h2:vals.length <= ps.length) (h3:ps.length <= vals.length + ds.length):BindsTo s fd ⟨vals,[]⟩ (ps.zip (vals ++ ds.drop (ds.length - (ps.length - vals.length)))):=by
 obtain ⟨k,e1,e2⟩:=bind_eq hp vals
 have e2:=fun o e=>e2 o ds e ps ha nd h1 h2 h3
 unfold qH at hd
 by_cases q:fd.defaults = .none
 ·rw [if_pos q] at hd
  cases hd
  rw [q] at e1
  exact .of_eq (e1.trans (e2 none rfl))
 ·rw [if_neg q] at hd
  refine bnd hd fun T q hd=>bnd hd fun o ho hd=>?_
  obtain ⟨_,_,od,_⟩:=o
  cases od with
  | seq items _=>
   cases hd
   exact .of_defaults (zL q) (kk _ _ (X _ _ ho)) rfl e1 (e2 _ rfl)
  | _=>exact gG hd
theorem Dd {a:Addr} {D:Cf} (c:Ac P.K a D.bb = true) (e:(dq P.K a).map (sq P.K) = some ((.stmts D.body,D.sc,D.self :: D.params.map toS),some (D.bb.map dV))):Ed P D a:=by
 obtain ⟨fd,hfd,c⟩:=dh c
 rw [hfd] at e
 injection e with e
 injection e with e hds
 rw [Bool.and_eq_true,Bool.and_eq_true,decide_eq_true_iff] at c
 obtain ⟨F,nd,hp,ha⟩:=uD X hfd c.1 e
 have hl:fd.params.args.length = D.params.length + 1:=by have:=congrArg List.length ha; simpa using this
 have hm:=List.length_map (as:=D.bb) dV
 refine ⟨fd,_,F,hm,fun g h=>MU c.2.1,fun s x vals kk v1 v2=>?_⟩
 have:=yr X (vals:=x :: vals) hp ha nd hds kk (by have:=c.2.2; simp; omega) (by simpa using v1) (by simp at v2 ⊢; omega)
 simpa using this
end
end
end
end Mine
end
section
open PySem PySem.W PyProof.Rows PySem.Calls
namespace Mine
noncomputable section
section
noncomputable def cK (K:Frag) (x:Str):Option Nat:=(nsIn K mainGlobals x).bind fun o=>o.bind wO
noncomputable def eN (K:Frag) (C:Nat) (x:Str):Option Nat:=(findIn K (.ref C) x).bind fun o=>o.bind wO
theorem JG {o:Option (Option Value)} {a:Addr} (h:(o.bind fun o=>o.bind wO) = some a):o = some (some (.ref a)) :=
 bnd h fun p e h=>bnd h fun v e2 h=>by rw [e,e2,zL h]
theorem xQ {K:Frag} {x:Str} {a:Addr} (h:cK K x = some a):nsIn K mainGlobals x = some (some (.ref a)):=JG h
theorem oJ {K:Frag} {C:Addr} {x:Str} {a:Addr} (h:eN K C x = some a):findIn K (.ref C) x = some (some (.ref a)):=JG h
noncomputable def tkB (K:Frag) (C:Addr) (x:Str):Bool:=gP (takerIn K C x) fun o=>o.isNone
theorem wH {K:Frag} {C:Addr} {x:Str} (h:tkB K C x = true):takerIn K C x = some none:=by
 obtain ⟨o,e,h⟩:=dh h
 cases o with
 | none=>exact e
 | some _=>cases h
noncomputable def gE:List Nm:=["Name","String","Reference","Shelf","Field","FormWalk"].map kQ
noncomputable def ji (K:Frag) (c:Nm):Option Addr:=if gE.contains c then cK K (toS c) else none
noncomputable def qd (K:Frag) (c:Nm):Option Addr:=if fM c then cK K (toS c) else none
noncomputable def DJ (K:Frag) (a:Addr):Bool:=typeIn K (.ref a) == some (.type "function")
noncomputable def tQ (K:Frag) (C:Addr) (HJ:List AV):Bool :=
 specialIn K (.ref C) "__call__" == some (some (.builtin "type.__call__")) && (keepIn K (.ref C) && (makesIn K C && (findIn K (.ref C) "__setattr__" == some (some (.builtin "object.__setattr__")) && (plainOver K C &&
 (dj.all (fun x=>tkB K C (toS x)) && gP (eN K C "__init__") fun fI=>DJ K fI && Ac K fI HJ)))))
end
namespace Ga
noncomputable def Gq (P:Mine.TP) (c:Mine.Nm) (C:PySem.Addr):Prop:=∀ (X:P.K.In P.h₀) (D:Cf) (hc:P.cls c = some C) (h:tQ P.K C D.bb = true) (e:((eN P.K C "__init__").bind (dq P.K)).map (sq P.K) = some ((.stmts D.body,D.sc,D.self :: D.params.map toS),some (D.bb.map dV))),ClsAt P c D C
noncomputable def kq:Mine.TP × Mine.Nm × PySem.Addr:=cx fun p=>Gq p.1 p.2.1 p.2.2
noncomputable def P:=kq.1
noncomputable def c:=kq.2.1
noncomputable def C:=kq.2.2
theorem tq:Gq P c C:=by
 intro X D hc h e
 simp only [tQ,Bool.and_eq_true,beq_iff_eq] at h
 obtain ⟨h1,h2,h3,h4,h5,h6,h7⟩:=h
 obtain ⟨fI,hfI,h7⟩:=dh h7
 rw [hfI] at e
 rw [Bool.and_eq_true] at h7
 exact ⟨hc,h1,h2,h3,h4,h5,fun x hx=>wH (List.all_eq_true.mp h6 x hx),⟨fI,oJ hfI,beq_iff_eq.mp h7.1,Dd X h7.2 e⟩⟩
end Ga
section
theorem FO {P:TP} (X:P.K.In P.h₀) {c:Nm} {D:Cf} {C:Addr} (hc:P.cls c = some C) (h:tQ P.K C D.bb = true) (e:((eN P.K C "__init__").bind (dq P.K)).map (sq P.K) = some ((.stmts D.body,D.sc,D.self :: D.params.map toS),some (D.bb.map dV))):ClsAt P c D C :=
 bD (p:=fun p=>Ga.Gq p.1 p.2.1 p.2.2) Ga.tq (P,c,C) X D hc h e
noncomputable def Ax (K:Frag) (C:Addr) (fd:FuncData):Bool:=DL K fd && (G5 fd.scope && (jD fd.scope.names && (uO.all (wj fd.scope.names) && (aQ fd.scope.names "Exception" && (tkB K C "what" && (tkB K C "at" && gP (qH K fd.defaults) fun ds=>decide (ds.length = 1)))))))
end
namespace F9
noncomputable def Gq (P:Mine.TP) (C:PySem.Addr) (a:PySem.Addr) (fd:PySem.FuncData):Prop:=∀ (X:P.K.In P.h₀) (hfd:dq P.K a = some fd) (c:Ax P.K C fd = true) (e:(fd.body,fd.params.args.map (·.arg)) = (.stmts xB,uO)),∃ dv,XI P C a fd dv
noncomputable def kq:Mine.TP × PySem.Addr × PySem.Addr × PySem.FuncData:=cx fun p=>Gq p.1 p.2.1 p.2.2.1 p.2.2.2
noncomputable def P:=kq.1
noncomputable def C:=kq.2.1
noncomputable def a:=kq.2.2.1
noncomputable def fd:=kq.2.2.2
theorem tq:Gq P C a fd:=by
 intro X hfd c e
 simp only [Ax,Bool.and_eq_true] at c
 obtain ⟨c1,c2,c3,c4,c5,c6,c7,c8⟩:=c
 obtain ⟨ds,hds,c8⟩:=dh c8
 obtain ⟨d,rfl⟩:=List.length_eq_one_iff.mp (of_decide_eq_true c8)
 injection e with e1 e2
 obtain ⟨F,nd,hp,ha⟩:=uD X hfd c1 (show partsOf fd = (.stmts xB,fd.scope,uO) from congr (congrArg Prod.mk e1) (congrArg (Prod.mk fd.scope) e2))
 obtain ⟨k1,k2,k3,k4⟩:=wL c2
 exact ⟨d,F,k1,k2,k3,fun s e v kk=>yr X (vals:=[e,v]) hp ha nd hds kk (Nat.le_of_ble_eq_true rfl) (Nat.le_of_ble_eq_true rfl) (Nat.le_of_ble_eq_true rfl),fun x hx=>rO (List.all_eq_true.mp c4 x hx),lC c5,uW c3,wH c6,wH c7⟩
end F9
section
theorem Aw {P:TP} (X:P.K.In P.h₀) {C a:Addr} {fd:FuncData} (hfd:dq P.K a = some fd) (c:Ax P.K C fd = true) (e:(fd.body,fd.params.args.map (·.arg)) = (.stmts xB,uO)):∃ dv,XI P C a fd dv :=
 bD (p:=fun p=>F9.Gq p.1 p.2.1 p.2.2.1 p.2.2.2) F9.tq (P,C,a,fd) X hfd c e
noncomputable def jU (K:Frag) (C:Addr):Option (ClassData × Obj):=(clsIn K C).bind fun cd=>(K.lookup C).map fun o=>(cd,o)
noncomputable def refsOf (l:List Value):List Addr:=l.filterMap fun v=>match v with
 | .ref a=>some a
 | _=>none
noncomputable def BJ (K:Frag) (C fI:Addr) (fd:FuncData):Bool:=specialIn K (.ref C) "__call__" == some (some (.builtin "type.__call__")) && (instIn K (.ref C) (.type "type") == some true && (findIn K (.ref C) "__setattr__" == some (some (.builtin "object.__setattr__")) && (DJ K fI && Ax K C fd)))
end
namespace F8
noncomputable def Gq (P:Mine.TP) (C:PySem.Addr):Prop:=∀ (X:P.K.In P.h₀) (c:gP (eN P.K C "__init__") (fun fI=>gP (dq P.K fI) fun fd=>BJ P.K C fI fd && (jU P.K C).isSome) = true) (e1:(jU P.K C).map (fun p=>p.2) = (jU P.K C).map fun p=>jT C p (refsOf p.1.mro.tail)) (e2:(((eN P.K C "__init__").bind (dq P.K)).map fun fd=>(fd.body,fd.params.args.map (·.arg))) = some (.stmts xB,uO)),ExcAt P C
noncomputable def kq:Mine.TP × PySem.Addr:=cx fun p=>Gq p.1 p.2
noncomputable def P:=kq.1
noncomputable def C:=kq.2
theorem tq:Gq P C:=by
 intro X c e1 e2
 obtain ⟨fI,q1,c⟩:=dh c
 obtain ⟨fd,q2,c⟩:=dh c
 simp only [BJ,Bool.and_eq_true,beq_iff_eq] at c
 obtain ⟨⟨h2,h3,h4,h5,h6⟩,c⟩:=c
 obtain ⟨p,q3⟩:=Option.isSome_iff_exists.mp c
 rw [q1,Option.bind_some,q2] at e2
 rw [q3] at e1
 obtain ⟨cd,_,q3⟩:=Option.bind_eq_some_iff.mp q3
 obtain ⟨o,q4,rfl⟩:=Option.map_eq_some_iff.mp q3
 obtain ⟨dv,X0⟩:=Aw X q2 h6 (Option.some.inj e2)
 exact ⟨⟨_,_,q4.trans e1⟩,h2,h3,h4,fI,fd,dv,oJ q1,beq_iff_eq.mp h5,X0⟩
end F8
section
theorem FG {P:TP} (X:P.K.In P.h₀) {C:Addr} (c:gP (eN P.K C "__init__") (fun fI=>gP (dq P.K fI) fun fd=>BJ P.K C fI fd && (jU P.K C).isSome) = true) (e1:(jU P.K C).map (fun p=>p.2) = (jU P.K C).map fun p=>jT C p (refsOf p.1.mro.tail)) (e2:(((eN P.K C "__init__").bind (dq P.K)).map fun fd=>(fd.body,fd.params.args.map (·.arg))) = some (.stmts xB,uO)):ExcAt P C :=
 bD (p:=fun p=>F8.Gq p.1 p.2) F8.tq (P,C) X c e1 e2
end
end
end Mine
end
section
open PySem PySem.W PyProof.Rows PySem.Calls
set_option maxRecDepth 100000
namespace Mine
noncomputable section
section
noncomputable def jW:List Str:=["len","abs","ord","chr","bytes","sum","sorted","list","dict","isinstance","reversed","range","zip","bool","int","Exception"].map Str.ofString
noncomputable def A4 (K:Frag) (v:Value) (w:Ty -> Bool):Bool :=
 kitOne K v (.type "bool") == some (w .nR) && (kitOne K v (.type "int") == some (w .pG) && (kitOne K v (.type "list") == some (w .eo) && (kitOne K v (.type "dict") == some (w .iJ) &&
 gE.all fun d=>gP (cK K (toS d)) fun D=>kitOne K v (.ref D) == some (w (.dz d)))))
noncomputable def nk (K:Frag) (c:Nm) (C:Addr):Bool:=A4 K (.ref C) (Ho c) && (plainGet K C "__class__" && (hasDictIn K C &&
 (findIn K (.ref C) "__class__" == some (some (.builtin "object.__class__")) && (mroIn K C (.type "object") == some true && dj.all fun x=>gP (findIn K (.ref C) (toS x)) (noGet K)))))
noncomputable def qu (K:Frag):Bool:=(tX.all fun t=>A4 K (.type t) (sY t)) && (specialIn K (.builtin "object.__class__") "__get__" == some (some (.builtin "getset_descriptor.__get__")) && (takesIn K (.builtin "object.__class__") == some true &&
 gE.all fun c=>gP (cK K (toS c)) (nk K c)))
noncomputable def Hm:List Value:=[.str "FT" 721,.str "Ff" 722,.str "V" 723,.str "DV" 724,.str "MaxLen" 725,.str "Opt" 726]
noncomputable def wo:List (Nm × AV × Value):=[(kQ "MOST_HOPS",.int 30,.int 30 393),(kQ "MARK",.bytes [254,255],.bytes #[254,255] 664),(kQ "UNKNOWN",.int 65533,.int 65533 666),(kQ "OFF",.str (nm "Off"),.str "Off" 728),
 (kQ "INHERITED_KEYS",.tup ((["FT","Ff","V","DV","MaxLen","Opt"]:List Str).map fun x=>.str (nm x)),.ref 418)]
noncomputable def kW:List Str:=["TreeFault","DraftFault"].map Str.ofString
noncomputable def qE:List Nm:=wb.filterMap fun s=>(F0 s).map fun p=>nm p.1
noncomputable def LH (x:Nm):Nm:=x.takeWhile (· != 46)
noncomputable def J5 (x:Nm):Nm:=(x.dropWhile (· != 46)).tail
noncomputable abbrev BK (D:Df):FuncBody × Scope × List Str:=(.stmts D.body,D.sc,D.params.map toS)
noncomputable abbrev MW (D:Cf):(FuncBody × Scope × List Str) × Option (List Value):=((.stmts D.body,D.sc,D.self :: D.params.map toS),some (D.bb.map dV))
noncomputable def A1 (K:Frag) (x:Nm):Option Nat:=(cK K (toS (LH x))).bind fun C=>eN K C (toS (J5 x))
structure GV (K:Frag):Prop where
 Js:qu K = true
 Rb:qE.map (fun f=>((cK K (toS f)).bind (dq K)).map partsOf) = qE.map fun f=>(kT f).map BK
 DJ:(qE.all fun f=>gP (cK K (toS f)) (wu K)) = true
 mE:gq.map (fun x=>((A1 K x).bind (dq K)).map partsOf) = gq.map fun x=>(kT x).map BK
 mB:(gq.all fun x=>gP (A1 K x) fun a=>Mine.DJ K a && (wu K a && (kT x).isSome)) = true
 cE:gQ.map (fun p=>((cK K (toS p.1)).bind fun C=>(eN K C "__init__").bind (dq K)).map (sq K)) = gQ.map fun p=>(vC p.1).map MW
 cB:(gQ.all fun p=>gE.contains p.1 && gP (cK K (toS p.1)) fun C=>gP (vC p.1) fun D=>tQ K C D.bb) = true
 bi:(jW.all fun x=>gP (nsIn K mainGlobals x) fun o=>o.isNone) = true
 lits:wo.map (fun p=>nsIn K mainGlobals (toS p.1)) = wo.map fun p=>some (some p.2.2)
 keys:K.lookup 418 = some { cls:=.type "tuple",data:=.seq Hm.toArray }
 Rg:kW.map (fun x=>(cK K x).bind fun C=>(jU K C).map fun p=>p.2) = kW.map fun x=>(cK K x).bind fun C=>(jU K C).map fun p=>jT C p (refsOf p.1.mro.tail)
 Rh:kW.map (fun x=>((cK K x).bind fun C=>(eN K C "__init__").bind (dq K)).map fun fd=>(fd.body,fd.params.args.map (·.arg))) = kW.map fun _=>some (.stmts xB,uO)
 Ri:(kW.all fun x=>gP (cK K x) fun C=>gP (eN K C "__init__") fun fI=>gP (dq K fI) fun fd=>BJ K C fI fd && (jU K C).isSome) = true
 Rj:(kW.all fun x=>gP (cK K x) fun C=>kW.all fun y=>gP (cK K y) fun D=>exmOne K (.ref D) (.ref C) == some (decide (y = x))) = true
noncomputable def jj (prog:Program) (w:World) (h₀:Heap) (K:Frag):TP:=⟨prog,w,h₀,ji K,qd K,K⟩
theorem oH {K:Frag} {c:Nm} {C:Addr} (h:ji K c = some C):c ∈ gE /\ cK K (toS c) = some C:=by
 unfold ji at h
 split at h
 ·rename_i q; exact ⟨by simpa using q,h⟩
 ·cases h
theorem BI {K:Frag} {c:Nm} {C:Addr} (h:qd K c = some C):fM c = true /\ cK K (toS c) = some C:=by
 unfold qd at h
 split at h
 ·rename_i q; exact ⟨q,h⟩
 ·cases h
theorem vq {c:Nm} (h:fM c = true):toS c ∈ kW:=by
 unfold fM at h
 simp only [Bool.or_eq_true,beq_iff_eq] at h
 rcases h with rfl | rfl
 ·exact .head _
 ·exact .tail _ (.head _)
theorem su {c:Nm} (h:c ∈ gE):∀ m,LH (c ++ 46 :: m) = c /\ J5 (c ++ 46 :: m) = m:=by
 have:∀ c:Nm,(c.all (· != 46)) = true -> ∀ m,LH (c ++ 46 :: m) = c /\ J5 (c ++ 46 :: m) = m:=fun c hc m=>by
  induction c with
  | nil=>exact ⟨rfl,rfl⟩
  | cons x c ih=>
   rw [List.all_cons,Bool.and_eq_true] at hc
   obtain ⟨e1,e2⟩:=ih hc.2
   constructor
   ·show List.takeWhile _ (x :: (c ++ 46 :: m)) = _
    rw [List.takeWhile_cons_of_pos (p:=fun x=>x != 46) hc.1]; exact congrArg _ e1
   ·show (List.dropWhile _ (x :: (c ++ 46 :: m))).tail = _
    rw [List.dropWhile_cons_of_pos (p:=fun x=>x != 46) hc.1]; exact e2
 exact this c (List.all_eq_true.mp (show gE.all (fun c=>c.all (· != 46)) = true by kernel_rfl) c h)
section
variable {prog:Program} {w:World} {h₀:Heap} {K:Frag}
theorem CX {v:Value} {f:Ty -> Bool} (h:A4 K v f = true):∀ ty u,uP (jj prog w h₀ K) ty = some u -> kitOne K v u = some (f ty):=fun ty u hu=>by
 simp only [A4,Bool.and_eq_true,beq_iff_eq] at h
 obtain ⟨g1,g2,g3,g4,g5⟩:=h
 cases ty with
 | nR=>cases hu; exact g1
 | pG=>cases hu; exact g2
 | eo=>cases hu; exact g3
 | iJ=>cases hu; exact g4
 | dz d=>
  obtain ⟨D,hD,rfl⟩:=Option.map_eq_some_iff.mp hu
  obtain ⟨m1,m2⟩:=oH hD
  have:=List.all_eq_true.mp g5 d m1
  rw [m2] at this
  exact beq_iff_eq.mp this
theorem lQ {P:TP} {g:Gh} {h:Heap} (x:Str) (t:Tok):VR P g h (.str (nm x)) (.str x t):=by
 have:=VR.str (P:=P) (g:=g) (h:=h) (nm x) t
 rwa [bJ] at this
theorem FU {P:TP} {g:Gh} {h:Heap} (t:Tok):VR P g h (.bytes [254,255]) (.bytes #[254,255] t):=by
 have:=VR.bytes (P:=P) (g:=g) (h:=h) #[254,255] t
 exact this
theorem IE (X:K.In h₀) (e:K.lookup 418 = some { cls:=.type "tuple",data:=.seq Hm.toArray }) {g:Gh} {h:Heap} (o:∀ b o,h₀.get? b = some o -> g.Z b /\ h.get? b = some o):∀ p ∈ wo,VR (jj prog w h₀ K) g h p.2.1 p.2.2 :=
 List.forall_mem_cons.2 ⟨.int _ _,List.forall_mem_cons.2 ⟨FU _,List.forall_mem_cons.2 ⟨.int _ _,List.forall_mem_cons.2 ⟨lQ _ _,List.forall_mem_cons.2 ⟨.tup (o _ _ (X _ _ e)).1 ⟨_,(o _ _ (X _ _ e)).2,rfl,_,rfl⟩ (.cons (lQ _ _) (.cons (lQ _ _) (.cons (lQ _ _) (.cons (lQ _ _) (.cons (lQ _ _) (.cons (lQ _ _) .nil)))))),fun _ h=>(by cases h)⟩⟩⟩⟩⟩
theorem Jt (X:K.In h₀) (h:qu K = true):oN (jj prog w h₀ K) /\ ∀ c C,ji K c = some C -> nk K c C = true:=by
 simp only [qu,Bool.and_eq_true,beq_iff_eq] at h
 obtain ⟨h1,h2,h3,h4⟩:=h
 have tc:∀ c C,ji K c = some C -> nk K c C = true:=fun c C hc=>by
  obtain ⟨m1,m2⟩:=oH hc
  have:=List.all_eq_true.mp h4 c m1
  rwa [m2] at this
 refine ⟨⟨X,fun t ht=>CX (List.all_eq_true.mp h1 t ht),h2,h3,fun c C hc=>?_⟩,tc⟩
 have:=tc c C hc
 simp only [nk,Bool.and_eq_true,beq_iff_eq] at this
 exact ⟨CX this.1,this.2.1,this.2.2.1,this.2.2.2.1,this.2.2.2.2.1⟩
end
end
end
end Mine
end
section
open PySem PySem.W PyProof.Rows PySem.Calls
set_option maxRecDepth 100000
namespace Mine
noncomputable section
section
section
variable {prog:Program} {w:World} {h₀:Heap} {K:Frag}
theorem Li {f:Nm} {D:Df} (hd:f.contains 46 = false) (h:kT f = some D):f ∈ qE:=by
 have h:fnIn f wb = some D:=by
  unfold kT at h
  cases q:f.dropWhile fun x=>x != 46 with
  | nil=>rw [q] at h; exact h
  | cons x m=>
   have hx:x = 46:=by
    have:=List.head?_dropWhile_not (fun x=>x != 46) f
    rw [q] at this
    simpa using this
   have:46 ∈ f:=hx ▸ (List.dropWhile_sublist _).subset (q ▸ List.mem_cons_self)
   rw [List.contains_eq_mem,decide_eq_false_iff_not] at hd
   exact (hd this).elim
 obtain ⟨s,hs,e⟩:=List.exists_of_findSome?_eq_some h
 obtain ⟨p,q,e⟩:=Option.bind_eq_some_iff.mp e
 refine List.mem_filterMap.mpr ⟨s,hs,?_⟩
 rw [q]
 by_cases w:nm p.1 = f
 ·exact congrArg some w
 ·rw [if_neg w] at e; cases e
theorem Pq:(wz.all fun p=>jW.contains p.1 && !(p.1 == ("__name__":Str))) = true:=by kernel_rfl
theorem Pp:wz.map (fun p=>bootBuiltins p.1) = wz.map fun p=>some (Ao p.2):=by kernel_rfl
theorem MF {mg mb:Str -> Option Value} (X:K.In h₀) (G:h₀.Ns mainGlobals mg) (B:h₀.Ns builtinsNs mb) (hB:∀ x:Str,x ≠ "__name__" -> mb x = bootBuiltins x) (e:GV K) (tc:∀ c C,ji K c = some C -> nk K c C = true):Ec (jj prog w h₀ K) mg mb:=by
 have no:∀ x ∈ jW,mg x = none:=fun x hx=>by
  obtain ⟨o,q,h⟩:=dh (List.all_eq_true.mp e.bi x hx)
  cases o with
  | none=>exact ns_none_of X G q
  | some _=>cases h
 have has:∀ {x:Str} {a:Addr},cK K x = some a -> mg x = some (.ref a):=fun q=>mg_of X G (xQ q)
 have bi:∀ x ∈ jW,x ≠ "__name__" -> mg x = none /\ mb x = bootBuiltins x:=fun x hx hn=>⟨no x hx,hB x hn⟩
 have cl:∀ x:Str,nm x ∈ gE -> ∃ C,ji K (nm x) = some C /\ cK K x = some C:=fun x hx=>by
  have ht:=e.Js
  simp only [qu,Bool.and_eq_true] at ht
  obtain ⟨C,hC,_⟩:=dh (List.all_eq_true.mp ht.2.2.2 _ hx)
  rw [bJ] at hC
  exact ⟨C,by unfold ji; rw [if_pos (by simpa using hx),bJ]; exact hC,hC⟩
 refine ⟨G,B,fun x v hx=>?_,fun f D E8 hD=>?_,fun f D hD hc=>?_,fun f b hb=>?_,?_,?_,?_,?_,?_,fun t ty hty=>?_,?_,fun f hf=>?_⟩
 ·obtain ⟨p,hm,q⟩:=List.mem_map.mp (show (nm x,v) ∈ wo.map fun p=>(p.1,p.2.1) from jb hx)
  injection q with q1 q2
  have q:=map_eq e.lits _ hm
  rw [q1,bJ] at q
  exact ⟨p.2.2,mg_of X G q,fun g h' o=>q2 ▸ IE X e.keys o p hm⟩
 ·have hm:=Li E8 hD
  obtain ⟨a,ha,c⟩:=dh (List.all_eq_true.mp e.DJ _ hm)
  have e1:=map_eq e.Rb _ hm
  rw [ha,hD] at e1
  rw [bJ] at ha
  exact ⟨a,has ha,rQ (P:=jj prog w h₀ K) X c e1⟩
 ·obtain ⟨c,hc⟩:=Option.isSome_iff_exists.mp hc
  have hm:=jb hc
  have c1:=List.all_eq_true.mp e.cB _ hm
  have e1:=map_eq e.cE _ hm
  dsimp only at c1 e1
  rw [hD] at c1 e1
  rw [Bool.and_eq_true] at c1
  obtain ⟨C,hC,c2⟩:=dh c1.2
  rw [hC] at e1
  rw [bJ] at hC
  obtain ⟨C',h1,h2⟩:=cl f (by simpa using c1.1)
  obtain rfl:C' = C:=Option.some.inj (h2.symm.trans hC)
  exact ⟨C',has hC,FO (P:=jj prog w h₀ K) X h1 c2 e1⟩
 ·have hm:=PySem.mem_of_lookup hb
  have q:=List.all_eq_true.mp Pq _ hm
  rw [Bool.and_eq_true,Bool.not_eq_true',beq_eq_false_iff_ne] at q
  exact ⟨no _ (List.contains_iff_mem.mp q.1),(hB _ q.2).trans (map_eq Pp _ hm)⟩
 ·exact bi _ (by decide) (by decide)
 ·exact bi _ (by decide) (by decide)
 ·exact bi _ (by decide) (by decide)
 ·exact bi _ (by decide) (by decide)
 ·exact bi _ (by decide) (by decide)
 ·have cl:∀ x:Str,nm x ∈ gE -> ∃ v,uP (jj prog w h₀ K) (.dz (nm x)) = some v /\ (mg x = some v \/ (mg x = none /\ mb x = some v)):=fun x hx=>by
   obtain ⟨C,h1,h2⟩:=cl x hx
   exact ⟨.ref C,by show (ji K (nm x)).map Value.ref = _; rw [h1]; rfl,.inl (has h2)⟩
  exact (List.forall_mem_cons.2 ⟨⟨_,rfl,.inr (bi _ (by decide) (by decide))⟩,List.forall_mem_cons.2 ⟨⟨_,rfl,.inr (bi _ (by decide) (by decide))⟩,List.forall_mem_cons.2 ⟨⟨_,rfl,.inr (bi _ (by decide) (by decide))⟩,List.forall_mem_cons.2 ⟨⟨_,rfl,.inr (bi _ (by decide) (by decide))⟩,
   List.forall_mem_cons.2 ⟨cl _ (by decide),List.forall_mem_cons.2 ⟨cl _ (by decide),List.forall_mem_cons.2 ⟨cl _ (by decide),nofun⟩⟩⟩⟩⟩⟩⟩:∀ p ∈ GZ,∃ v,uP (jj prog w h₀ K) p.2 = some v /\ (mg p.1 = some v \/ (mg p.1 = none /\ mb p.1 = some v))) (t,ty) (PySem.mem_of_lookup hty)
 ·exact bi _ (by decide) (by decide)
 ·have hm:=vq hf
  rw [bJ] at hm
  obtain ⟨C,hC,c⟩:=dh (List.all_eq_true.mp e.Ri _ hm)
  have e1:=map_eq e.Rg _ hm
  have e2:=map_eq e.Rh _ hm
  rw [hC] at e1 e2
  obtain ⟨C',Q8,q2⟩:=dh (List.all_eq_true.mp e.Rj _ hm)
  obtain rfl:C' = C:=Option.some.inj (Q8.symm.trans hC)
  refine ⟨C',by show qd K _ = _; unfold qd; rw [if_pos hf,bJ]; exact hC,has hC,FG (P:=jj prog w h₀ K) X c e1 e2,fun d D hD=>?_⟩
  obtain ⟨m1,m2⟩:=BI hD
  obtain ⟨D',Q5,q3⟩:=dh (List.all_eq_true.mp q2 _ (vq m1))
  obtain rfl:D' = D:=Option.some.inj (Q5.symm.trans m2)
  refine (beq_iff_eq.mp q3).trans (congrArg some (decide_eq_decide.mpr ⟨fun q=>?_,fun q=>?_⟩))
  ·rw [← q,CM]
  ·rw [q,bJ]
theorem La {mg mb:Str -> Option Value} (X:K.In h₀) (NL:h₀.NoLimit) (G:h₀.Ns mainGlobals mg) (B:h₀.Ns builtinsNs mb) (hB:∀ x:Str,x ≠ "__name__" -> mb x = bootBuiltins x) (e:GV K):dT (jj prog w h₀ K):=by
 obtain ⟨T,tc⟩:=Jt (prog:=prog) (w:=w) X e.Js
 have Ju:∀ c C,ji K c = some C -> plainGet K C "__class__" = true /\ ∀ x ∈ dj,gP (findIn K (.ref C) (toS x)) (noGet K) = true:=fun c C hc=>by
  have:=tc c C hc
  simp only [nk,Bool.and_eq_true] at this
  exact ⟨this.2.1,List.all_eq_true.mp this.2.2.2.2.2⟩
 refine ⟨T,NL,⟨mg,mb,MF X G B hB e tc⟩,fun x hx c C hc=>⟨(Ju c C hc).1,?_⟩,fun m c C hc=>(Ju c C hc).1,fun c C m hc hm=>?_⟩
 ·obtain ⟨a,h1,h2⟩:=dh ((Ju c C hc).2 x hx)
  exact ⟨a,h1,h2⟩
 ·obtain ⟨m1,m2⟩:=oH hc
  have hm:c ++ 46 :: m ∈ gq:=by simpa using hm
  obtain ⟨a,ha,h⟩:=dh (List.all_eq_true.mp e.mB _ hm)
  have e1:=map_eq e.mE _ hm
  obtain ⟨n1,n2⟩:=su m1 m
  simp only [Bool.and_eq_true] at h
  obtain ⟨D,hD⟩:=Option.isSome_iff_exists.mp h.2.2
  rw [ha,hD] at e1
  unfold A1 at ha
  rw [n1,n2,m2] at ha
  exact ⟨D,a,hD,oJ ha,beq_iff_eq.mp h.1,rQ (P:=jj prog w h₀ K) X h.2.1 e1⟩
end
end
end
end Mine
end
section
open PySem PySem.W PyProof.Rows PySem.Calls
namespace Mine
noncomputable section
section
theorem I0 {g:Gh} {h:Heap} {us:List Value} {ns:List Int} (hI:IntsAre us ns):aC P g h (ns.map .int) us:=by
 induction hI with
 | nil=>exact .nil
 | cons _ _ _ ih=>exact .cons (.int _ _) ih
theorem EO (G:dT P) {s:Shared} (hP:P.h₀ = s.heap) {D:Df} (hD:kT lu = some D) {a L:Addr} {us:List Value} {ns:List Int} (F:kL P D a)
  (hL:s.heap.PlainList L us.toArray) (hI:IntsAre us ns) (hg:s.gens = #[]) (hsys:∃ o,s.heap.get? sysModules = some o)
  (e:WF 11 lu [.ah (ns.map .int)] [] (fun v _=>v = .bool true) ee) {Q:Value -> Shared -> Prop} {E:Value -> Shared -> Prop}
  (hQ:∀ s',(∀ b o,s.heap.get? b = some o -> s'.heap.get? b = some o) -> s'.os = s.os -> s'.gens = #[] -> Q (.bool true) s'):wpAny P.M callerA (call (.ref a) [.ref L]) Q E s:=by
 have i:Inv ⟨[],fun b=>s.heap.get? b ≠ none⟩ [] s.heap:=by
  refine ⟨rfl,List.nodup_nil,fun l o e=>by simp at e,fun a ha=>by simp at ha,fun b o e=>?_,fun a ha=>by simp at ha,fun a ha=>?_,by simp,hsys⟩
  ·rw [hP] at e; exact ⟨show s.heap.get? b ≠ none by rw [e]; simp,e⟩
  ·cases q:s.heap.get? a with
   | none=>exact (ha q).elim
   | some o=>exact ⟨o,rfl⟩
 obtain ⟨len,hl⟩:=hL
 have hz:(fun b=>s.heap.get? b ≠ none) L:=by show s.heap.get? L ≠ none; rw [hl]; simp
 obtain ⟨fn,h1,h2,h3⟩:=zD e
 obtain ⟨b1,b2,b3⟩:=An G (n:=10) (fun _=>⟨Al G 10,fun _ _ _=>HL G⟩) _ _ _ hD h1
 rw [b1] at h2 h3
 refine vE (p:=fun v _=>v = .bool true) (ex:=ee) G b2 b3 F h2.symm (fs:=[]) (g:=⟨[],fun b=>s.heap.get? b ≠ none⟩) (H:=[]) ⟨i,fun b hb=>(by cases hb),trivial,rfl,rfl,by decide,by decide,hg⟩ (.cons (.ah hz ⟨len,hl⟩ (I0 hI)) .nil) h3 ⟨fun v b t' q af r=>?_,fun c x t' z _ _=>(show False from z).elim⟩
 subst q
 cases r
 exact hQ t'.s (fun b o e=>(af.inv.old b o (by rw [hP]; exact e)).2) af.os (af.gens.trans hg)
theorem IF:∀ p,yu p:=O1 fun G s hP D hD a L us ns F hL hI hg hsys e Q E hQ=>EO G hP hD F hL hI hg hsys e hQ
end
end
end Mine
end
section
open PySem PySem.W PyProof.Rows
namespace Mine.main
def tw13962693860625380366:=True
def tw2852251193174398662:=True
def tw15589955886551607785:=True
def tw4917070330192852093:=True
def tw11273777480241942364:=True
def tw8260724100714396741:=True
def tw1264294196387467257:=True
def tw5084117380071580128:=True
def tw11156056980113079860:=True
def tw5638201095994319732:=True
def tw14080665800827857628:=True
def tw14864641218109852296:=True
def tw7943653406960230725:=True
def tw14646587721710459877:=True
def tw13626721169425172152:=True
def tw11857135199678951331:=True
def tw1277820614484962519:=True
def tw15803610866087392283:=True
def tw15491723280356408159:=True
def tw12298629886278197574:=True
def tw10896356407431480244:=True
def tw6801380410627298636:=True
def tw10114013102757674387:=True
def tw7099566731139839155:=True
def tw10876375607700338302:=True
def tw1003221794747103253:=True
def tw12747388180105724736:=True
def tw4026956272090484662:=True
def tw11735423636902730196:=True
def tw5418533224930618480:=True
def tw17695171507069755227:=True
def tw15510692781650021527:=True
def tw17292155258170135553:=True
def tw1390771862084280389:=True
def tw8905464785575363620:=True
def tw5585478044538960755:=True
def tw1372806426800153423:=True
def tw5181119749688162637:=True
def tw16832360635688203351:=True
def tw4573282807186111410:=True
def tw9498315638749924794:=True
def tw11754280020882632543:=True
def tw471287901995484742:=True
def tw13974046611088194958:=True
def tw15616401959046598769:=True
def tw8930851030842425676:=True
def tw16452447596832230105:=True
def tw1306636233014830658:=True
def tw8440099810896429113:=True
def tw3958507339218470045:=True
def tw14216407083858561409:=True
def tw4650958065196391918:=True
def tw18092606169130929673:=True
def tw18287795668848337631:=True
def tw365850788961202214:=True
def tw14457758005677747962:=True
def tw11672040692669724308:=True
def tw15734200111481486640:=True
def tw16035907590883218939:=True
def tw14539993770535171780:=True
def tw1099256609624015869:=True
def tw3549514262204291990:=True
def tw7113585516715319716:=True
def tw8546124895413445307:=True
def tw5842977544298395883:=True
def tw6361450105264607166:=True
def tw1289389943133740499:=True
def tw1429040668314091153:=True
def tw3864431920445960829:=True
def tw17146568849442343683:=True
def tw15624239662980076321:=True
def tw11239335112260394413:=True
def tw3911810758690780188:=True
def tw917386388269078853:=True
def tw14722489848711283861:=True
def tw13180746182150919023:=True
def tw3045742163950154196:=True
def tw6697339332421208802:=True
def tw2173562974560187446:=True
def tw17147588175821073265:=True
def tw9994787619460420439:=True
def tw11399646045708457374:=True
def tw1826329307503635854:=True
def tw1678875084529416142:=True
def tw1545906260438175962:=True
def tw15737690656516749961:=True
def tw12623159325031504133:=True
def tw14106445559736802775:=True
def tw1677766988990989824:=True
def tw8844999433837080629:=True
def tw18388646267081700054:=True
def tw11135027115929721415:=True
def tw2629084897520917108:=True
def tw6741292078354696603:=True
def tw4413345314126155841:=True
def tw5127751686995613262:=True
def tw6557543464795787104:=True
def tw13803360072150633466:=True
def tw765107192605250810:=True
def tw11461230924637031220:=True
def tw16721930046160240684:=True
def tw4651154628705390771:=True
def tw10877679251791092727:=True
def tw6690441779611380620:=True
def tw5995161000843957690:=True
def tw6449824600675878752:=True
def tw7647378279178456250:=True
def tw5061512775090418087:=True
def tw1253437644075932092:=True
def tw10094358506670053839:=True
def tw14492832472218066102:=True
def tw11752208632293872130:=True
def tw3848698983108048278:=True
def tw9155575984036265788:=True
def tw8118072479153026202:=True
def tw6044114016751833949:=True
def tw13406003279186336099:=True
def tw2402762420636078793:=True
def tw6334894449686545209:=True
def tw4324958949535026087:=True
def tw1178595665728414349:=True
def tw6161133996638707016:=True
def tw5623159541915647742:=True
def tw13110970153573199417:=True
def tw9942282790977331292:=True
def tw13313126695403321540:=True
def tw11716418206903941319:=True
def tw15558288988949320067:=True
def tw13838900630717943254:=True
def tw10924716458440934090:=True
def tw1469836325065767749:=True
def tw15350898050860989542:=True
def tw5790326737455844299:=True
def tw5921134243170700561:=True
def tw2406621943657119228:=True
def tw13157206579259725088:=True
def tw6910295442248876197:=True
def tw17236958762192778904:=True
def tw9561784451562097942:=True
def tw962032349192862916:=True
def tw4775608329324902142:=True
def tw7374449385936029500:=True
def tw7308723440029596264:=True
def tw5517759331935216279:=True
def tw17297283025540448806:=True
def tw9925469786538053656:=True
def tw14771111431291430275:=True
def tw5518243967957118194:=True
def tw13355152605343272895:=True
def tw13148611719377898607:=True
def tw4812270449578504274:=True
def tw10047389527955405517:=True
def tw13547569757486424058:=True
def tw13077236301305049449:=True
def tw1496695287857109588:=True
def tw11531331273489700057:=True
def tw9848185148710128376:=True
def tw12646911602827044314:=True
def tw7332552209862256014:=True
def tw18403998269306519403:=True
def tw2714283472998740243:=True
def tw15608450976537380609:=True
def tw10642606787283503386:=True
def tw4415267120914213949:=True
def tw16819838333489098493:=True
def tw16656740534632174751:=True
def tw11967333016625521393:=True
def tw11774690029378154688:=True
def tw10813080517026676716:=True
def tw6164561884633627433:=True
def tw1319676515408343850:=True
def tw221909299271738847:=True
def tw8436210846270712021:=True
def tw7221758910455160077:=True
def tw15277975159832343749:=True
def tw9361300454564663673:=True
def tw12608185968620612914:=True
def tw7237411587787531456:=True
def tw12564604832814323664:=True
def tw17438294365789470252:=True
def tw452746233719593009:=True
def tw4585930131862741453:=True
def tw6385024630547198690:=True
def tw16965079339398995527:=True
def tw14798791472264738832:=True
def tw13465503431842376007:=True
def tw10609540516017602915:=True
def tw6886502059237256666:=True
def tw1027651156746619712:=True
def tw4072190877284726289:=True
def tw1454224541498743561:=True
def tw13693970394777133609:=True
def tw1632041292262086317:=True
def tw9189880136782149556:=True
def tw2729793432009153956:=True
def tw14235155234550121937:=True
def tw14313897822631088780:=True
def tw16451033083921036709:=True
def tw9369988214560726041:=True
def tw9121559901702372667:=True
def tw18218335207050127959:=True
def tw8207831470162742035:=True
def tw15225127925928830808:=True
def tw6855474311058116810:=True
def tw10199874654664476236:=True
def tw2456247091588846565:=True
def tw13260870731297125680:=True
def tw6112859857366181021:=True
def tw5372645768047454471:=True
def tw5401703158475992631:=True
def tw1777545030009416734:=True
def tw11646826074482590764:=True
def tw3491332818749588091:=True
def tw49674306023711395:=True
def tw750237026923860459:=True
def tw7074144079889050967:=True
def tw17453503289922162039:=True
def tw12800608258095302798:=True
def tw8947760058931562597:=True
def tw14793117695081215449:=True
def tw12463224122652932544:=True
def tw12343854547171428336:=True
def tw18425317256667529438:=True
def tw14027531716089632829:=True
def tw9957550378297406723:=True
def tw6017780186905309127:=True
def tw10123989817122485451:=True
def tw7698036289167662538:=True
def tw1142173933681417890:=True
def tw341453280667917650:=True
def tw12139096438432415106:=True
def tw14672674291997333471:=True
def tw4452170602077327944:=True
def tw17057053908230417247:=True
def tw7943094425149488825:=True
def tw4766233809647381661:=True
def tw13955341122119975181:=True
def tw18190005008629794160:=True
def tw799486724532869496:=True
def tw4996873109452691289:=True
def tw6981815665589151136:=True
def tw10169072693733980587:=True
def tw11251407683458634364:=True
def tw10231336680788121439:=True
def tw3613476055612923068:=True
def tw14060465935940456498:=True
def tw9897820754763898449:=True
def tw13597483153833180358:=True
def tw15389016597739433670:=True
def tw11349898740250378076:=True
def tw6663778134991626487:=True
def tw11962923498438245051:=True
def tw13667920496262714385:=True
def tw12450111651097656602:=True
def tw4491334807805099456:=True
def tw11218778669853930896:=True
def tw7165207203227711834:=True
def tw9392487213469676918:=True
def tw7699798408344515789:=True
def tw12751799325998411230:=True
def tw16826212616301561204:=True
def tw12992176717851604617:=True
def tw10876229203375891673:=True
def tw5436791530062809996:=True
def tw3454311308915712629:=True
def tw9268297945177815525:=True
def tw12885673836220544336:=True
def tw5473700226181020891:=True
def tw18031918436515192882:=True
def tw16922381011570985944:=True
def tw7884331609784382070:=True
def tw9302470337196694018:=True
def tw11388154006635350966:=True
def tw13980345723018547825:=True
def tw12909650291622432550:=True
def tw17268439761433841065:=True
def tw2583023086579268501:=True
def tw5871769198996169552:=True
def tw9265829497004654079:=True
def tw15955573374722617477:=True
def tw11476092923266045095:=True
def tw15387884906608193903:=True
def tw7186131708394509389:=True
def tw7268301785047649679:=True
def tw5234446048077146213:=True
def tw2110754180369666209:=True
def tw8302014573352188303:=True
def tw8265370782698574782:=True
def tw941737954851690730:=True
def tw2007339730380871907:=True
def tw17561526911342447988:=True
def tw14562738103837258888:=True
def tw11092141859048813250:=True
def tw3557749057250611081:=True
def tw979501456738626862:=True
def tw17715262827843222689:=True
def tw6584820252761975732:=True
def tw1645717771770832407:=True
def tw5400957986263281647:=True
def tw834873547066669988:=True
def tw14439473939278146460:=True
def tw11712081513822626495:=True
def tw3867218068155391060:=True
def tw1628013610222277130:=True
def tw3796207824708393856:=True
def tw11221353774195762014:=True
def tw1444470235128671497:=True
def tw12922898485456448571:=True
def tw6785657489111691699:=True
def tw3137596982192898869:=True
def tw1130211791997205004:=True
def tw16778611742570070204:=True
def tw17450470499104002142:=True
def tw451873465583785326:=True
def tw6912675738884088206:=True
def tw18332899500509843999:=True
def tw11001617756164336837:=True
def tw1409966394225722968:=True
def tw17231530030057983671:=True
def tw5243159528196176124:=True
def tw15356762974548107741:=True
def tw3370190323706015969:=True
def tw10334261112615635914:=True
def tw12483276189755474720:=True
def tw1587290215689348708:=True
def tw18344032359734412310:=True
def tw5240536507193477226:=True
def tw4297412468100583042:=True
def tw8221884470709460571:=True
def tw3829396358689915599:=True
def tw5309058905264134205:=True
def tw18120430973489738927:=True
def tw13876859957761632879:=True
def tw6877560268529008848:=True
def tw8627561154394265716:=True
def tw10455743928339290457:=True
def tw9557352009045844224:=True
def tw3583811862363856187:=True
def tw14064073609400967072:=True
def tw12518504611687188807:=True
def tw12431731261707249289:=True
def tw8478376212529829071:=True
def tw16135426469972691074:=True
def tw11544348965984651327:=True
def tw7590696779544312186:=True
def tw13348322127785295214:=True
def tw14539718073827164543:=True
def tw5677329702179833609:=True
def tw16806246253224384389:=True
def tw10363585996791799541:=True
def tw3550944181758424347:=True
def tw11501822485730972192:=True
def tw13972245371655741198:=True
def tw9406782406253462049:=True
def tw3466206800631347469:=True
def tw18302796317244248524:=True
def tw11120327062377616369:=True
def tw12543713266681445118:=True
def tw3706830351922483016:=True
def tw13350764725976880583:=True
def tw18178676814319149831:=True
def tw9417822746687237092:=True
def tw12885385263037960081:=True
def tw16102231251864390963:=True
def tw13110577991587790113:=True
def tw4500915450034043215:=True
def tw1156462466702112376:=True
def tw3562595001068472590:=True
def tw15928290008803537013:=True
def tw6635558491612396129:=True
def tw5396188567872606041:=True
def tw14168887731352723522:=True
def tw16022572192331126682:=True
def tw10234815189450012239:=True
def tw2724176850512262202:=True
def tw17477492558424962760:=True
def tw17128291446047057950:=True
def tw17679725944135375923:=True
def tw12653679108036650311:=True
def tw15270170921892066516:=True
def tw6519269512792494810:=True
def tw9368617206455126095:=True
def tw8475525182357872103:=True
def tw6508729118710982530:=True
def tw2702614204127132176:=True
def tw4948327476702027199:=True
def tw14907226015203709474:=True
def tw1886080085820668685:=True
def tw12344883248587561484:=True
def tw13989496423458381343:=True
def tw104360540948158410:=True
def tw17403364634526059139:=True
def tw7293298908176781663:=True
def tw1198661942849946583:=True
def tw11554813239044494598:=True
def tw15734660467963936456:=True
def tw5102693214775723256:=True
def tw14635473669698735251:=True
def tw3960113756560652017:=True
def tw17880189553859617996:=True
def tw4749052000479324790:=True
def tw12590340796369385619:=True
def tw8046773169563483271:=True
def tw11982392923317675503:=True
def tw6565609875121592624:=True
def tw13154001654789283132:=True
def tw16923884221124529275:=True
def tw8652556701797213591:=True
def tw17223442867436993403:=True
def tw12455012482086183272:=True
def tw6655696309031964122:=True
def tw15303317825217679618:=True
def tw12839114828313443825:=True
def tw9656510801202774680:=True
def tw13676971244355772609:=True
def tw18325589031809861271:=True
def tw7751025194823839400:=True
def tw16950194794029067938:=True
def tw11409991511011244131:=True
def tw2544328076492683441:=True
def tw9756827057097773860:=True
def tw2019394398466159022:=True
def tw52199770228462824:=True
def tw73751810991705359:=True
def tw17871620999419790863:=True
def tw716429049611869786:=True
def tw1054321117371714560:=True
def tw5287059835090251167:=True
def tw9976160756891316704:=True
def tw3314904115985164895:=True
def tw48596604365144762:=True
def tw1439166485080882:=True
def tw4330594992337426955:=True
def tw961187720498965250:=True
def tw6907636171062424033:=True
def tw223528310411579522:=True
def tw17353955331779342651:=True
def tw16218864148678617972:=True
def tw3779293765908593550:=True
def tw14504180641510445567:=True
def tw11987853993630220354:=True
def tw15595112118272840620:=True
def tw9360745474812902239:=True
def tw9964214247947446159:=True
def tw10707853282979444102:=True
def tw2895952525429962455:=True
def tw12670839924663504800:=True
def tw14759895335926876869:=True
def tw16676564476587882173:=True
def tw6418098437765475518:=True
def tw4039676971129161736:=True
def tw11710404883906591787:=True
def tw15514936471743626214:=True
def tw6237627108579964202:=True
def tw4261964983698606537:=True
def tw2566753976717531306:=True
def tw1236483940969888574:=True
def tw5613160597433933154:=True
def tw14909365282108701170:=True
def tw4839478117068044826:=True
def tw9730157408454304684:=True
def tw17052023290607921161:=True
def tw7439787175107056256:=True
def tw4946776927847147119:=True
def tw2555861160798251974:=True
def tw11003572833241299968:=True
def tw3626430660855392483:=True
def tw4156125974679941130:=True
def tw12027323910402764344:=True
def tw12927740378394474205:=True
def tw16305672181175384284:=True
def tw11785714552879321826:=True
def tw18063282731904131703:=True
def tw12702744160499308131:=True
def tw17275675667316583603:=True
def tw16251939892948500945:=True
def tw7742616358663508648:=True
def tw1092785777240315536:=True
def tw13724616953566380437:=True
def tw9272984997812220495:=True
def tw12675357926760492328:=True
def tw4900431672193113347:=True
def tw9573086628692744296:=True
def tw3532412968194664532:=True
def tw6657087868060814:=True
def tw14859100970857779836:=True
def tw8467378866343419333:=True
def tw9470667924834194258:=True
def tw15079240505294077160:=True
def tw4189750870438640210:=True
def tw13777938177461255882:=True
def tw8952462522180670554:=True
def tw16049902774474827687:=True
def tw5363903885879670357:=True
def tw9903775340124721222:=True
def tw17644181745481072423:=True
def tw18418235949754561950:=True
def tw6674386428176565332:=True
def tw8484041278411425421:=True
def tw7991365701116552721:=True
def tw1453356044741674121:=True
def tw17298425922696826006:=True
def tw2647654807098235363:=True
def tw7259363254985744601:=True
def tw3343439749351644125:=True
def tw6696893160125735727:=True
def tw9376575566392132001:=True
def tw10159738436595150677:=True
def tw16193401482309157537:=True
def tw2524017781993486291:=True
def tw12748397558918655664:=True
def tw10625486282989778954:=True
def tw13293747886898857621:=True
def tw6880717277089553138:=True
def tw13113777628852026922:=True
def tw9508770018378322450:=True
def tw9190990891756207365:=True
def tw2279707942289718827:=True
def tw12057704586751987240:=True
def tw10463206416058312583:=True
def tw15060185592220127646:=True
def tw17272174723667511238:=True
def tw5378808338967829844:=True
def tw15109750227778091905:=True
def tw4817600198373253283:=True
def tw11086099901593105684:=True
def tw17737603089517620647:=True
def tw9381277316556691805:=True
def tw9840939614602229412:=True
def tw387501639795913443:=True
def tw11410963132546700228:=True
def tw11181722664286889309:=True
def tw6788695710022549768:=True
def tw11403851563620829512:=True
def tw15017983477296125989:=True
def tw1504049600530537962:=True
def tw16959884160788844718:=True
def tw645136716886899192:=True
def tw7846812961960373227:=True
def tw18315214858253571532:=True
def tw11487549891475536569:=True
def tw8557395850702784662:=True
def tw6542085627976250192:=True
def tw11729630521733628537:=True
def tw15410482203810522393:=True
def tw6632538468102435922:=True
def tw18385570937342765463:=True
def tw8127475511531132179:=True
def tw1850612553970854742:=True
def tw6214117541549086881:=True
def tw13227692790652741651:=True
def tw4365514962571936147:=True
def tw6639522245352263942:=True
def tw4038153913678941442:=True
def tw11883459871715217827:=True
def tw5160751907100791332:=True
def tw10821422270917381399:=True
def tw12077450504624328385:=True
def tw16320729459185622934:=True
def tw10665469846841522134:=True
def tw8809968196449919288:=True
def tw15806524323241146399:=True
def tw8079908401900000222:=True
def tw14218914174604095658:=True
def tw7939164064552038406:=True
def tw5797031442667253490:=True
def tw17974016328880235120:=True
def tw16153842264607907944:=True
def tw1615045767204293396:=True
def tw3394367416137920725:=True
def tw7761410557224570781:=True
def tw15643365686152983790:=True
def tw1519927702969063271:=True
def tw11420884497731329202:=True
def tw2921958311620399285:=True
def tw7153082081811710619:=True
def tw10652863235454686790:=True
def tw2287757881348798766:=True
def tw3234112476842188716:=True
def tw11595355409239048105:=True
def tw2190695567426971638:=True
def tw18134284020713443437:=True
def tw18442785490491869365:=True
def tw1714950047550659301:=True
def tw7691172733374981047:=True
def tw4475767826048309731:=True
def tw17290568124846718506:=True
def tw12205347405646519318:=True
def tw1261021989165538067:=True
def tw10391951854915411234:=True
def tw6183352029847204284:=True
def tw14788915703135433725:=True
def tw3627144658338631552:=True
def tw1157997071576566072:=True
def tw17402982504261768225:=True
def tw8707812797481193996:=True
def tw14639212616227390028:=True
def tw14009396871252706886:=True
def tw6162249291895867263:=True
def tw2821470743931037460:=True
def tw14061640607465278742:=True
def tw15768048840197415361:=True
def tw6053611964639427726:=True
def tw17091655785135471103:=True
def tw12222963475772708484:=True
def tw7514964652732493775:=True
def tw6545385358150927430:=True
def tw2921621734765799159:=True
def tw2225956059507018244:=True
def tw3299218664060906527:=True
def tw7974275031393228247:=True
def tw11374851513655246148:=True
def tw7332330508316399935:=True
def tw8663697691656813868:=True
def tw6511744376749373798:=True
def tw17725498274588495791:=True
def tw15467891735981029475:=True
def tw2906824675625879941:=True
def tw832900586485598795:=True
def tw12915833801598196605:=True
def tw5665735395497279834:=True
def tw17699438841360665129:=True
def tw18392154025008590481:=True
def tw3994622017586750766:=True
def tw12669497459151727238:=True
def tw17118054049896295152:=True
def tw15131278010643852716:=True
def tw7173623326730630234:=True
def tw15984706205718930553:=True
def tw13642826006792871662:=True
def tw2900998541784483753:=True
def tw4681395471914393968:=True
def tw4088224383575840552:=True
def tw12900284412222446716:=True
def tw9808303207383738048:=True
def tw10092017014551392330:=True
def tw9682133043923132273:=True
def tw14161005256144132680:=True
def tw4990475226369331113:=True
def tw4605139254293405059:=True
def tw5781596087445459943:=True
def tw66260789543402106:=True
def tw10663580350406149668:=True
def tw14662554035588321541:=True
def tw8228058824784995430:=True
def tw2199488891245549803:=True
def tw15339360928052813295:=True
def tw10044588960856096794:=True
def tw5649967823195072380:=True
def tw15485851114877660061:=True
def tw892681787802806017:=True
def tw1255815211270559930:=True
def tw8211959896082780389:=True
def tw14097447854668400296:=True
def tw2238316416991798583:=True
def tw15554039934745177238:=True
def tw13797323745857372409:=True
def tw4126091431370883743:=True
def tw17767330081159143506:=True
def tw4458048076830672230:=True
def tw5396361742852586263:=True
def tw15779862323288319816:=True
end Mine.main
set_option maxRecDepth 100000
set_option maxHeartbeats 8000000
namespace Mine
theorem main:PySem.Challenge.rw_pb0489_01.Holds:=by
 (w_on; o_law; k_head; (case hw=>w_witness2))
 have glo:∀ P:Params,GV (main.heap_1_39 P):=fun P=>⟨by kernel_rfl,by kernel_rfl,by kernel_rfl,by kernel_rfl,by kernel_rfl,by kernel_rfl,by kernel_rfl,by kernel_rfl,by kernel_rfl,by kernel_rfl,by kernel_rfl,by kernel_rfl,by kernel_rfl,by kernel_rfl⟩
 have lf:∀ P:Params,gP (cK (main.heap_1_39 P) "law") (wu (main.heap_1_39 P)) = true:=fun P=>by kernel_rfl
 have le:∀ P:Params,((cK (main.heap_1_39 P) "law").bind (dq (main.heap_1_39 P))).map partsOf = (kT lu).map BK:=fun P=>by kernel_rfl
 have ls:(kT lu).isSome = true:=by kernel_rfl
 have no_imports:importsNone main.view_1_40 = true:=by kernel_rfl
 intro w s₀ s₁ mg mb G Y fa o pm cd doc dV kV ho hdat hcd hD hmg hg args vals as hpre hlay hrd hwl hlo
 have KX:=kIn_of Y
 refine Ground.open G ?_
 intro T B D TE TW
 clear Y ho hdat hcd hD B D TE TW
 replace hmg:mg (Str.ofString "law") = some (.ref fa):=hmg
 wrow_args hpre hlay hrd hwl hlo
 rename_i ns _ _ _ _ _ _ _ L us _ hL _ hW _ hI _ hlen _
 have hl:ns.length <= 63:=by omega
 obtain ⟨a,ha,hc⟩:=dh (lf w.params)
 obtain ⟨Df,hDf⟩:=Option.isSome_iff_exists.mp ls
 have le:=le w.params
 rw [ha,hDf] at le
 have hfa:fa = a:=by
  have:=mg_of KX T.g (xQ ha)
  rw [hmg] at this
  injection this with this
  injection this
 subst hfa
 have glo:=La (prog:=PySem.Challenge.rw_pb0489_01.row.prog) (w:=w) KX T.nolimit T.g T.b T.builtins (glo _)
 have hpl:s₁.heap.PlainList L us.toArray:=by
  cases hW with
  | list h1 h2=>
   obtain ⟨o',ho',_,n',hd'⟩:=hL
   rw [h1] at ho'
   cases ho'
   cases hd'
   exact ⟨_,h1⟩
 obtain ⟨mm,⟨so,_,_,hso,_⟩,_⟩:=(T.seer no_imports).mods
 refine IF _ glo s₁ rfl Df hDf fa L us ns (rQ (P:=jj _ w s₁.heap _) KX hc le) hpl hI hg ⟨so,hso⟩ (MM (n:=0) hl fun _=>rfl) _ _ fun s' hk hos hgs=>?_
 refine ⟨.inl ⟨.bool true,.bool true,[],rfl,fun cls=>?_,.bool true,?_,fun _=>⟨List.nodup_nil,fun a ha=>by cases ha⟩⟩,.of_keep hk,hos,.of_eq hgs⟩
 ·rfl
 ·first | with_unfolding_all rfl | kernel_rfl | wrow_post
end Mine
end
theorem PySem.Challenge.cw_pb0489_01_holds : PySem.Challenge.rw_pb0489_01.Holds := by
 exact Mine.main
