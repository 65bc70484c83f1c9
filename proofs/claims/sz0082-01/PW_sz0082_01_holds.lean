import PyProof.Rows.All
import Wide.All
import OpenK.AllK
import Wide.FinOn
import PyProof.TableCode
import PySem.Challenge.RW_sz0082_01
set_option Elab.async false
set_option linter.unusedVariables false
namespace Mine
inductive V where
 | undef
 | none
 | bool (b:Bool)
 | int (i:Int)
 | str (s:List Nat)
 | tup (l:List V)
 | list (l:List V)
 | dict (l:List (Int×V))
 | sdict (l:List (List Nat×V))
 | inst (c:Nat) (l:List V)
 | fn (f:Nat)
inductive O1 where
 | v (v:V)
 | list (l:List V)
inductive Own where
 | v (v:V)
 | list (l:List V)
 | dict (l:List (Int×V))
 | sdict (l:List (List Nat×V))
 | inst (c:Nat) (l:List O1)
noncomputable def O1.frz:O1→V
 | .v x=>x
 | .list l=>.list l
noncomputable def Own.frz:Own→V
 | .v x=>x
 | .list l=>.list l
 | .dict l=>.dict l
 | .sdict l=>.sdict l
 | .inst c l=>.inst c (l.map O1.frz)
noncomputable def V.ok:V→Option V
 | .undef=>Option.none
 | v=>some v
noncomputable abbrev Fr:=List Own
noncomputable def vBool:V→Option Bool
 | .bool b=>some b
 | _=>none
noncomputable def vInt:V→Option Int
 | .int i=>some i
 | _=>none
noncomputable def d2:V→Option (List V)
 | .list l=>some l
 | _=>none
noncomputable def vTup:V→Option (List V)
 | .tup l=>some l
 | _=>none
noncomputable def vSeq:V→Option (List V)
 | .list l=>some l
 | .tup l=>some l
 | _=>none
noncomputable def vDict:V→Option (List (Int×V))
 | .dict l=>some l
 | _=>none
noncomputable def vSDict:V→Option (List (List Nat×V))
 | .sdict l=>some l
 | _=>none
noncomputable def vInst:V→Option (Nat×List V)
 | .inst c l=>some (c,l)
 | _=>none
noncomputable def vFn:V→Option Nat
 | .fn f=>some f
 | _=>none
noncomputable def oV:Own→Option V
 | .v x=>some x
 | _=>none
noncomputable def oList:Own→Option (List V)
 | .list l=>some l
 | _=>none
noncomputable def oInst:Own→Option (Nat×List O1)
 | .inst c l=>some (c,l)
 | _=>none
noncomputable def o1List:O1→Option (List V)
 | .list l=>some l
 | _=>none
noncomputable def vStr:V→Option (List Nat)
 | .str s=>some s
 | _=>none
inductive Op where
 | add | sub | mul | mod | fdiv
inductive Cmp where
 | eq | ne | lt | le | gt | ge | isIn | notIn
inductive Prim where
 | sorted | sum | all | str | abs | isStr | list
inductive T where
 | var (i:Nat)
 | tup (ts:List T)
inductive P where
 | var (i:Nat)
 | at (i a:Nat)
mutual
inductive E where
 | stuck
 | const (v:V)
 | var (i:Nat)
 | bin (o:Op) (a b:E)
 | neg (a:E)
 | cmp (o:Cmp) (a b:E)
 | isNone (a:E)
 | notNone (a:E)
 | not (a:E)
 | and (es:List E)
 | or (es:List E)
 | ite (c a b:E)
 | tup (es:List E)
 | list (es:List E)
 | dict (s:Bool) (kvs:List (E×E))
 | call (f:Nat) (es:List E)
 | callv (i:Nat) (es:List E)
 | new (c:Nat) (es:List E)
 | meth (f i:Nat) (es:List E)
 | attr (e:E) (a:Nat)
 | sub (e k:E)
 | slice (e:E) (lo hi:Option E)
 | len (e:E)
 | prim (p:Prim) (e:E)
 | lrange (e:E)
 | comp (t:T) (it:It) (c:Option E) (elt:E)
 | app (p:P) (e:E)
 | ext (p:P) (e:E)
 | pop (p:P) (k:Option E)
inductive It where
 | val (e:E)
 | range (lo:Option E) (hi:E)
 | enum (e:E)
 | values (e:E)
end
inductive Tg where
 | t (t:T)
 | attr (i a:Nat)
 | sub (p:P) (k:E)
inductive S where
 | stuck
 | expr (e:E)
 | asg (t:Tg) (e:E)
 | asgT (is:List Nat) (es:List E)
 | iff (c:E) (a b:List S)
 | forr (t:T) (it:It) (b:List S)
 | whil (c:E) (b:List S)
 | ret (e:E)
 | cont
 | brk
inductive Fl where
 | next
 | cont
 | brk
 | ret (o:Own)
noncomputable def two{α β γ:Type}(x:Option α)(y:Option β)(f:α→β→Option γ):Option γ:=x.bind fun a=>y.bind fun b=>f a b
noncomputable def aP:List V→Option (List Int)
 | []=>some []
 | v::r=>(vInt v).bind fun i=>(aP r).bind fun l=>some (i::l)
noncomputable def eQ(l m:List V):Option Bool:=two (aP l) (aP m) fun x y=>some (x==y)
noncomputable def V.eqv(a b:V):Option Bool:=(two (vInt a) (vInt b) fun i j=>some (i==j)).or ((two (vStr a) (vStr b) fun i j=>some (i==j)).or ((two (vTup a) (vTup b) eQ).or
 (two (d2 a) (d2 b) fun l m=>if l.length==m.length then eQ l m else some false)))
noncomputable def V.mem(k c:V):Option Bool:=(two (vInt k) (vDict c) fun i l=>some (l.any fun p=>p.1==i)).or ((two (vStr k) (vSDict c) fun i l=>some (l.any fun p=>p.1==i)).or
 (two (vInt k) (vSeq c) fun i l=>(aP l).bind fun x=>some (x.contains i)))
noncomputable def aH(o:Cmp)(a b:V):Option Bool:=match o with
 | .eq=>a.eqv b
 | .ne=>(a.eqv b).bind fun r=>some !r
 | .lt=>two (vInt a) (vInt b) fun i j=>some (decide (i<j))
 | .le=>two (vInt a) (vInt b) fun i j=>some (decide (i≤j))
 | .gt=>two (vInt a) (vInt b) fun i j=>some (decide (j<i))
 | .ge=>two (vInt a) (vInt b) fun i j=>some (decide (j≤i))
 | .isIn=>a.mem b
 | .notIn=>(a.mem b).bind fun r=>some !r
noncomputable def rep(n:Nat)(l:List V):List V:=match n with
 | 0=>[]
 | n+1=>l++rep n l
noncomputable def cap:Nat:=100000
noncomputable def addL(l m:List V):Option Own:=if l.length+m.length≤cap then some (.list (l++m)) else none
noncomputable def addT(l m:List V):Option Own:=if l.length+m.length≤cap then some (.v (.tup (l++m))) else none
noncomputable def addS(l m:List Nat):Option Own:=if l.length+m.length≤cap then some (.v (.str (l++m))) else none
noncomputable def mulC(l:List V)(b:Int):Bool:=decide (0≤b)&&decide (b<cap)&&decide (l.length*b.toNat≤cap)&&!l.isEmpty
noncomputable def divC(b:Int):Bool:=decide (b≠0)&&decide (b.natAbs<1000000)
noncomputable def bH(o:Op)(a b:V):Option Own:=match o with
 | .add=>(two (vInt a) (vInt b) fun i j=>some (.v (.int (i+j)))).or ((two (d2 a) (d2 b) addL).or ((two (vTup a) (vTup b) addT).or (two (vStr a) (vStr b) addS)))
 | .sub=>two (vInt a) (vInt b) fun i j=>some (.v (.int (i - j)))
 | .mul=>(two (d2 a) (vInt b) fun l i=>if mulC l i then some (.list (rep i.toNat l)) else none).or (two (vTup a) (vInt b) fun l i=>if mulC l i then some (.v (.tup (rep i.toNat l))) else none)
 | .mod=>two (vInt a) (vInt b) fun i j=>if divC j then some (.v (.int (i.fmod j))) else none
 | .fdiv=>two (vInt a) (vInt b) fun i j=>if divC j then some (.v (.int (i.fdiv j))) else none
noncomputable def place(n:Nat)(i:Int):Option Nat:=
 if n≤cap then (if 0≤i then (if i<n then some i.toNat else Option.none)
 else if 0≤i+n then some (i+n).toNat else Option.none) else Option.none
noncomputable def db{K:Type} [BEq K] (l:List (K×V)) (k:K):Option V:=(l.find? fun p=>p.1==k).map (·.2)
noncomputable def dset{K:Type} [BEq K] (l:List (K×V)) (k:K) (v:V):List (K×V):=
 if l.any (fun p=>p.1==k) then l.map (fun p=>if p.1==k then (p.1,v) else p) else l++[(k,v)]
noncomputable def V.item(a k:V):Option V:=(two (vSeq a) (vInt k) fun l i=>(place l.length i).bind fun j=>l[j]?).or ((two (vDict a) (vInt k) db).or (two (vSDict a) (vStr k) db))
noncomputable def d6(n:Nat)(i:Int):Nat:=
 if i<0 then (i+n).toNat else if n<i then n else i.toNat
noncomputable def loC(n:Nat):Option Int→Nat
 | some i=>d6 n i
 | Option.none=>0
noncomputable def hiC(n:Nat):Option Int→Nat
 | some i=>d6 n i
 | Option.none=>n
noncomputable def cut{α:Type}(l:List α)(lo hi:Option Int):List α:=(l.take (hiC l.length hi)).drop (loC l.length lo)
noncomputable def dt:Option V→Option (Option Int)
 | Option.none=>some Option.none
 | some v=>(vInt v).bind fun i=>some (some i)
noncomputable def short{α β:Type}(l:List α)(r:β):Option β:=if l.length≤cap then some r else none
noncomputable def V.slice(a:V)(lo hi:Option Int):Option Own:=((d2 a).bind fun l=>short l (.list (cut l lo hi))).or ((vTup a).bind fun l=>short l (.v (.tup (cut l lo hi))))
noncomputable def V.len(a:V):Option Nat:=((vSeq a).bind fun l=>short l l.length).or ((vDict a).bind fun l=>short l l.length)
noncomputable def insert(x:Int):List Int→List Int
 | []=>[x]
 | y::r=>if x≤y then x::y::r else y::insert x r
noncomputable def eC:List Int→List Int
 | []=>[]
 | x::r=>insert x (eC r)
noncomputable def dk:List V→Option (List Bool)
 | []=>some []
 | v::r=>(vBool v).bind fun i=>(dk r).bind fun l=>some (i::l)
noncomputable def prim(p:Prim)(a:V):Option Own:=match p with
 | .sorted=>(d2 a).bind fun l=>if l.length<64 then (aP l).bind fun x=>some (.list ((eC x).map .int)) else none
 | .sum=>(d2 a).bind fun l=>if l.length≤cap then (aP l).bind fun x=>if x.all (fun i=>decide (0≤i∧i≤100000)) then some (.v (.int x.sum)) else none else none
 | .all=>(d2 a).bind fun l=>if l.length≤cap then (dk l).bind fun x=>some (.v (.bool (x.all id))) else none
 | .str=>(vInt a).bind fun i=>if 0≤i∧i<10 then some (.v (.str [48+i.toNat])) else none
 | .abs=>(vInt a).bind fun i=>some (.v (.int i.natAbs))
 | .list=>(d2 a).bind fun l=>if l.length≤cap then some (.list l) else none
 | .isStr=>((vStr a).bind fun _=>some (.v (.bool true))).or ((vTup a).bind fun _=>some (.v (.bool false)))
noncomputable def V.isNone:V→Option Bool
 | .undef=>Option.none
 | .none=>some true
 | _=>some false
noncomputable def b9(lo hi:Int):List V:=(List.range (hi - lo).toNat).map fun (i:Nat)=>.int (lo+(i:Int))
noncomputable def di(l:List V):List V:=l.zipIdx.map fun p=>.tup [.int (p.2:Int),p.1]
mutual
noncomputable def cj(lo:Nat):T→V→Fr→Option Fr
 | .var i,v,fr=>if lo≤i∧i<fr.length then some (fr.set i (.v v)) else Option.none
 | .tup ts,v,fr=>(vTup v).bind fun l=>bindTs lo ts l fr
noncomputable def bindTs(lo:Nat):List T→List V→Fr→Option Fr
 | [],[],fr=>some fr
 | t::ts,v::vs,fr=>(cj lo t v fr).bind fun fr=>bindTs lo ts vs fr
 | _,_,_=>Option.none
end
mutual
noncomputable def T.clear:T→Fr→Fr
 | .var i,fr=>fr.set i (.v .undef)
 | .tup ts,fr=>eW ts fr
noncomputable def eW:List T→Fr→Fr
 | [],fr=>fr
 | t::ts,fr=>eW ts (t.clear fr)
end
noncomputable def cp(lo hi:Int):Bool:=decide (-100000≤lo∧lo≤100000∧-100000≤hi∧hi≤100000)
inductive H where
 | val (v:V)
 | var (i:Nat)
noncomputable def H.get:H→Fr→Option V
 | .val v,_=>some v
 | .var i,fr=>fr[i]?.bind fun o=>o.frz.ok
noncomputable def attrOf(i a:Nat)(fr:Fr):Option V:=fr[i]?.bind fun o=>((oInst o).bind fun p=>p.2[a]?.bind fun o=>o.frz.ok).or ((oV o).bind fun x=>(vInst x).bind fun p=>p.2[a]?.bind V.ok)
noncomputable def aV(p:P)(fr:Fr):Option (List V):=match p with
 | .var i=>fr[i]?.bind oList
 | .at i a=>fr[i]?.bind fun o=>(oInst o).bind fun q=>q.2[a]?.bind o1List
noncomputable def bv:P→List V→Fr→Fr
 | .var i,l,fr=>fr.set i (.list l)
 | .at i a,l,fr=>match fr[i]? with
  | some (.inst c as)=>fr.set i (.inst c (as.set a (.list l)))
  | _=>fr
noncomputable def cA:E→Option Nat
 | .var i=>some i
 | _=>none
noncomputable def eAttr:E→Option (Nat×Nat)
 | .attr e a=>(cA e).map fun i=>(i,a)
 | _=>none
structure Rec where
 ev:E→Fr→Option (Own×Fr)
 ex:S→Fr→Option (Fl×Fr)
section
variable (R:Rec) (lo:Nat)
noncomputable def evV(e:E)(fr:Fr):Option (V×Fr):=(R.ev e fr).bind fun p=>some (p.1.frz,p.2)
noncomputable def evs:List E→Fr→Option (List V×Fr)
 | [],fr=>some ([],fr)
 | e::es,fr=>(evV R e fr).bind fun p=>(evs es p.2).bind fun q=>some (p.1::q.1,q.2)
noncomputable def evOs:List E→Fr→Option (List Own×Fr)
 | [],fr=>some ([],fr)
 | e::es,fr=>(R.ev e fr).bind fun p=>(evOs es p.2).bind fun q=>some (p.1::q.1,q.2)
noncomputable def evB(e:E)(fr:Fr):Option (Bool×Fr):=(evV R e fr).bind fun p=>(vBool p.1).bind fun b=>some (b,p.2)
noncomputable def evH(e:E)(fr:Fr):Option (H×Fr):=match cA e with
 | some i=>fr[i]?.bind fun o=>o.frz.ok.bind fun _=>some (.var i,fr)
 | none=>(evV R e fr).bind fun p=>some (.val p.1,p.2)
noncomputable def evA(e:E)(fr:Fr):Option (H×Fr):=match eAttr e with
 | some q=>(attrOf q.1 q.2 fr).bind fun x=>some (.val x,fr)
 | none=>evH R e fr
noncomputable def evOpt:Option E→Fr→Option (Option V×Fr)
 | Option.none,fr=>some (Option.none,fr)
 | some e,fr=>(evV R e fr).bind fun p=>some (some p.1,p.2)
noncomputable def evAnd:List E→Fr→Option (Bool×Fr)
 | [],fr=>some (true,fr)
 | e::es,fr=>(evB R e fr).bind fun p=>if p.1 then evAnd es p.2 else some (false,p.2)
noncomputable def evOr:List E→Fr→Option (Bool×Fr)
 | [],fr=>some (false,fr)
 | e::es,fr=>(evB R e fr).bind fun p=>if p.1 then some (true,p.2) else evOr es p.2
noncomputable def dh:List (E×E)→Fr→Option (List (V×V)×Fr)
 | [],fr=>some ([],fr)
 | (k,v)::r,fr=>(evV R k fr).bind fun p=>(evV R v p.2).bind fun q=>(dh r q.2).bind fun z=>some ((p.1,q.1)::z.1,z.2)
noncomputable def mkDict:List (V×V)→List (Int×V)→Option (List (Int×V))
 | [],d=>some d
 | p::r,d=>(vInt p.1).bind fun k=>mkDict r (dset d k p.2)
noncomputable def mkSDict:List (V×V)→List (List Nat×V)→Option (List (List Nat×V))
 | [],d=>some d
 | p::r,d=>(vStr p.1).bind fun k=>mkSDict r (dset d k p.2)
noncomputable def bZ:It→Fr→Option (List V×Fr)
 | .val e,fr=>(evV R e fr).bind fun p=>(vSeq p.1).bind fun l=>some (l,p.2)
 | .range Option.none hi,fr=>(evV R hi fr).bind fun p=>(vInt p.1).bind fun h=>if cp 0 h then some (b9 0 h,p.2) else Option.none
 | .range (some lo) hi,fr=>(evV R lo fr).bind fun p=>(evV R hi p.2).bind fun q=>(vInt p.1).bind fun l=>(vInt q.1).bind fun h=>if cp l h then some (b9 l h,q.2) else Option.none
 | .enum e,fr=>(evV R e fr).bind fun p=>(d2 p.1).bind fun l=>some (di l,p.2)
 | .values e,fr=>(evV R e fr).bind fun p=>(vDict p.1).bind fun l=>some (l.map (·.2),p.2)
noncomputable def evCond(c:Option E)(fr:Fr):Option (Bool×Fr):=match c with
 | Option.none=>some (true,fr)
 | some c=>evB R c fr
noncomputable def bt(t:T)(c:Option E)(elt:E):List V→List V→Fr→Option (List V×Fr)
 | [],acc,fr=>some (acc,fr)
 | x::xs,acc,fr=>(cj lo t x fr).bind fun fr=>
  (evCond R c fr).bind fun p=>
  if p.1 then (evV R elt p.2).bind fun q=>if acc.length<cap then bt t c elt xs (acc++[q.1]) q.2 else Option.none else bt t c elt xs acc p.2
variable (Φ:Nat→List Own→Option (Own×Own))
noncomputable def isInst(i:Nat)(fr:Fr):Option Unit:=fr[i]?.bind fun o=>((oInst o).bind fun p=>if p.1=0 then some () else none).or ((oV o).bind fun x=>(vInst x).bind fun p=>if p.1=0 then some () else none)
noncomputable def attrO(i a:Nat)(fr:Fr):Option (Own×Fr):=fr[i]?.bind fun o=>((oInst o).bind fun p=>p.2[a]?.bind fun o=>o.frz.ok.bind fun v=>some (.v v,fr.set i (.inst p.1 (p.2.set a (.v v))))).or ((oV o).bind fun x=>(vInst x).bind fun p=>p.2[a]?.bind fun v=>v.ok.bind fun v=>some (.v v,fr))
noncomputable def attrE(a:Nat)(p:V×Fr):Option (Own×Fr):=(vInst p.1).bind fun as=>as.2[a]?.bind fun v=>v.ok.bind fun v=>some (.v v,p.2)
noncomputable def isNoneO:Own→Bool
 | .v .none=>true
 | _=>false
noncomputable def initOf(c:Nat):Nat:=c
noncomputable def al:E→Fr→Option (Own×Fr)
 | .stuck,_=>Option.none
 | .const v,fr=>some (.v v,fr)
 | .var i,fr=>fr[i]?.bind fun o=>o.frz.ok.bind fun v=>some (.v v,fr.set i (.v v))
 | .bin o a b,fr=>(evV R a fr).bind fun p=>(evV R b p.2).bind fun q=>(bH o p.1 q.1).bind fun r=>some (r,q.2)
 | .neg a,fr=>(evV R a fr).bind fun p=>(vInt p.1).bind fun i=>some (.v (.int (-i)),p.2)
 | .cmp o a b,fr=>(evH R a fr).bind fun p=>(evH R b p.2).bind fun q=>(p.1.get q.2).bind fun x=>(q.1.get q.2).bind fun y=>
   (aH o x y).bind fun r=>some (.v (.bool r),q.2)
 | .isNone a,fr=>(evH R a fr).bind fun p=>(p.1.get p.2).bind fun x=>x.isNone.bind fun r=>some (.v (.bool r),p.2)
 | .notNone a,fr=>(evH R a fr).bind fun p=>(p.1.get p.2).bind fun x=>x.isNone.bind fun r=>some (.v (.bool (!r)),p.2)
 | .not a,fr=>(evB R a fr).bind fun p=>some (.v (.bool (!p.1)),p.2)
 | .and es,fr=>(evAnd R es fr).bind fun p=>some (.v (.bool p.1),p.2)
 | .or es,fr=>(evOr R es fr).bind fun p=>some (.v (.bool p.1),p.2)
 | .ite c a b,fr=>(evB R c fr).bind fun p=>if p.1 then R.ev a p.2 else R.ev b p.2
 | .tup es,fr=>if es.length≤cap then (evs R es fr).bind fun p=>some (.v (.tup p.1),p.2) else Option.none
 | .list es,fr=>if es.length≤cap then (evs R es fr).bind fun p=>some (.list p.1,p.2) else Option.none
 | .dict false kvs,fr=>(dh R kvs fr).bind fun p=>(mkDict p.1 []).bind fun d=>some (.dict d,p.2)
 | .dict true kvs,fr=>(dh R kvs fr).bind fun p=>(mkSDict p.1 []).bind fun d=>some (.sdict d,p.2)
 | .call f es,fr=>(evs R es fr).bind fun p=>(Φ f (p.1.map .v)).bind fun r=>some (r.1,p.2)
 | .callv i es,fr=>(fr[i]?.bind fun o=>(oV o).bind vFn).bind fun f=>(evs R es fr).bind fun p=>(Φ f (p.1.map .v)).bind fun r=>some (r.1,p.2)
 | .new c es,fr=>(evs R es fr).bind fun p=>(Φ (initOf c) (.inst c (List.replicate 17 (.v .undef))::p.1.map .v)).bind fun r=>if isNoneO r.1 then some (r.2,p.2) else Option.none
 | .meth f i es,fr=>(isInst i fr).bind fun _=>(evs R es fr).bind fun p=>p.2[i]?.bind fun o=>o.frz.ok.bind fun _=>(Φ f (o::p.1.map .v)).bind fun r=>some (r.1,p.2.set i r.2)
 | .attr e a,fr=>match cA e with
  | some i=>attrO i a fr
  | none=>(evV R e fr).bind (attrE a)
 | .sub e k,fr=>(evA R e fr).bind fun p=>(evV R k p.2).bind fun q=>(p.1.get q.2).bind fun x=>(x.item q.1).bind fun r=>r.ok.bind fun r=>some (.v r,q.2)
 | .slice e lo hi,fr=>(evH R e fr).bind fun p=>(evOpt R lo p.2).bind fun q=>(evOpt R hi q.2).bind fun r=>(p.1.get r.2).bind fun x=>
   (dt q.1).bind fun l=>(dt r.1).bind fun h=>(x.slice l h).bind fun o=>some (o,r.2)
 | .len e,fr=>(evA R e fr).bind fun p=>(p.1.get p.2).bind fun x=>x.len.bind fun n=>some (.v (.int n),p.2)
 | .prim q e,fr=>(evH R e fr).bind fun p=>(p.1.get p.2).bind fun x=>(prim q x).bind fun o=>some (o,p.2)
 | .lrange e,fr=>(evV R e fr).bind fun p=>(vInt p.1).bind fun n=>if cp 0 n then some (.list (b9 0 n),p.2) else Option.none
 | .comp t it c elt,fr=>(bZ R it fr).bind fun p=>(bt R lo t c elt p.1 [] (t.clear p.2)).bind fun q=>some (.list q.1,t.clear q.2)
 | .app q e,fr=>(aV q fr).bind fun _=>(evV R e fr).bind fun p=>(aV q p.2).bind fun l=>if l.length<cap then some (.v .none,bv q (l++[p.1]) p.2) else Option.none
 | .ext q e,fr=>(aV q fr).bind fun _=>(evV R e fr).bind fun p=>(aV q p.2).bind fun l=>(d2 p.1).bind fun m=>if l.length+m.length≤cap then some (.v .none,bv q (l++m) p.2) else Option.none
 | .pop q Option.none,fr=>(aV q fr).bind fun l=>if l.length≤cap then l.getLast?.bind fun x=>x.ok.bind fun x=>some (.v x,bv q l.dropLast fr) else Option.none
 | .pop q (some k),fr=>(aV q fr).bind fun _=>(evV R k fr).bind fun p=>(vInt p.1).bind fun i=>(aV q p.2).bind fun l=>(place l.length i).bind fun j=>l[j]?.bind fun x=>x.ok.bind fun x=>some (.v x,bv q (l.eraseIdx j) p.2)
noncomputable def exs:List S→Fr→Option (Fl×Fr)
 | [],fr=>some (.next,fr)
 | s::r,fr=>(R.ex s fr).bind fun p=>match p.1 with
  | .next=>exs r p.2
  | f=>some (f,p.2)
noncomputable def cF(t:T)(b:List S):List V→Fr→Option (Fl×Fr)
 | [],fr=>some (.next,fr)
 | x::xs,fr=>(cj lo t x fr).bind fun fr=>(exs R b fr).bind fun p=>match p.1 with
  | .next=>cF t b xs p.2
  | .cont=>cF t b xs p.2
  | .brk=>some (.next,p.2)
  | .ret o=>some (.ret o,p.2)
noncomputable def bL(c:E)(b:List S):Nat→Fr→Option (Fl×Fr)
 | 0,_=>Option.none
 | n+1,fr=>(evB R c fr).bind fun p=>if p.1 then (exs R b p.2).bind fun q=>(match q.1 with
   | .next=>bL c b n q.2
   | .cont=>bL c b n q.2
   | .brk=>some (.next,q.2)
   | .ret o=>some (.ret o,q.2)) else some (.next,p.2)
noncomputable def Own.toO1:Own→O1
 | .list l=>.list l
 | o=>.v o.frz
noncomputable def bX:List Nat→List Own→Fr→Option Fr
 | [],[],fr=>some fr
 | i::is,o::os,fr=>if lo≤i∧i<fr.length then bX is os (fr.set i o) else Option.none
 | _,_,_=>Option.none
noncomputable def oIsD:Own→Bool
 | .dict _=>true
 | .sdict _=>true
 | _=>false
noncomputable def isPl(p:P)(fr:Fr):Option Unit:=match p with
 | .var i=>fr[i]?.bind fun o=>if oIsD o then some () else none
 | .at i a=>(aV (.at i a) fr).map fun _=>()
noncomputable def asgD(i:Nat)(k v:V)(fr:Fr):Own→Option Fr
 | .dict l=>(vInt k).bind fun k=>if l.length≤cap then some (fr.set i (.dict (dset l k v))) else none
 | .sdict l=>(vStr k).bind fun k=>if l.length≤cap then some (fr.set i (.sdict (dset l k v))) else none
 | _=>none
noncomputable def asgP(p:P)(k:V)(v:V)(fr:Fr):Option Fr:=match p with
 | .var i=>fr[i]?.bind (asgD i k v fr)
 | .at i a=>(vInt k).bind fun k=>(aV (.at i a) fr).bind fun l=>if 0≤k∧k<l.length∧l.length≤cap then some (bv (.at i a) (l.set k.toNat v) fr) else none
noncomputable def aY(la W:Nat):S→Fr→Option (Fl×Fr)
 | .stuck,_=>Option.none
 | .expr e,fr=>(R.ev e fr).bind fun p=>some (.next,p.2)
 | .asg (.t (.var i)) e,fr=>(R.ev e fr).bind fun p=>if lo≤i∧i<p.2.length then some (.next,p.2.set i p.1) else Option.none
 | .asg (.t t) e,fr=>(evV R e fr).bind fun p=>(cj lo t p.1 p.2).bind fun fr=>some (.next,fr)
 | .asg (.attr i a) e,fr=>(R.ev e fr).bind fun p=>p.2[i]?.bind fun o=>(oInst o).bind fun q=>if la≤i∧a<q.2.length then some (.next,p.2.set i (.inst q.1 (q.2.set a p.1.toO1))) else Option.none
 | .asg (.sub q k) e,fr=>(evV R e fr).bind fun p=>(isPl q p.2).bind fun _=>(evV R k p.2).bind fun z=>(asgP q z.1 p.1 z.2).bind fun fr=>some (.next,fr)
 | .asgT is es,fr=>(evOs R es fr).bind fun p=>(bX lo is p.1 p.2).bind fun fr=>some (.next,fr)
 | .iff c a b,fr=>(evB R c fr).bind fun p=>exs R (if p.1 then a else b) p.2
 | .forr t it b,fr=>(bZ R it fr).bind fun p=>cF R lo t b p.1 p.2
 | .whil c b,fr=>bL R c b W fr
 | .ret e,fr=>match cA e with
  | some i=>fr[i]?.bind fun o=>o.frz.ok.bind fun _=>if la≤i then some (.ret o,fr.set i (.v .undef)) else Option.none
  | none=>(R.ev e fr).bind fun p=>some (.ret p.1,p.2)
 | .cont,fr=>some (.cont,fr)
 | .brk,fr=>some (.brk,fr)
end
noncomputable def sem(Φ:Nat→List Own→Option (Own×Own))(lo la W:Nat):Nat→Rec
 | 0=>⟨fun _ _=>Option.none,fun _ _=>Option.none⟩
 | n+1=>⟨al (sem Φ lo la W n) lo Φ,aY (sem Φ lo la W n) lo la W⟩
structure Fn where
 np:Nat
 ns:Nat
 lo:Nat
 body:List S
noncomputable def runFn(Φ:Nat→List Own→Option (Own×Own))(W D la:Nat)(fn:Fn)(args:List Own):Option (Own×Own):=
 if args.length==fn.np then
  (exs (sem Φ fn.lo la W D) fn.body (args++List.replicate (fn.ns - fn.np) (.v .undef))).bind fun p=>match p.1 with
   | .ret o=>some (o,if fn.lo==0 then .v .undef else p.2.getD 0 (.v .undef))
   | .next=>some (.v .none,if fn.lo==0 then .v .undef else p.2.getD 0 (.v .undef))
   | _=>Option.none
 else Option.none
noncomputable def callN(prog:Nat→Option Fn)(W D:Nat):Nat→Nat→List Own→Option (Own×Own)
 | 0,_,_=>Option.none
 | k+1,f,args=>(prog f).bind fun fn=>runFn (callN prog W D k) W D (if f<2 then 0 else 1) fn args
theorem and2{a b:Bool}(h:(a&&b)=true):a=true∧b=true:=Bool.and_eq_true_iff.mp h
theorem a9{a b:Bool}(h:(a&&b)=true):a=true:=(and2 h).1
theorem aa{a b:Bool}(h:(a&&b)=true):b=true:=(and2 h).2
theorem bE{α β:Type}{x:Option α}{f:α→Option β}{r:β}{G:Prop}(h:x.bind f=some r)(k:∀ a,x=some a→f a=some r→G):G:=by
 cases x with
 | none=>cases h
 | some a=>exact k a rfl h
theorem ifE{β:Type}{c:Prop} [Decidable c] {x:Option β} {r:β} {G:Prop} (h:(if c then x else none)=some r) (k:c→x=some r→G):G:=by
 by_cases hc:c
 ·rw[if_pos hc] at h;exact k hc h
 ·rw[if_neg hc] at h;cases h
theorem orE{α:Type}{x y:Option α}{r:α}{G:Prop}(h:x.or y=some r)(k:x=some r→G)(k2:y=some r→G):G:=by
 cases x with
 | none=>exact k2 h
 | some a=>exact k h
theorem noE{α:Type}{r:α}{G:Prop}(h:none=some r):G:=nomatch h
theorem bE2{α γ β:Type}{x:Option (α×γ)}{f:α×γ→Option β}{r:β}{G:Prop}(h:x.bind f=some r)(k:∀ a b,x=some (a,b)→f (a,b)=some r→G):G:=bE h fun p=>k p.1 p.2
theorem da{α β γ:Type}{x:Option α}{y:Option β}{f:α→β→Option γ}{r:γ}{G:Prop}(h:two x y f=some r)(k:∀ a b,x=some a→y=some b→f a b=some r→G):G:=bE h fun a h1 h=>bE h fun b h2 h=>k a b h1 h2 h
theorem shortE{α β:Type}{l:List α}{x r:β}{G:Prop}(h:short l x=some r)(k:l.length≤cap→x=r→G):G:=ifE h fun a b=>k a (Option.some.inj b)
theorem sp{α β:Type}{a c:α}{b d:β}{P:α→β→Prop}(h:some (a,b)=some (c,d))(k:P a b):P c d:=by cases h;exact k
theorem bk{α:Type}{a b:α}{P:α→Prop}(h:some a=some b)(k:P b):P a:=Option.some.inj h▸k
theorem exE{α:Type}{p:α→Prop}{G:Prop}(h:∃ a,p a)(k:∀ a,p a→G):G:=let ⟨a,b⟩:=h;k a b
theorem dy{α β:Type}{f:β→Option α}{g:α→β}(hh:∀ y,(f y).elim y g=y){y:β}{b:α}(h:f y=some b):y=g b:=by rw[← hh y,h];rfl
theorem vBool_ok{y:V}{b:Bool}(h:vBool y=some b):y=.bool b:=dy (fun y=>by cases y <;> rfl) h
theorem aB{y:V}{b:Int}(h:vInt y=some b):y=.int b:=dy (fun y=>by cases y <;> rfl) h
theorem bf{y:V}{b:List V}(h:d2 y=some b):y=.list b:=dy (fun y=>by cases y <;> rfl) h
theorem cU{y:V}{b:List V}(h:vTup y=some b):y=.tup b:=dy (fun y=>by cases y <;> rfl) h
theorem eJ{y:V}{b:List (Int×V)}(h:vDict y=some b):y=.dict b:=dy (fun y=>by cases y <;> rfl) h
theorem vSDict_ok{y:V}{b:List (List Nat×V)}(h:vSDict y=some b):y=.sdict b:=dy (fun y=>by cases y <;> rfl) h
theorem vSeq_ok{y:V}{b:List V}(h:vSeq y=some b):y=.list b∨y=.tup b:=by cases y <;> first | (cases h;done) | (cases h;first | exact .inl rfl | exact .inr rfl)
theorem vInst_ok{y:V}{b:Nat×List V}(h:vInst y=some b):y=.inst b.1 b.2:=dy (g:=fun b=>V.inst b.1 b.2) (fun y=>by cases y <;> rfl) h
theorem vFn_ok{y:V}{b:Nat}(h:vFn y=some b):y=.fn b:=dy (fun y=>by cases y <;> rfl) h
theorem cV{y:V}{b:List Nat}(h:vStr y=some b):y=.str b:=dy (fun y=>by cases y <;> rfl) h
theorem oV_ok{y:Own}{b:V}(h:oV y=some b):y=.v b:=dy (fun y=>by cases y <;> rfl) h
theorem oList_ok{y:Own}{b:List V}(h:oList y=some b):y=.list b:=dy (fun y=>by cases y <;> rfl) h
theorem eO{y:Own}{b:Nat×List O1}(h:oInst y=some b):y=.inst b.1 b.2:=dy (g:=fun b=>Own.inst b.1 b.2) (fun y=>by cases y <;> rfl) h
theorem o1List_ok{y:O1}{b:List V}(h:o1List y=some b):y=.list b:=dy (fun y=>by cases y <;> rfl) h
theorem c7{x y:V}(h:x.ok=some y):x=y∧y≠.undef:=by
 cases x <;> cases h <;> exact⟨rfl,fun e=>nomatch e⟩
theorem item_listE{l:List V}{i:Int}:V.item (.list l) (.int i)=(place l.length i).bind fun j=>l[j]?:=Option.or_none
theorem item_tupE{l:List V}{i:Int}:V.item (.tup l) (.int i)=(place l.length i).bind fun j=>l[j]?:=Option.or_none
theorem item_dictE{l:List (Int×V)}{i:Int}:V.item (.dict l) (.int i)=db l i:=Option.or_none
theorem eqv_tupE{l m:List V}:V.eqv (.tup l) (.tup m)=eQ l m:=Option.or_none
theorem slice_listE{l:List V}{a b:Option Int}:V.slice (.list l) a b=short l (.list (cut l a b)):=Option.or_none
theorem len_listE{l:List V}:V.len (.list l)=short l l.length:=Option.or_none
theorem len_tupE{l:List V}:V.len (.tup l)=short l l.length:=Option.or_none
theorem add_listE{l m:List V}:bH .add (.list l) (.list m)=addL l m:=Option.or_none
theorem add_tupE{l m:List V}:bH .add (.tup l) (.tup m)=addT l m:=Option.or_none
noncomputable def ct:V:=(.list [(.tup [.undef,.str [],.int 0,.int 1]),(.tup [.undef,.str [],.int 0,.int 1]),(.tup [.undef,.str [],.int 0,.int 1]),(.tup [.undef,.str [],.int 0,.int 1]),(.tup [.undef,.str [107],.int 0,.int 1]),(.tup [.undef,.str [],.int 0,.int 1]),(.tup [.undef,.str [],.int 1,.int 0]),(.tup [.undef,.str [],.int 1,.int 2]),(.tup [.undef,.str [],.int 2,.int 4]),(.tup [.undef,.str [],.int 2,.int 2]),(.tup [.undef,.str [],.int 3,.int 3]),(.tup [.undef,.str [108],.int 0,.int 1]),(.tup [.undef,.str [108],.int 1,.int 1]),(.tup [.undef,.str [99],.int 0,.int 1]),(.tup [.undef,.str [99],.int 1,.int 1]),(.tup [.undef,.str [117],.int 0,.int 1]),(.tup [.undef,.str [117],.int 1,.int 1]),(.tup [.undef,.str [99],.int 0,.int 0]),(.tup [.undef,.str [115],.int 0,.int 1]),(.tup [.undef,.str [115],.int 0,.int 1]),(.tup [.undef,.str [115],.int 1,.int 1]),(.tup [.undef,.str [115],.int 0,.int 0]),(.tup [.undef,.str [115],.int 1,.int 0]),(.tup [.undef,.str [115],.int 1,.int 1]),(.tup [.undef,.str [115],.int 2,.int 1]),(.tup [.undef,.str [],.int 2,.int 1]),(.tup [.undef,.str [],.int 3,.int 1]),(.tup [.undef,.str [115],.int 1,.int 1]),(.tup [.undef,.str [],.int 2,.int 1]),(.tup [.undef,.str [115],.int 0,.int 1]),(.tup [.undef,.str [],.int 2,.int 1]),(.tup [.undef,.str [],.int 2,.int 1]),(.tup [.undef,.str [],.int 2,.int 1]),(.tup [.undef,.str [],.int 2,.int 1]),(.tup [.undef,.str [],.int 2,.int 1]),(.tup [.undef,.str [],.int 2,.int 1]),(.tup [.undef,.str [],.int 2,.int 1]),(.tup [.undef,.str [],.int 2,.int 1]),(.tup [.undef,.str [],.int 2,.int 1]),(.tup [.undef,.str [],.int 2,.int 1]),(.tup [.undef,.str [],.int 2,.int 1]),(.tup [.undef,.str [],.int 2,.int 1]),(.tup [.undef,.str [],.int 2,.int 1]),(.tup [.undef,.str [],.int 2,.int 1]),(.tup [.undef,.str [],.int 2,.int 1]),(.tup [.undef,.str [],.int 2,.int 1]),(.tup [.undef,.str [],.int 2,.int 1]),(.tup [.undef,.str [],.int 2,.int 1]),(.tup [.undef,.str [],.int 2,.int 1]),(.tup [.undef,.str [],.int 2,.int 1]),(.tup [.undef,.str [],.int 2,.int 1]),(.tup [.undef,.str [],.int 1,.int 1]),(.tup [.undef,.str [],.int 1,.int 1]),(.tup [.undef,.str [],.int 1,.int 1]),(.tup [.undef,.str [],.int 1,.int 1]),(.tup [.undef,.str [],.int 1,.int 1]),(.tup [.undef,.str [],.int 1,.int 1]),(.tup [.undef,.str [],.int 1,.int 1]),(.tup [.undef,.str [116],.int 0,.int 0]),(.tup [.undef,.str [116],.int 1,.int 0]),(.tup [.undef,.str [116],.int 1,.int 0]),(.tup [.undef,.str [116],.int 1,.int 0]),(.tup [.undef,.str [116],.int 1,.int 0]),(.tup [.undef,.str [110],.int 2,.int 1]),(.tup [.undef,.str [110],.int 1,.int 1]),(.tup [.undef,.str [],.int 1,.int 0]),(.tup [.undef,.str [],.int 1,.int 0]),(.tup [.undef,.str [102],.int 0,.int 1]),(.tup [.undef,.str [],.int 0,.int 1]),(.tup [.undef,.str [110],.int 0,.int 1]),(.tup [.undef,.str [],.int 0,.int 1]),(.tup [.undef,.str [115],.int 2,.int 1]),(.tup [.undef,.str [115],.int 2,.int 1]),(.tup [.undef,.str [115],.int 2,.int 1]),(.tup [.undef,.str [115],.int 1,.int 2]),(.tup [.undef,.str [],.int 2,.int 2]),(.tup [.undef,.str [],.int 1,.int 1]),(.tup [.undef,.str [116],.int 1,.int 2]),(.tup [.undef,.str [116],.int 0,.int 0]),(.tup [.undef,.str [],.int 2,.int 0]),(.tup [.undef,.str [],.int 1,.int 1]),(.tup [.undef,.str [],.int 2,.int 2]),(.tup [.undef,.str [],.int 4,.int 4]),(.tup [.undef,.str [115],.int 1,.int 0]),(.tup [.undef,.str [],.int 2,.int 1])])
noncomputable def k_LAST_OPS:V:=(.list [.int 58,.int 65,.int 66,.int 79,.int 83])
noncomputable def k_QUIET_OPS:V:=(.list [.int 0,.int 1,.int 2,.int 3,.int 4,.int 5,.int 6,.int 7,.int 8,.int 9,.int 10,.int 82,.int 11,.int 12,.int 13,.int 14,.int 15,.int 16,.int 17,.int 43,.int 44,.int 53,.int 55,.int 58,.int 59,.int 60,.int 61,.int 62,.int 65,.int 67,.int 68,.int 69,.int 70,.int 78])
noncomputable def gb:V:=(.dict [(61,(.int 59)),(62,(.int 60))])
noncomputable def f_Code_init:Fn:=⟨4,4,1,[.asg (.attr 0 0) (.var 1),
  .asg (.attr 0 1) (.var 2),
  .asg (.attr 0 2) (.var 3),
  .asg (.attr 0 3) (.list []),
  .asg (.attr 0 4) (.list []),
  .asg (.attr 0 5) (.const (.int 0)),
  .asg (.attr 0 6) (.list []),
  .asg (.attr 0 7) (.list []),
  .asg (.attr 0 8) (.list []),
  .asg (.attr 0 9) (.list []),
  .asg (.attr 0 10) (.const (.int 0)),
  .asg (.attr 0 11) (.const (.int 0)),
  .asg (.attr 0 12) (.list []),
  .asg (.attr 0 13) (.const (.bool false)),
  .asg (.attr 0 14) (.const .none),
  .asg (.attr 0 15) (.const .none),
  .asg (.attr 0 16) (.list [])]⟩
noncomputable def f_Unit_init:Fn:=⟨3,3,1,[.asg (.attr 0 0) (.var 1),
  .asg (.attr 0 1) (.var 2),
  .asg (.attr 0 3) (.list []),
  .asg (.attr 0 6) (.list []),
  .asg (.attr 0 7) (.list []),
  .asg (.attr 0 9) (.list []),
  .asg (.attr 0 4) (.list []),
  .asg (.attr 0 10) (.const (.int 0)),
  .asg (.attr 0 11) (.const (.int 0)),
  .asg (.attr 0 12) (.list []),
  .asg (.attr 0 2) (.const (.bool false)),
  .asg (.attr 0 13) (.const (.bool false)),
  .asg (.attr 0 14) (.const .none),
  .asg (.attr 0 15) (.const .none),
  .asg (.attr 0 16) (.list [])]⟩
noncomputable def f_arg_kind:Fn:=⟨1,1,0,[.ret (.sub (.sub (.const ct) (.var 0)) (.const (.int 1)))]⟩
noncomputable def f_taken_count:Fn:=⟨2,2,0,[.ret (.bin .add (.sub (.sub (.const ct) (.var 0)) (.const (.int 2))) (.ite (.cmp .eq (.sub (.sub (.const ct) (.var 0)) (.const (.int 1))) (.const (.str [110]))) (.var 1) (.const (.int 0))))]⟩
noncomputable def f_put_count:Fn:=⟨1,1,0,[.ret (.sub (.sub (.const ct) (.var 0)) (.const (.int 3)))]⟩
noncomputable def f_is_last:Fn:=⟨1,1,0,[.ret (.cmp .isIn (.var 0) (.const k_LAST_OPS))]⟩
noncomputable def f_Code_here:Fn:=⟨1,1,1,[.ret (.len (.attr (.var 0) 3))]⟩
noncomputable def f_Code_emit:Fn:=⟨3,3,1,[.expr (.app (.at 0 3) (.tup [.var 1,.var 2])),
  .expr (.app (.at 0 4) (.attr (.var 0) 5)),
  .ret (.bin .sub (.len (.attr (.var 0) 3)) (.const (.int 1)))]⟩
noncomputable def f_Code_label:Fn:=⟨1,1,1,[.expr (.app (.at 0 8) (.neg (.const (.int 1)))),
  .ret (.bin .sub (.len (.attr (.var 0) 8)) (.const (.int 1)))]⟩
noncomputable def f_Code_place:Fn:=⟨2,2,1,[.iff (.cmp .ge (.sub (.attr (.var 0) 8) (.var 1)) (.const (.int 0))) [.stuck] [],
  .asg (.sub (.at 0 8) (.var 1)) (.meth 6 0 [])]⟩
noncomputable def f_Code_jump:Fn:=⟨3,3,1,[.ret (.meth 7 0 [.var 1,.var 2])]⟩
noncomputable def f_Code_place_of:Fn:=⟨3,3,1,[.iff (.cmp .lt (.sub (.attr (.var 0) 8) (.var 1)) (.const (.int 0))) [.stuck] [],
  .ret (.sub (.attr (.var 0) 8) (.var 1))]⟩
noncomputable def f_Code_placed_code:Fn:=⟨1,5,1,[.asg (.t (.var 1)) (.list []),
  .forr (.tup [.var 2,.tup [.var 3,.var 4]]) (.enum (.attr (.var 0) 3)) [.expr (.app (.var 1) (.ite (.cmp .eq (.call 2 [.var 3]) (.const (.str [116]))) (.tup [.var 3,(.meth 11 0 [.var 4,.var 2])]) (.tup [.var 3,.var 4])))],
  .ret (.var 1)]⟩
noncomputable def eu:Fn:=⟨1,9,1,[.asg (.t (.var 1)) (.list []),
  .forr (.tup [.var 2,.var 3,.var 4,.var 5,.var 6]) (.val (.attr (.var 0) 9)) [.asgT [7,8] [(.meth 11 0 [.var 2,(.neg (.const (.int 1)))]),(.meth 11 0 [.var 3,(.neg (.const (.int 1)))])],
  .iff (.cmp .lt (.var 7) (.var 8)) [.expr (.app (.var 1) (.tup [.var 7,.var 8,(.meth 11 0 [.var 4,(.neg (.const (.int 1)))]),.var 5,.var 6]))] []],
  .ret (.var 1)]⟩
noncomputable def f_Code_unit:Fn:=⟨1,2,1,[.asg (.t (.var 1)) (.new 1 [(.attr (.var 0) 0),(.attr (.var 0) 1)]),
  .asg (.attr 1 3) (.meth 12 0 []),
  .asg (.attr 1 9) (.meth 13 0 []),
  .asg (.attr 1 4) (.prim .list (.attr (.var 0) 4)),
  .asg (.attr 1 6) (.prim .list (.attr (.var 0) 6)),
  .asg (.attr 1 7) (.prim .list (.attr (.var 0) 7)),
  .asg (.attr 1 10) (.attr (.var 0) 10),
  .asg (.attr 1 11) (.attr (.var 0) 11),
  .asg (.attr 1 12) (.attr (.var 0) 12),
  .asg (.attr 1 2) (.attr (.var 0) 2),
  .asg (.attr 1 13) (.attr (.var 0) 13),
  .asg (.attr 1 14) (.attr (.var 0) 14),
  .asg (.attr 1 15) (.attr (.var 0) 15),
  .asg (.attr 1 16) (.attr (.var 0) 16),
  .ret (.var 1)]⟩
noncomputable def f_assemble:Fn:=⟨2,7,0,[.asgT [2,3] [(.new 0 [.var 0,.list [],(.const (.bool false))]),(.dict true [])],
  .forr (.var 4) (.val (.var 1)) [.asg (.t (.var 5)) (.ite (.prim .isStr (.var 4)) (.var 4) (.sub (.var 4) (.const (.int 1)))),
  .asg (.t (.var 6)) (.or [(.prim .isStr (.var 4)),(.cmp .eq (.call 2 [(.sub (.var 4) (.const (.int 0)))]) (.const (.str [116])))]),
  .iff (.and [.var 6,(.cmp .notIn (.var 5) (.var 3))]) [.asg (.sub (.var 3) (.var 5)) (.meth 8 2 [])] [],
  .iff (.prim .isStr (.var 4)) [.expr (.meth 9 2 [(.sub (.var 3) (.var 4))])] [.iff (.var 6) [.expr (.meth 10 2 [(.sub (.var 4) (.const (.int 0))),(.sub (.var 3) (.var 5))])] [.expr (.meth 7 2 [(.sub (.var 4) (.const (.int 0))),(.sub (.var 4) (.const (.int 1)))])]]],
  .ret (.meth 14 2 [])]⟩
noncomputable def f_copy_head:Fn:=⟨1,2,0,[.asg (.t (.var 1)) (.new 1 [(.attr (.var 0) 0),(.prim .list (.attr (.var 0) 1))]),
  .asg (.attr 1 6) (.prim .list (.attr (.var 0) 6)),
  .asg (.attr 1 7) (.prim .list (.attr (.var 0) 7)),
  .asg (.attr 1 10) (.attr (.var 0) 10),
  .asg (.attr 1 11) (.attr (.var 0) 11),
  .asg (.attr 1 12) (.prim .list (.attr (.var 0) 12)),
  .asg (.attr 1 2) (.attr (.var 0) 2),
  .asg (.attr 1 13) (.attr (.var 0) 13),
  .asg (.attr 1 14) (.attr (.var 0) 14),
  .asg (.attr 1 15) (.attr (.var 0) 15),
  .asg (.attr 1 16) (.prim .list (.attr (.var 0) 16)),
  .ret (.var 1)]⟩
noncomputable def f_line_at:Fn:=⟨2,2,0,[.ret (.ite (.cmp .lt (.var 1) (.len (.attr (.var 0) 4))) (.sub (.attr (.var 0) 4) (.var 1)) (.const (.int 0)))]⟩
noncomputable def f_rebuilt:Fn:=⟨4,13,0,[.asg (.t (.var 4)) (.call 16 [.var 0]),
  .forr (.tup [.var 5,.var 6,.var 7]) (.val (.var 1)) [.expr (.app (.at 4 3) (.ite (.cmp .eq (.call 2 [.var 5]) (.const (.str [116]))) (.tup [.var 5,(.sub (.var 2) (.var 6))]) (.tup [.var 5,.var 6]))),
  .iff (.cmp .ne (.attr (.var 0) 4) (.list [])) [.expr (.app (.at 4 4) (.var 7))] []],
  .forr (.tup [.var 8,.var 9,.var 10,.var 11,.var 12]) (.val (.var 3)) [.iff (.cmp .lt (.sub (.var 2) (.var 8)) (.sub (.var 2) (.var 9))) [.expr (.app (.at 4 9) (.tup [(.sub (.var 2) (.var 8)),(.sub (.var 2) (.var 9)),(.sub (.var 2) (.var 10)),.var 11,.var 12]))] []],
  .ret (.var 4)]⟩
noncomputable def f_with_code:Fn:=⟨2,3,0,[.asg (.t (.var 2)) (.call 16 [.var 0]),
  .asg (.attr 2 3) (.var 1),
  .asg (.attr 2 4) (.prim .list (.attr (.var 0) 4)),
  .asg (.attr 2 9) (.prim .list (.attr (.var 0) 9)),
  .ret (.var 2)]⟩
noncomputable def f_for_all:Fn:=⟨2,4,0,[.asg (.t (.var 2)) (.callv 1 [.var 0]),
  .asg (.attr 2 7) (.comp (.var 3) (.val (.attr (.var 2) 7)) none (.call 20 [.var 3,.var 1])),
  .ret (.var 2)]⟩
noncomputable def f_later_places:Fn:=⟨2,10,0,[.asg (.t (.tup [.var 2,.var 3])) (.sub (.attr (.var 0) 3) (.var 1)),
  .asg (.t (.var 4)) (.ite (.call 5 [.var 2]) (.list []) (.list [(.bin .add (.var 1) (.const (.int 1)))])),
  .iff (.cmp .eq (.call 2 [.var 2]) (.const (.str [116]))) [.expr (.app (.var 4) (.var 3))] [],
  .forr (.tup [.var 5,.var 6,.var 7,.var 8,.var 9]) (.val (.attr (.var 0) 9)) [.iff .stuck [.expr (.app (.var 4) (.var 7)),
  .brk] []],
  .ret (.var 4)]⟩
noncomputable def f_live_places:Fn:=⟨1,4,0,[.asgT [1,2] [(.dict false [((.const (.int 0)),(.const (.bool true)))]),(.list [(.const (.int 0))])],
  .whil (.cmp .gt (.len (.var 2)) (.const (.int 0))) [.forr (.var 3) (.val (.call 21 [.var 0,(.pop (.var 2) none)])) [.iff (.and [(.cmp .lt (.var 3) (.len (.attr (.var 0) 3))),(.cmp .notIn (.var 3) (.var 1))]) [.asg (.sub (.var 1) (.var 3)) (.const (.bool true)),
  .expr (.app (.var 2) (.var 3))] []]],
  .ret (.var 1)]⟩
noncomputable def f_is_idle:Fn:=⟨3,6,0,[.asg (.t (.tup [.var 3,.var 4])) (.sub (.attr (.var 0) 3) (.var 2)),
  .iff (.or [(.cmp .ne (.var 3) (.const (.int 58))),(.cmp .le (.var 4) (.var 2))]) [.ret (.const (.bool false))] [],
  .ret (.prim .all (.comp (.var 5) (.range (some (.bin .add (.var 2) (.const (.int 1)))) (.var 4)) none (.cmp .notIn (.var 5) (.var 1))))]⟩
noncomputable def f_clean_once:Fn:=⟨1,8,0,[.asgT [1,2,3] [(.call 22 [.var 0]),.list [],.list []],
  .forr (.tup [.var 4,.tup [.var 5,.var 6]]) (.enum (.attr (.var 0) 3)) [.expr (.app (.var 3) (.len (.var 2))),
  .iff (.and [(.cmp .isIn (.var 4) (.var 1)),(.not (.call 23 [.var 0,.var 1,.var 4]))]) [.expr (.app (.var 2) (.tup [.var 5,.var 6,(.call 17 [.var 0,.var 4])]))] []],
  .expr (.app (.var 3) (.len (.var 2))),
  .ret (.call 18 [.var 0,.var 2,.var 3,(.comp (.var 7) (.val (.attr (.var 0) 9)) (some (.cmp .isIn (.sub (.var 7) (.const (.int 2))) (.var 1))) (.var 7))])]⟩
noncomputable def f_clean_one:Fn:=⟨1,2,0,[.asg (.t (.var 1)) (.call 24 [.var 0]),
  .whil (.cmp .lt (.len (.attr (.var 1) 3)) (.len (.attr (.var 0) 3))) [.asg (.t (.var 0)) (.var 1),
  .asg (.t (.var 1)) (.call 24 [.var 0])],
  .ret (.var 1)]⟩
noncomputable def eh:Fn:=⟨1,1,0,[.ret (.call 20 [.var 0,(.const (.fn 25))])]⟩
noncomputable def f_handler_at:Fn:=⟨2,3,0,[.forr (.var 2) (.val (.var 0)) [.iff .stuck [.ret (.var 2)] []],
  .ret (.const .none)]⟩
noncomputable def f_ways_thrown:Fn:=⟨3,6,0,[.asg (.t (.var 3)) (.call 27 [(.attr (.var 0) 9),.var 1]),
  .asg (.t (.tup [.var 4,.var 5])) (.sub (.attr (.var 0) 3) (.var 1)),
  .iff (.or [(.isNone (.var 3)),(.cmp .isIn (.var 4) (.const k_QUIET_OPS))]) [.ret (.list [])] [],
  .iff (.cmp .lt (.bin .sub (.len (.var 2)) (.call 3 [.var 4,.var 5])) (.sub (.var 3) (.const (.int 3)))) [.stuck] [],
  .ret (.list [(.tup [(.sub (.var 3) (.const (.int 2))),.stuck])])]⟩
noncomputable def f_need_values:Fn:=⟨3,4,0,[.forr (.var 3) (.val (.var 0)) [.iff (.and [(.cmp .ne (.var 3) (.const (.int (-1)))),(.not (.and [.var 2,(.cmp .eq (.var 3) (.const (.int (-3))))]))]) [.stuck] []]]⟩
noncomputable def f_made_by:Fn:=⟨2,2,0,[.iff (.cmp .eq (.var 0) (.const (.int 70))) [.ret (.tup [(.const (.int (-3)))])] [],
  .iff (.cmp .eq (.var 0) (.const (.int 76))) [.ret (.tup [(.const (.int (-2)))])] [],
  .ret (.bin .mul (.tup [(.const (.int (-1)))]) (.var 1))]⟩
noncomputable def f_ways_on:Fn:=⟨3,10,0,[.asg (.t (.tup [.var 3,.var 4])) (.sub (.attr (.var 0) 3) (.var 1)),
  .asg (.t (.var 5)) (.call 3 [.var 3,.var 4]),
  .iff (.cmp .lt (.len (.var 2)) (.var 5)) [.stuck] [],
  .asgT [6,7] [(.slice (.var 2) (some (.bin .sub (.len (.var 2)) (.var 5))) none),(.slice (.var 2) none (some (.bin .sub (.len (.var 2)) (.var 5))))],
  .iff (.cmp .eq (.var 3) (.const (.int 78))) [.ret (.list [(.tup [.var 4,(.bin .add (.var 2) (.tup [(.const (.int (-1))),.var 4]))]),(.tup [(.bin .add (.var 1) (.const (.int 1))),.var 2])])] [],
  .iff (.cmp .eq (.var 3) (.const (.int 79))) [.ret .stuck] [],
  .iff (.cmp .eq (.var 3) (.const (.int 77))) [.iff (.cmp .ne (.sub (.var 6) (.const (.int 0))) (.const (.int (-2)))) [.stuck] [],
  .ret (.list [.tup [.var 4,.var 2],(.tup [(.bin .add (.var 1) (.const (.int 1))),(.bin .add (.var 2) (.tup [(.const (.int (-1)))]))])])] [],
  .iff (.cmp .ne (.var 3) (.const (.int 6))) [.expr (.call 29 [.var 6,.var 1,(.cmp .eq (.var 3) (.const (.int 69)))])] [],
  .asg (.t (.var 8)) (.bin .add (.var 7) (.call 30 [.var 3,(.call 4 [.var 3])])),
  .asg (.t (.var 9)) (.ite (.call 5 [.var 3]) (.list []) (.list [(.tup [(.bin .add (.var 1) (.const (.int 1))),.var 8])])),
  .iff (.cmp .eq (.call 2 [.var 3]) (.const (.str [116]))) [.expr (.app (.var 9) (.tup [.var 4,(.ite (.cmp .isIn (.var 3) (.tup [(.const (.int 61)),(.const (.int 62))])) (.var 2) (.var 8))]))] [],
  .ret (.var 9)]⟩
noncomputable def f_stacks_of:Fn:=⟨1,8,0,[.asgT [1,2] [(.dict false [((.const (.int 0)),(.tup []))]),(.list [(.const (.int 0))])],
  .whil (.cmp .gt (.len (.var 2)) (.const (.int 0))) [.asg (.t (.var 3)) (.pop (.var 2) none),
  .asg (.t (.var 4)) (.sub (.var 1) (.var 3)),
  .asg (.t (.var 5)) (.bin .add (.call 31 [.var 0,.var 3,.var 4]) (.call 28 [.var 0,.var 3,.var 4])),
  .forr (.tup [.var 6,.var 7]) (.val (.var 5)) [.iff (.cmp .ge (.var 6) (.len (.attr (.var 0) 3))) [.stuck] [],
  .iff (.cmp .notIn (.var 6) (.var 1)) [.asg (.sub (.var 1) (.var 6)) (.var 7),
  .expr (.app (.var 2) (.var 6))] [.iff (.cmp .ne (.sub (.var 1) (.var 6)) (.var 7)) [.stuck] []]]],
  .ret (.var 1)]⟩
noncomputable def f_end_of:Fn:=⟨2,3,0,[.asg (.t (.var 2)) (.dict false []),
  .whil (.and [(.cmp .lt (.var 1) (.len (.var 0))),(.cmp .eq (.sub (.sub (.var 0) (.var 1)) (.const (.int 0))) (.const (.int 58))),(.cmp .notIn (.var 1) (.var 2))]) [.asg (.sub (.var 2) (.var 1)) (.const (.bool true)),
  .asg (.t (.var 1)) (.sub (.sub (.var 0) (.var 1)) (.const (.int 1)))],
  .ret (.var 1)]⟩
noncomputable def f_threaded:Fn:=⟨3,6,0,[.asgT [3,4] [(.call 33 [.var 0,.var 2]),(.dict false [])],
  .whil (.and [(.cmp .isIn (.var 1) (.const gb)),(.cmp .notIn (.var 3) (.var 4))]) [.asg (.sub (.var 4) (.var 3)) (.const (.bool true)),
  .asg (.t (.var 5)) .stuck,
  .iff (.isNone (.var 5)) [.brk] [],
  .asgT [1,3] [(.sub (.var 5) (.const (.int 0))),(.call 33 [.var 0,(.sub (.var 5) (.const (.int 1)))])]],
  .ret (.tup [.var 1,.var 3])]⟩
noncomputable def f_thread_one:Fn:=⟨1,4,0,[.asg (.t (.var 1)) (.list []),
  .forr (.tup [.var 2,.var 3]) (.val (.attr (.var 0) 3)) [.iff (.or [(.cmp .ne (.call 2 [.var 2]) (.const (.str [116]))),(.cmp .eq (.var 2) (.const (.int 78)))]) [.expr (.app (.var 1) (.tup [.var 2,.var 3]))] [.iff (.cmp .eq (.var 2) (.const (.int 77))) [.expr (.app (.var 1) (.tup [.var 2,(.call 33 [(.attr (.var 0) 3),.var 3])]))] [.expr (.app (.var 1) (.call 34 [(.attr (.var 0) 3),.var 2,.var 3]))]]],
  .ret (.call 19 [.var 0,.var 1])]⟩
noncomputable def dv:Fn:=⟨1,1,0,[.ret (.call 20 [.var 0,(.const (.fn 35))])]⟩
noncomputable def f_law_grown:Fn:=⟨0,0,0,[.ret (.dict false [((.const (.int 5)),(.const (.int 1))),((.const (.int 1)),(.const (.int 1))),((.const (.int 0)),(.const (.int 1))),((.const (.int 2)),(.const (.int 1))),((.const (.int 3)),(.const (.int 1))),((.const (.int 7)),(.const (.int 1))),((.const (.int 53)),(.const (.int 0))),((.const (.int 6)),(.neg (.const (.int 1)))),((.const (.int 59)),(.neg (.const (.int 1)))),((.const (.int 60)),(.neg (.const (.int 1)))),((.const (.int 65)),(.neg (.const (.int 1))))])]⟩
noncomputable def f_law_blocks:Fn:=⟨1,9,0,[.asgT [1,2] [.list [],(.len (.var 0))],
  .forr (.tup [.var 3,.var 4]) (.enum (.var 0)) [.asgT [5,6,7] [(.bin .mod (.var 4) (.const (.int 4))),(.bin .mod (.bin .fdiv (.var 4) (.const (.int 4))) (.var 2)),(.bin .mod (.bin .fdiv (.var 4) (.const (.int 20))) (.var 2))],
  .asg (.t (.var 8)) (.bin .add (.list [(.sub (.list [(.const (.int 1)),(.const (.int 0)),(.const (.int 2)),(.const (.int 3))]) (.var 3)),(.const (.int 6))]) (.bin .mul (.list [(.const (.int 53))]) (.bin .mod (.bin .fdiv (.var 4) (.const (.int 100))) (.const (.int 3))))),
  .asg (.t (.var 8)) (.bin .add (.var 8) (.sub (.list [(.list [(.const (.int 65))]),.list [],(.list [(.const (.int 7)),(.const (.int 59))]),(.list [(.const (.int 7)),(.const (.int 60))])]) (.var 5))),
  .expr (.app (.var 1) (.tup [.var 8,(.sub (.list [.list [],.list [.var 6],.list [.var 6,.var 7],.list [.var 6,.var 7]]) (.var 5))]))],
  .ret (.var 1)]⟩
noncomputable def f_law_ways:Fn:=⟨1,11,0,[.asg (.t (.var 1)) (.comp (.var 7) (.range none (.len (.var 0))) none (.bin .add (.const (.int 1)) (.prim .sum (.comp (.tup [.var 8,.var 9]) (.val (.slice (.var 0) none (some (.var 7)))) none (.len (.var 8)))))),
  .asg (.t (.var 2)) (.list [(.tup [(.const (.int 5)),(.list [(.sub (.var 1) (.const (.int 0)))])])]),
  .forr (.tup [.var 3,.var 4]) (.val (.var 0)) [.forr (.var 5) (.val (.slice (.var 3) none (some (.neg (.const (.int 1)))))) [.asg (.t (.var 6)) (.bin .add (.len (.var 2)) (.const (.int 1))),
  .expr (.app (.var 2) (.tup [.var 5,.list [.var 6]]))],
  .expr (.app (.var 2) (.tup [(.sub (.var 3) (.neg (.const (.int 1)))),(.comp (.var 10) (.val (.var 4)) none (.sub (.var 1) (.var 10)))]))],
  .ret (.var 2)]⟩
noncomputable def f_law_order:Fn:=⟨2,5,0,[.asgT [2,3] [.list [],(.lrange (.var 1))],
  .whil (.cmp .ne (.var 3) (.list [])) [.asg (.t (.var 4)) (.len (.var 3)),
  .expr (.app (.var 2) (.pop (.var 3) (some (.bin .mod (.var 0) (.var 4))))),
  .asg (.t (.var 0)) (.bin .fdiv (.var 0) (.var 4))],
  .ret (.var 2)]⟩
noncomputable def f_law_put:Fn:=⟨3,9,0,[.asgT [3,4] [(.list [(.tup [(.const (.int 5)),.const .none])]),(.const (.int 0))],
  .forr (.var 5) (.val (.var 1)) [.iff (.and [(.notNone (.var 4)),(.not (.and [.var 2,(.cmp .eq (.var 4) (.var 5))]))]) [.expr (.app (.var 3) (.tup [(.const (.int 58)),(.bin .add (.const (.str [98])) (.prim .str (.var 4)))]))] [],
  .expr (.ext (.var 3) (.list [(.bin .add (.const (.str [98])) (.prim .str (.var 5))),(.bin .add (.const (.str [120])) (.prim .str (.var 5)))])),
  .asg (.t (.tup [.var 6,.var 7])) (.sub (.var 0) (.var 5)),
  .expr (.ext (.var 3) (.comp (.var 8) (.val (.var 6)) none (.tup [.var 8,(.ite (.cmp .isIn (.var 8) (.tup [(.const (.int 59)),(.const (.int 60))])) (.bin .add (.const (.str [120])) (.prim .str (.sub (.var 7) (.const (.int 0))))) (.const .none))]))),
  .asg (.t (.var 4)) (.ite (.cmp .ne (.var 7) (.list [])) (.sub (.var 7) (.neg (.const (.int 1)))) (.const .none))],
  .iff (.notNone (.var 4)) [.expr (.app (.var 3) (.tup [(.const (.int 58)),(.bin .add (.const (.str [98])) (.prim .str (.var 4)))]))] [],
  .ret (.call 15 [(.const (.str [98,108,111,99,107,115])),.var 3])]⟩
noncomputable def fG:Fn:=⟨2,3,0,[.forr (.var 2) (.range none (.len (.var 0))) [.iff (.or [(.cmp .ge (.var 1) (.len (.var 0))),(.cmp .ne (.sub (.sub (.var 0) (.var 1)) (.const (.int 0))) (.const (.int 58)))]) [.ret (.var 1)] [],
  .asg (.t (.var 1)) (.sub (.sub (.var 0) (.var 1)) (.const (.int 1)))],
  .ret (.var 1)]⟩
noncomputable def f_law_found:Fn:=⟨2,11,0,[.asgT [2,3] [(.dict false []),(.list [(.tup [(.const (.int 0)),(.call 42 [.var 0,(.const (.int 0))]),(.const (.int 0))])])],
  .whil (.cmp .ne (.var 3) (.list [])) [.asg (.t (.tup [.var 4,.var 5,.var 6])) (.pop (.var 3) none),
  .iff (.cmp .isIn (.var 4) (.var 2)) [.iff (.cmp .ne (.sub (.var 2) (.var 4)) (.tup [.var 5,.var 6])) [.ret (.const .none)] [],
  .cont] [],
  .iff (.or [(.cmp .ge (.var 5) (.len (.var 0))),(.cmp .ne (.sub (.sub (.var 0) (.var 5)) (.const (.int 0))) (.sub (.sub (.var 1) (.var 4)) (.const (.int 0))))]) [.ret (.const .none)] [],
  .asg (.sub (.var 2) (.var 4)) (.tup [.var 5,.var 6]),
  .asg (.t (.tup [.var 7,.var 8])) (.sub (.var 1) (.var 4)),
  .asgT [9,10] [(.bin .add (.var 6) (.sub (.call 37 []) (.var 7))),(.sub (.sub (.var 0) (.var 5)) (.const (.int 1)))],
  .iff (.cmp .isIn (.var 7) (.tup [(.const (.int 59)),(.const (.int 60))])) [.expr (.ext (.var 3) (.list [(.tup [(.sub (.var 8) (.const (.int 0))),(.call 42 [.var 0,.var 10]),.var 9]),(.tup [(.sub (.var 8) (.const (.int 1))),(.call 42 [.var 0,(.bin .add (.var 5) (.const (.int 1)))]),.var 9])]))] [.iff (.notNone (.var 10)) [.ret (.const .none)] [.iff (.cmp .ne (.var 8) (.list [])) [.expr (.app (.var 3) (.tup [(.sub (.var 8) (.const (.int 0))),(.call 42 [.var 0,(.bin .add (.var 5) (.const (.int 1)))]),.var 9]))] []]]],
  .ret (.var 2)]⟩
noncomputable def f_law:Fn:=⟨1,19,0,[.asg (.t (.var 1)) (.bin .add (.comp (.var 10) (.val (.slice (.var 0) none (some (.const (.int 6))))) none (.prim .abs (.var 10))) (.slice (.list [(.const (.int 1)),(.const (.int 5)),(.const (.int 42)),(.const (.int 109)),(.const (.int 200)),(.const (.int 3))]) (some (.len (.slice (.var 0) none (some (.const (.int 6)))))) none)),
  .asg (.t (.var 2)) (.bin .add (.const (.int 2)) (.bin .mod (.sub (.var 1) (.const (.int 0))) (.const (.int 3)))),
  .asg (.t (.var 3)) (.call 38 [(.slice (.var 1) (some (.const (.int 2))) (some (.bin .add (.const (.int 2)) (.var 2))))]),
  .asg (.t (.var 4)) (.call 39 [.var 3]),
  .forr (.var 5) (.val (.tup [(.lrange (.var 2)),(.call 40 [(.bin .fdiv (.sub (.var 1) (.const (.int 1))) (.const (.int 2))),.var 2])])) [.asg (.t (.var 6)) (.call 41 [.var 3,.var 5,(.cmp .eq (.bin .mod (.sub (.var 1) (.const (.int 1))) (.const (.int 2))) (.const (.int 1)))]),
  .asg (.t (.var 7)) (.call 43 [(.attr (.var 6) 3),.var 4]),
  .iff (.isNone (.var 7)) [.ret (.const (.bool false))] [],
  .iff (.cmp .ne (.prim .sorted (.comp (.tup [.var 11,.var 12]) (.val (.attr (.var 6) 3)) (some (.cmp .ne (.var 11) (.const (.int 58)))) (.var 11))) (.prim .sorted (.comp (.tup [.var 13,.var 14]) (.val (.var 4)) none (.var 13)))) [.ret (.const (.bool false))] [],
  .asg (.t (.var 8)) (.call 32 [.var 6]),
  .iff (.cmp .ne (.comp (.tup [.var 15,.var 16]) (.values (.var 7)) (some (.or [(.cmp .notIn (.var 15) (.var 8)),(.cmp .ne (.len (.sub (.var 8) (.var 15))) (.var 16))])) (.var 15)) (.list [])) [.ret (.const (.bool false))] []],
  .asg (.t (.var 9)) (.call 26 [(.call 36 [.var 6])]),
  .ret (.and [(.notNone (.call 43 [(.attr (.var 9) 3),.var 4])),(.cmp .eq (.len (.comp (.tup [.var 17,.var 18]) (.val (.attr (.var 9) 3)) (some (.cmp .ne (.var 17) (.const (.int 58)))) (.var 17))) (.len (.var 7)))])]⟩
noncomputable def fns:List Fn:=[f_Code_init,f_Unit_init,f_arg_kind,f_taken_count,f_put_count,f_is_last,f_Code_here,f_Code_emit,f_Code_label,f_Code_place,f_Code_jump,f_Code_place_of,f_Code_placed_code,eu,f_Code_unit,f_assemble,f_copy_head,f_line_at,f_rebuilt,f_with_code,f_for_all,f_later_places,f_live_places,f_is_idle,f_clean_once,f_clean_one,eh,f_handler_at,f_ways_thrown,f_need_values,f_made_by,f_ways_on,f_stacks_of,f_end_of,f_threaded,f_thread_one,dv,f_law_grown,f_law_blocks,f_law_ways,f_law_order,f_law_put,fG,f_law_found,f_law]
noncomputable def prog(f:Nat):Option Fn:=fns[f]?
end Mine
namespace Mine
open PySem
inductive Role where
 | fgn
 | frz
 | env
 | slot (i p:Nat)
 | tmp (k p:Nat)
noncomputable abbrev Wd:=Addr→Role
structure G where
 prog:Program
 w:World
 fa:Nat→Addr
 ca:Nat→Addr
noncomputable def attrNames:List Str:=["name","params","is_strict","code","lines","line","consts","units","places","handlers","local_count","cell_count","captures","uses_arguments","self_slot","arguments_place","param_places"]
noncomputable def an(k:Nat):Str:=attrNames.getD k Str.empty
noncomputable abbrev bO(xs:List Value)(n:Nat):Obj:={ cls:=.type "list",data:=.seq xs.toArray n }
noncomputable abbrev tObj(xs:List Value)(n:Nat):Obj:={ cls:=.type "tuple",data:=.seq xs.toArray n }
noncomputable abbrev eS(c d:Addr):Obj:={ cls:=.ref c,dict:=some d,data:=.plain }
noncomputable def strOf(s:List Nat):Str:=⟨s.toArray⟩
noncomputable def AD(h:Heap)(d:Addr)(m:Str→Option Value):Prop:=
 ∃ es n,h.get? d=some { cls:=.type "dict",data:=.dict es n }∧StrKeys es∧(∀ x,nsFind es x=m x)∧es.size+(attrNames.filter fun x=>(m x).isNone).length≤17∧∀ x,x∉attrNames→m x=none
mutual
inductive Rep (g:G) (W:Wd) (h:Heap):V→Value→Prop
 | undef (x:Value):Rep g W h .undef x
 | none:Rep g W h .none .none
 | bool (b:Bool):Rep g W h (.bool b) (.bool b)
 | int (i:Int) (t:Tok):Rep g W h (.int i) (.int i t)
 | str (s:List Nat) (t:Tok):Rep g W h (.str s) (.str (strOf s) t)
 | tup {a:Addr} {l:List V} {xs:List Value} {n:Nat}:W a=.frz→h.get? a=some (tObj xs n)→Reps g W h l xs→Rep g W h (.tup l) (.ref a)
 | list {a:Addr} {l:List V} {xs:List Value} {n:Nat}:W a=.frz→h.get? a=some (bO xs n)→Reps g W h l xs→Rep g W h (.list l) (.ref a)
 | dict {a:Addr} {l:List (Int×V)} {kvs:List (Int×Value)}:(a==sysModules)=false→W a=.frz→h.DictOf (intKind g.prog g.w) a kvs→Repd g W h l kvs→Rep g W h (.dict l) (.ref a)
 | sdict {a:Addr} {l:List (List Nat×V)} {kvs:List (Str×Value)}:(a==sysModules)=false→W a=.frz→h.DictOf (strKind g.prog g.w) a kvs→Repsd g W h l kvs→Rep g W h (.sdict l) (.ref a)
 | inst {a d:Addr} {c:Nat} {l:List V} {m:Str→Option Value}:W a=.frz→W d=.frz→h.get? a=some (eS (g.ca c) d)→AD h d m→Repa g W h m 0 l→Rep g W h (.inst c l) (.ref a)
 | fn (f:Nat):Rep g W h (.fn f) (.ref (g.fa f))
inductive Reps (g:G) (W:Wd) (h:Heap):List V→List Value→Prop
 | nil:Reps g W h [] []
 | cons {v:V} {x:Value} {l:List V} {xs:List Value}:Rep g W h v x→Reps g W h l xs→Reps g W h (v::l) (x::xs)
inductive Repd (g:G) (W:Wd) (h:Heap):List (Int×V)→List (Int×Value)→Prop
 | nil:Repd g W h [] []
 | cons {k:Int} {v:V} {x:Value} {l:List (Int×V)} {xs:List (Int×Value)}:Rep g W h v x→Repd g W h l xs→Repd g W h ((k,v)::l) ((k,x)::xs)
inductive Repsd (g:G) (W:Wd) (h:Heap):List (List Nat×V)→List (Str×Value)→Prop
 | nil:Repsd g W h [] []
 | cons {k:List Nat} {v:V} {x:Value} {l:List (List Nat×V)} {xs:List (Str×Value)}:Rep g W h v x→Repsd g W h l xs→Repsd g W h ((k,v)::l) ((strOf k,x)::xs)
inductive Repa (g:G) (W:Wd) (h:Heap):(Str→Option Value)→Nat→List V→Prop
 | nil {m:Str→Option Value} {k:Nat}:Repa g W h m k []
 | none {m:Str→Option Value} {k:Nat} {l:List V}:Repa g W h m (k+1) l→Repa g W h m k (.undef::l)
 | cons {m:Str→Option Value} {k:Nat} {v:V} {x:Value} {l:List V}:m (an k)=some x→Rep g W h v x→Repa g W h m (k+1) l→Repa g W h m k (v::l)
end
section
variable {g:G} {W W':Wd} {h h':Heap}
noncomputable def cy(W:Wd)(h:Heap)(W':Wd)(h':Heap):Prop:=∀ a o,W a=.frz→h.get? a=some o→W' a=.frz∧h'.get? a=some o
theorem DictOf.move{K:Type} [DecidableEq K] {prog:Program} {w:World} {knd:KeyKind prog w K} {a:Addr} {kvs:List (K×Value)} (x:h.DictOf knd a kvs)
  (e:∀ o,h.get? a=some o→h'.get? a=some o):h'.DictOf knd a kvs:=
 let ⟨o,es,ep,ho,r⟩:=x;⟨o,es,ep,e o ho,r⟩
theorem DictOf.some{K:Type} [DecidableEq K] {prog:Program} {w:World} {knd:KeyKind prog w K} {a:Addr} {kvs:List (K×Value)} (x:h.DictOf knd a kvs):∃ o,h.get? a=some o:=
 let ⟨o,_,_,ho,_⟩:=x;⟨o,ho⟩
theorem AD.move{d:Addr}{m:Str→Option Value}(x:AD h d m)(e:∀ o,h.get? d=some o→h'.get? d=some o):AD h' d m:=
 let ⟨es,n,ho,r⟩:=x;⟨es,n,e _ ho,r⟩
theorem AD.ex{d:Addr}{m:Str→Option Value}(x:AD h d m):∃ o,h.get? d=some o:=let ⟨_,_,ho,_⟩:=x;⟨_,ho⟩
theorem Rep.stay(S:cy W h W' h'){v:V}{x:Value}(r:Rep g W h v x):Rep g W' h' v x:=
 Rep.rec (motive_1:=fun v x _=>Rep g W' h' v x) (motive_2:=fun v x _=>Reps g W' h' v x) (motive_3:=fun v x _=>Repd g W' h' v x) (motive_4:=fun v x _=>Repsd g W' h' v x) (motive_5:=fun m k l _=>Repa g W' h' m k l)
  .undef .none .bool .int .str (fun a b _ c=>.tup (S _ _ a b).1 (S _ _ a b).2 c) (fun a b _ c=>.list (S _ _ a b).1 (S _ _ a b).2 c)
  (fun z a b _ c=>let ⟨o,ho⟩:=DictOf.some b;.dict z (S _ _ a ho).1 (DictOf.move b fun o e=>(S _ _ a e).2) c)
  (fun z a b _ c=>let ⟨o,ho⟩:=DictOf.some b;.sdict z (S _ _ a ho).1 (DictOf.move b fun o e=>(S _ _ a e).2) c)
  (fun a b c d _ e=>let ⟨o,ho⟩:=AD.ex d;.inst (S _ _ a c).1 (S _ _ b ho).1 (S _ _ a c).2 (AD.move d fun o e=>(S _ _ b e).2) e)
  .fn .nil (fun _ _ a b=>.cons a b) .nil (fun _ _ a b=>.cons a b) .nil (fun _ _ a b=>.cons a b) .nil (fun _ a=>.none a) (fun e _ _ a b=>.cons e a b) r
theorem Reps.stay(S:cy W h W' h'){l:List V}:∀ {xs:List Value},Reps g W h l xs→Reps g W' h' l xs:=by
 induction l with
 | nil=>intro xs r;cases r;exact .nil
 | cons v l ih=>intro xs r;cases r with | cons a b=>exact .cons (a.stay S) (ih b)
theorem Repd.stay(S:cy W h W' h'){l:List (Int×V)}:∀ {xs:List (Int×Value)},Repd g W h l xs→Repd g W' h' l xs:=by
 induction l with
 | nil=>intro xs r;cases r;exact .nil
 | cons v l ih=>intro xs r;cases r with | cons a b=>exact .cons (a.stay S) (ih b)
theorem Repsd.stay(S:cy W h W' h'){l:List (List Nat×V)}:∀ {xs:List (Str×Value)},Repsd g W h l xs→Repsd g W' h' l xs:=by
 induction l with
 | nil=>intro xs r;cases r;exact .nil
 | cons v l ih=>intro xs r;cases r with | cons a b=>exact .cons (a.stay S) (ih b)
theorem Repa.stay(S:cy W h W' h'){m:Str→Option Value}{l:List V}:∀ {k:Nat},Repa g W h m k l→Repa g W' h' m k l:=by
 induction l with
 | nil=>intro k r;exact .nil
 | cons v l ih=>
  intro k r
  cases r with
  | none a=>exact .none (ih a)
  | cons e a b=>exact .cons e (a.stay S) (ih b)
theorem Reps.length{l:List V}{xs:List Value}(r:Reps g W h l xs):xs.length=l.length:=by
 induction l generalizing xs with
 | nil=>cases r;rfl
 | cons v l ih=>cases r with | cons a b=>simp [ih b]
theorem Reps.get{l:List V}{xs:List Value}(r:Reps g W h l xs){i:Nat}{v:V}(e:l[i]?=some v):∃ x,xs[i]?=some x∧Rep g W h v x:=by
 induction l generalizing xs i with
 | nil=>simp at e
 | cons u l ih=>
  cases r with
  | cons a b=>
   cases i with
   | zero=>simp at e;subst e;exact⟨_,rfl,a⟩
   | succ i=>simp at e;simpa using ih b e
theorem Reps.append{l m:List V}{xs ys:List Value}(r:Reps g W h l xs)(q:Reps g W h m ys):Reps g W h (l++m) (xs++ys):=by
 induction l generalizing xs with
 | nil=>cases r;exact q
 | cons v l ih=>cases r with | cons a b=>exact .cons a (ih b)
theorem Reps.take{l:List V}{xs:List Value}(r:Reps g W h l xs)(n:Nat):Reps g W h (l.take n) (xs.take n):=by
 induction l generalizing xs n with
 | nil=>cases r;simpa using Reps.nil
 | cons v l ih=>cases r with | cons a b=>cases n with | zero=>exact .nil | succ n=>exact .cons a (ih b n)
theorem Reps.drop{l:List V}{xs:List Value}(r:Reps g W h l xs)(n:Nat):Reps g W h (l.drop n) (xs.drop n):=by
 induction l generalizing xs n with
 | nil=>cases r;simpa using Reps.nil
 | cons v l ih=>cases r with | cons a b=>cases n with | zero=>exact .cons a b | succ n=>exact ih b n
inductive Repoa (g:G) (W:Wd) (h:Heap) (r:Nat→Role) (m:Str→Option Value):Nat→List O1→Prop
 | nil {k:Nat}:Repoa g W h r m k []
 | none {k:Nat} {l:List O1}:Repoa g W h r m (k+1) l→Repoa g W h r m k (.v .undef::l)
 | cons {k:Nat} {v:V} {x:Value} {l:List O1}:m (an k)=some x→Rep g W h v x→Repoa g W h r m (k+1) l→Repoa g W h r m k (.v v::l)
 | list {k:Nat} {b:Addr} {n:Nat} {vs:List V} {xs:List Value} {l:List O1}:m (an k)=some (.ref b)→W b=r (3+k)→h.get? b=some (bO xs n)→Reps g W h vs xs→Repoa g W h r m (k+1) l→
   Repoa g W h r m k (.list vs::l)
inductive RepO (g:G) (W:Wd) (h:Heap) (r:Nat→Role):Own→Value→Prop
 | v {v:V} {x:Value}:Rep g W h v x→RepO g W h r (.v v) x
 | list {a:Addr} {l:List V} {xs:List Value} {n:Nat}:W a=r 0→h.get? a=some (bO xs n)→Reps g W h l xs→RepO g W h r (.list l) (.ref a)
 | dict {a:Addr} {l:List (Int×V)} {kvs:List (Int×Value)}:(a==sysModules)=false→W a=r 0→h.DictOf (intKind g.prog g.w) a kvs→Repd g W h l kvs→RepO g W h r (.dict l) (.ref a)
 | sdict {a:Addr} {l:List (List Nat×V)} {kvs:List (Str×Value)}:(a==sysModules)=false→W a=r 0→h.DictOf (strKind g.prog g.w) a kvs→Repsd g W h l kvs→RepO g W h r (.sdict l) (.ref a)
 | inst {a d:Addr} {c:Nat} {l:List O1} {m:Str→Option Value}:W a=r 1→W d=r 2→h.get? a=some (eS (g.ca c) d)→AD h d m→Repoa g W h r m 0 l→RepO g W h r (.inst c l) (.ref a)
noncomputable def StayR(r:Nat→Role)(W:Wd)(h:Heap)(W':Wd)(h':Heap):Prop:=∀ a o,(W a=.frz∨∃ p,W a=r p)→h.get? a=some o→W' a=W a∧h'.get? a=some o
theorem StayR.stay{r:Nat→Role}(S:StayR r W h W' h'):cy W h W' h':=fun a o e ho=>by
 have:=S a o (.inl e) ho
 exact⟨this.1.trans e,this.2⟩
theorem Repoa.stay{r:Nat→Role}{m:Str→Option Value}(S:StayR r W h W' h'){k:Nat}{l:List O1}(x:Repoa g W h r m k l):Repoa g W' h' r m k l:=by
 induction x with
 | nil=>exact .nil
 | none _ ih=>exact .none ih
 | cons e a _ ih=>exact .cons e (a.stay S.stay) ih
 | list e w o a _ ih=>exact .list e ((S _ _ (.inr ⟨_,w⟩) o).1.trans w) (S _ _ (.inr ⟨_,w⟩) o).2 (a.stay S.stay) ih
theorem RepO.stay{r:Nat→Role}(S:StayR r W h W' h'){o:Own}{x:Value}(y:RepO g W h r o x):RepO g W' h' r o x:=by
 cases y with
 | v a=>exact .v (a.stay S.stay)
 | list a b c=>exact .list ((S _ _ (.inr ⟨_,a⟩) b).1.trans a) (S _ _ (.inr ⟨_,a⟩) b).2 (c.stay S.stay)
 | dict z a b c=>
  obtain ⟨o,ho⟩:=DictOf.some b
  exact .dict z ((S _ _ (.inr ⟨_,a⟩) ho).1.trans a) (DictOf.move b fun o e=>(S _ _ (.inr ⟨_,a⟩) e).2) (c.stay S.stay)
 | sdict z a b c=>
  obtain ⟨o,ho⟩:=DictOf.some b
  exact .sdict z ((S _ _ (.inr ⟨_,a⟩) ho).1.trans a) (DictOf.move b fun o e=>(S _ _ (.inr ⟨_,a⟩) e).2) (c.stay S.stay)
 | inst a b c d e=>
  obtain ⟨o,ho⟩:=AD.ex d
  exact .inst ((S _ _ (.inr ⟨_,a⟩) c).1.trans a) ((S _ _ (.inr ⟨_,b⟩) ho).1.trans b) (S _ _ (.inr ⟨_,a⟩) c).2 (AD.move d fun o e=>(S _ _ (.inr ⟨_,b⟩) e).2) (e.stay S)
theorem Repoa.map{r:Nat→Role}{m:Str→Option Value}{f:Role→Role}(hf:f .frz=.frz){k:Nat}{l:List O1}(x:Repoa g W h r m k l):Repoa g (fun a=>f (W a)) h (fun p=>f (r p)) m k l:=by
 have S:cy W h (fun a=>f (W a)) h:=fun _ _ e ho=>⟨by simp only[e,hf],ho⟩
 induction x with
 | nil=>exact .nil
 | none _ ih=>exact .none ih
 | cons e a _ ih=>exact .cons e (a.stay S) ih
 | list e w o a _ ih=>exact .list e (congrArg f w) o (a.stay S) ih
theorem RepO.map{r:Nat→Role}{f:Role→Role}(hf:f .frz=.frz){o:Own}{x:Value}(y:RepO g W h r o x):RepO g (fun a=>f (W a)) h (fun p=>f (r p)) o x:=by
 have S:cy W h (fun a=>f (W a)) h:=fun _ _ e ho=>⟨by simp only[e,hf],ho⟩
 cases y with
 | v a=>exact .v (a.stay S)
 | list a b c=>exact .list (by simp only[a]) b (c.stay S)
 | dict z a b c=>exact .dict z (by simp only[a]) b (c.stay S)
 | sdict z a b c=>exact .sdict z (by simp only[a]) b (c.stay S)
 | inst a b c d e=>exact .inst (by simp only[a]) (by simp only[b]) c d (e.map hf)
theorem Repoa.frz{r:Nat→Role}{m:Str→Option Value}(hr:∀ p,r p=.frz){k:Nat}{l:List O1}(x:Repoa g W h r m k l):Repa g W h m k (l.map O1.frz):=by
 induction x with
 | nil=>exact .nil
 | none _ ih=>exact .none ih
 | cons e a _ ih=>exact .cons e a ih
 | list e w o a _ ih=>exact .cons e (.list (w.trans (hr _)) o a) ih
theorem RepO.frz{r:Nat→Role}(hr:∀ p,r p=.frz){o:Own}{x:Value}(y:RepO g W h r o x):Rep g W h o.frz x:=by
 cases y with
 | v a=>exact a
 | list a b c=>exact .list (a.trans (hr _)) b c
 | dict z a b c=>exact .dict z (a.trans (hr _)) b c
 | sdict z a b c=>exact .sdict z (a.trans (hr _)) b c
 | inst a b c d e=>exact .inst (a.trans (hr _)) (b.trans (hr _)) c d (e.frz hr)
section
variable {x:Value} {G:Prop}
theorem Rep.intE{i:Int}(r:Rep g W h (.int i) x)(k:∀ t,x=.int i t→G):G:=by cases r;exact k _ rfl
theorem Rep.strE{s:List Nat}(r:Rep g W h (.str s) x)(k:∀ t,x=.str (strOf s) t→G):G:=by cases r;exact k _ rfl
theorem Rep.boolE{b:Bool}(r:Rep g W h (.bool b) x):x=.bool b:=by cases r;rfl
theorem Rep.noneE(r:Rep g W h .none x):x=.none:=by cases r;rfl
theorem Rep.listE{l:List V}(r:Rep g W h (.list l) x)(k:∀ a xs n,x=.ref a→W a=.frz→h.get? a=some (bO xs n)→Reps g W h l xs→G):G:=by cases r with | list a b c=>exact k _ _ _ rfl a b c
theorem Rep.tupE{l:List V}(r:Rep g W h (.tup l) x)(k:∀ a xs n,x=.ref a→W a=.frz→h.get? a=some (tObj xs n)→Reps g W h l xs→G):G:=by cases r with | tup a b c=>exact k _ _ _ rfl a b c
theorem Rep.dictE{l:List (Int×V)}(r:Rep g W h (.dict l) x)(k:∀ a kvs,x=.ref a→(a==sysModules)=false→W a=.frz→h.DictOf (intKind g.prog g.w) a kvs→Repd g W h l kvs→G):G:=by cases r with | dict z a b c=>exact k _ _ rfl z a b c
theorem Rep.sdictE{l:List (List Nat×V)}(r:Rep g W h (.sdict l) x)(k:∀ a kvs,x=.ref a→(a==sysModules)=false→W a=.frz→h.DictOf (strKind g.prog g.w) a kvs→Repsd g W h l kvs→G):G:=by cases r with | sdict z a b c=>exact k _ _ rfl z a b c
theorem Rep.instE{c:Nat}{l:List V}(r:Rep g W h (.inst c l) x)(k:∀ a d m,x=.ref a→W a=.frz→W d=.frz→h.get? a=some (eS (g.ca c) d)→AD h d m→Repa g W h m 0 l→G):G:=by cases r with | inst a b c d e=>exact k _ _ _ rfl a b c d e
theorem Rep.fnE{f:Nat}(r:Rep g W h (.fn f) x):x=.ref (g.fa f):=by cases r;rfl
theorem Reps.consE{v:V}{l:List V}{xs:List Value}(r:Reps g W h (v::l) xs)(k:∀ y ys,xs=y::ys→Rep g W h v y→Reps g W h l ys→G):G:=by cases r with | cons a b=>exact k _ _ rfl a b
end
end
structure WF (h0:Heap) (W:Wd) (h:Heap):Prop where
 base:∀ a o,h0.get? a=some o→W a=.frz∧h.get? a=some o
 live:∀ a,W a≠.fgn→∃ o,h.get? a=some o
noncomputable def kept(k:Nat)(X:Role→Addr→Prop)(W:Wd)(a:Addr):Prop:=match W a with
 | .fgn=>True
 | .frz=>True
 | .env=>¬ X .env a
 | .slot i p=>(p=1∨p=2)∧¬ X (.slot i p) a
 | .tmp j _=>j<k
noncomputable def Kp(r r':Role):Prop:=r'=r∨(∃ i p,r=.slot i p)∧r'=.frz
noncomputable def Step(k:Nat)(X:Role→Addr→Prop)(W:Wd)(h:Heap)(W':Wd)(h':Heap):Prop:=
 ∀ a o,h.get? a=some o→kept k X W a→Kp (W a) (W' a)∧h'.get? a=some o
noncomputable def noX:Role→Addr→Prop:=fun _ _=>False
section
variable {k:Nat} {X Y:Role→Addr→Prop} {W W1 W2:Wd} {h h1 h2:Heap}
theorem kept_kp{a:Addr}(e:Kp (W a) (W1 a))(x:kept k X W a):kept k X W1 a:=by
 rcases e with e | ⟨_,e⟩
 ·unfold kept at *;rw[e];exact x
 ·unfold kept;rw[e];trivial
theorem Kp.trans{a b c:Role}(x:Kp a b)(y:Kp b c):Kp a c:=by
 rcases x with rfl | ⟨⟨i,p,rfl⟩,rfl⟩
 ·exact y
 ·rcases y with rfl | ⟨⟨_,_,e⟩,_⟩
  ·exact .inr ⟨⟨_,_,rfl⟩,rfl⟩
  ·cases e
theorem Kp.not{a b:Role}(x:Kp a b)(h:∀ i p,a≠.slot i p):b=a:=by
 rcases x with e | ⟨⟨i,p,e⟩,_⟩
 ·exact e
 ·exact absurd e (h i p)
theorem Step.refl:Step k X W h W h:=fun _ _ e _=>⟨.inl rfl,e⟩
theorem Step.trans(x:Step k X W h W1 h1)(y:Step k X W1 h1 W2 h2):Step k X W h W2 h2:=fun a o e q=>by
 obtain ⟨p1,p2⟩:=x a o e q
 obtain ⟨q1,q2⟩:=y a o p2 (kept_kp p1 q)
 exact⟨p1.trans q1,q2⟩
theorem Step.mono{k':Nat}(x:Step k X W h W1 h1)(hk:k'≤k)(hX:∀ r a,X r a→Y r a∨h.get? a=none):Step k' Y W h W1 h1:=fun a o e q=>x a o e (by
 have hn:∀ r,¬ Y r a→¬ X r a:=fun r hy hx=>by
  rcases hX r a hx with z | z
  ·exact hy z
  ·exact absurd (z.symm.trans e) (by simp)
 unfold kept at*
 split <;> simp_all
 lia)
theorem Step.mono0{k':Nat}(x:Step k noX W h W1 h1)(hk:k'≤k):Step k' Y W h W1 h1:=x.mono hk fun _ _ z=>z.elim
theorem Step.stay(x:Step k X W h W1 h1):cy W h W1 h1:=fun a o e ho=>by
 have:=x a o ho (by unfold kept;rw[e];trivial)
 exact⟨(this.1.not (by rw[e];intro _ _ z;cases z)).trans e,this.2⟩
theorem Step.tmp{j:Nat}(x:Step k X W h W1 h1)(hj:j<k):StayR (fun p=>.tmp j p) W h W1 h1:=fun a o e ho=>by
 have:=x a o ho (by rcases e with e | ⟨p,e⟩ <;> (unfold kept;rw[e];first | trivial | exact hj))
 exact⟨this.1.not (by rcases e with e | ⟨p,e⟩ <;> (rw[e];intro _ _ z;cases z)),this.2⟩
theorem Step.fgn(x:Step k X W h W1 h1){a:Addr}{o:Obj}(e:W a=.fgn)(ho:h.get? a=some o):W1 a=.fgn∧h1.get? a=some o:=by
 have:=x a o ho (by unfold kept;rw[e];trivial)
 exact⟨(this.1.not (by rw[e];intro _ _ z;cases z)).trans e,this.2⟩
noncomputable def Grow(W:Wd)(h:Heap)(W':Wd)(h':Heap):Prop:=∀ a o,h.get? a=some o→W' a=W a∧h'.get? a=some o
theorem Grow.refl:Grow W h W h:=fun _ _ e=>⟨rfl,e⟩
theorem Grow.trans(x:Grow W h W1 h1)(y:Grow W1 h1 W2 h2):Grow W h W2 h2:=fun a o e=>⟨(y a o (x a o e).2).1.trans (x a o e).1,(y a o (x a o e).2).2⟩
theorem Grow.step(x:Grow W h W1 h1):Step k X W h W1 h1:=fun a o e _=>⟨.inl (x a o e).1,(x a o e).2⟩
theorem Grow.stayR{r:Nat→Role}(x:Grow W h W1 h1):StayR r W h W1 h1:=fun a o _ ho=>x a o ho
theorem Grow.stay(x:Grow W h W1 h1):cy W h W1 h1:=fun a o e ho=>⟨(x a o ho).1.trans e,(x a o ho).2⟩
theorem Grow.wf{h0:Heap}(x:Grow W h W1 h1)(w:WF h0 W h)(n:∀ a,W1 a≠.fgn→(∃ o,h.get? a=some o)∨∃ o,h1.get? a=some o):WF h0 W1 h1:=
 ⟨fun a o e=>⟨(x a o (w.base a o e).2).1.trans (w.base a o e).1,(x a o (w.base a o e).2).2⟩,fun a q=>(n a q).elim (fun ⟨o,e⟩=>⟨o,(x a o e).2⟩) id⟩
noncomputable def put(W:Wd)(n:Addr)(r:Role):Wd:=fun a=>if a=n then r else W a
theorem bh{n:Addr}{r:Role}:put W n r n=r:=if_pos rfl
theorem aU{n a:Addr}{r:Role}(e:a≠n):put W n r a=W a:=if_neg e
theorem grow_push(W:Wd)(h:Heap)(o:Obj)(r:Role):Grow W h (put W h.objs.size r) (h.push o):=fun a x e=>
 ⟨aU (Nat.ne_of_lt (Heap.lt_size e)),Heap.get?_push_of_some _ e⟩
theorem ay{h':Heap}(e:∀ b o,h.get? b=some o→h'.get? b=some o):Grow W h W h':=fun a o x=>⟨rfl,e a o x⟩
theorem grow_put{h':Heap}{n:Addr}{r:Role}(hn:h.get? n=none)(e:∀ b o,h.get? b=some o→h'.get? b=some o):Grow W h (put W n r) h':=fun a o x=>
 ⟨aU (by rintro rfl;rw[hn] at x;cases x),e a o x⟩
theorem WF.fresh{h0:Heap}(w:WF h0 W h){a:Addr}(e:h.get? a=none):W a=.fgn:=by
 by_cases q:W a=.fgn
 ·exact q
 ·obtain ⟨o,ho⟩:=w.live a q;rw[e] at ho;cases ho
theorem WF.grow{h0:Heap}(w:WF h0 W h){h':Heap}(e:∀ b o,h.get? b=some o→h'.get? b=some o):WF h0 W h':=
 (ay e).wf w fun a q=>.inl (w.live a q)
theorem WF.put{h0:Heap}(w:WF h0 W h){n:Addr}{r:Role}{h':Heap}{o:Obj}(hn:h.get? n=none)(e:∀ b o,h.get? b=some o→h'.get? b=some o)(ho:h'.get? n=some o):WF h0 (put W n r) h':=
 (grow_put hn e).wf w fun a q=>by
  by_cases z:a=n
  ·subst z;exact .inr ⟨_,ho⟩
  ·rw[aU z] at q;exact .inl (w.live a q)
theorem c3(h:Heap):h.get? h.objs.size=none:=by
 cases e:h.get? h.objs.size with
 | none=>rfl
 | some o=>exact absurd (Heap.lt_size e) (Nat.lt_irrefl _)
theorem WF.map{h0:Heap}(w:WF h0 W h){f:Role→Role}(hf:f .frz=.frz)(hg:f .fgn=.fgn):WF h0 (fun a=>f (W a)) h:=
 ⟨fun a o e=>⟨by simp only[(w.base a o e).1,hf],(w.base a o e).2⟩,fun a q=>w.live a fun z=>q (by simp only[z,hg])⟩
theorem fU{f:Role→Role}(hf:∀ r,(match r with | .fgn=>True | .frz=>True | .env=>True | .slot _ _=>True | .tmp j _=>j<k)→Kp r (f r)):Step k X W h (fun a=>f (W a)) h:=fun a o e q=>
 ⟨hf _ (by revert q;unfold kept;cases W a <;> intro q <;> first | trivial | exact q),e⟩
end
structure Ctx where
 vars:List (Str×Nat)
 globs:List Str
 asg:List Str
 cel:List Str
noncomputable def St(g:G)(W:Wd)(h:Heap)(ρ:Nat→Option Value)(fr:Fr):Prop:=∀ i o,fr[i]?=some o→o=.v .undef∨∃ x,ρ i=some x∧RepO g W h (fun p=>.slot i p) o x
structure EnvOK (W:Wd) (h:Heap) (env:Env) (c:Ctx) (ρ:Nat→Option Value):Prop where
 kind:env.scope.kind=.function
 glob:env.globals=mainGlobals
 bi:env.builtins=builtinsNs
 locW:W env.locals=.env
 loc:∃ m,h.Ns env.locals m∧∀ x i,(x,i)∈c.vars→env.kindOf x=some .local→m x=ρ i
 var:∀ x i,(x,i)∈c.vars→env.kindOf x=some .local∨((env.kindOf x=some .cell∨env.kindOf x=some .free)∧∃ a,env.cells.lookup x=some a∧W a=.env∧h.IsCell a (ρ i))
 gl:∀ x,x∈c.globs→env.kindOf x=some .globalImplicit
 inj:∀ x i y j,(x,i)∈c.vars→(y,j)∈c.vars→(x=y↔i=j)
 asg:∀ x,x∈c.asg→env.kindOf x=some .local∨env.kindOf x=some .cell
 celln:∀ x y a,env.cells.lookup x=some a→env.cells.lookup y=some a→x=y
 cellL:∀ x,env.cells.lookup x≠some env.locals
 cel:∀ x,x∈c.cel→env.kindOf x=some .cell∨env.kindOf x=some .free
theorem IsCell.move{h h':Heap}{a:Addr}{v:Option Value}(x:h.IsCell a v)(e:∀ o,h.get? a=some o→h'.get? a=some o):h'.IsCell a v:=
 let ⟨o,ho,r⟩:=x;⟨o,e o ho,r⟩
section
variable {g:G} {k:Nat} {W W':Wd} {h h':Heap} {env:Env} {c:Ctx} {ρ:Nat→Option Value} {fr:Fr}
theorem EnvOK.move(x:EnvOK W h env c ρ)(T:∀ a o,W a=.env→h.get? a=some o→W' a=.env∧h'.get? a=some o):EnvOK W' h' env c ρ:=
 exE x.loc fun m hm=>exE hm.1 fun o ho=>exE ho fun es ho=>exE ho fun ep ho=>⟨x.kind,x.glob,x.bi,(T _ _ x.locW ho.1).1,⟨m,hm.1.at' fun o e=>(T _ _ x.locW e).2,hm.2⟩,
  fun y i hy=>(x.var y i hy).imp id fun q=>⟨q.1,exE q.2 fun a q=>exE q.2.2 fun o ho=>⟨a,q.1,(T _ _ q.2.1 ho.1).1,IsCell.move q.2.2 fun o e=>(T _ _ q.2.1 e).2⟩⟩,x.gl,x.inj,x.asg,x.celln,x.cellL,x.cel⟩
theorem EnvOK.step(x:EnvOK W h env c ρ)(S:Step k noX W h W' h'):EnvOK W' h' env c ρ:=x.move fun a o e ho=>by
 have:=S a o ho (by unfold kept;rw[e];exact id)
 exact⟨(this.1.not (by rw[e];exact nofun)).trans e,this.2⟩
theorem St.grow(x:St g W h ρ fr)(S:Grow W h W' h'):St g W' h' ρ fr:=fun i o e=>(x i o e).imp id fun ⟨v,a,b⟩=>⟨v,a,b.stay S.stayR⟩
theorem St.map(x:St g W h ρ fr){f:Role→Role}(hf:f .frz=.frz)(hs:∀ i p,f (.slot i p)=.slot i p):St g (fun a=>f (W a)) h ρ fr:=
 fun i o e=>(x i o e).imp id fun ⟨v,a,b⟩=>⟨v,a,by have:=b.map hf;simpa only[hs] using this⟩
end
structure Room (A:Around) (n:Nat):Prop where
 handled:A.handled=none
 depth:A.depth+6*n+3≤900
 units:A.units+20*n+10≤9000
structure RoomF (A:Around) (n:Nat):Prop where
 handled:A.handled=none
 depth:A.depth+6*n≤900
 units:A.units+20*n≤9000
theorem Room.f{A:Around}{n:Nat}(x:Room A n):RoomF A n:=⟨x.handled,by have:=x.depth;lia,by have:=x.units;lia⟩
theorem Room.cline{A:Around}{n:Nat}(x:Room A n):A.units<cLine:=by have:=x.units;unfold cLine;lia
structure Ok (g:G) (h0:Heap) (c:Ctx) (env:Env) (ρ:Nat→Option Value) (W:Wd) (h:Heap) (fr:Fr):Prop where
 wf:WF h0 W h
 env:EnvOK W h env c ρ
 st:St g W h ρ fr
noncomputable abbrev After(g:G)(h0:Heap)(c:Ctx)(env:Env)(ρ:Nat→Option Value)(k:Nat)(W:Wd)(s:Shared)(fr':Fr)(P:Wd→Heap→Value→Prop)(Q:Value→Shared→Prop):Prop:=
 ∀ W' h' t' x,Ok g h0 c env ρ W' h' fr'→Step k noX W s.heap W' h'→P W' h' x→Q x { s with heap:=h',toks:=t' }
noncomputable def EvAt(g:G)(h0:Heap)(n:Nat)(c:Ctx)(t:Env→Sem Value)(fr:Fr)(o:Own)(fr':Fr):Prop:=∀ (k:Nat) (W:Wd) (s:Shared) (ρ:Nat→Option Value) (env:Env) (A:Around) (Q:Value→Shared→Prop) (Ex:Value→Shared→Prop),
  Room A n→Ok g h0 c env ρ W s.heap fr→After g h0 c env ρ k W s fr' (fun W' h' x=>RepO g W' h' (fun p=>.tmp k p) o x) Q→wpAny (model g.prog g.w) A (t env) Q Ex s
noncomputable def EvT(g:G)(h0:Heap)(n:Nat)(c:Ctx)(t:Env→Sem Value)(ir:Fr→Option (Own×Fr)):Prop:=
 ∀ (fr fr':Fr) (o:Own),ir fr=some (o,fr')→EvAt g h0 n c t fr o fr'
noncomputable def EvVAt(g:G)(h0:Heap)(n:Nat)(c:Ctx)(t:Env→Sem Value)(fr:Fr)(v:V)(fr':Fr):Prop:=∀ (k:Nat) (W:Wd) (s:Shared) (ρ:Nat→Option Value) (env:Env) (A:Around) (Q:Value→Shared→Prop) (Ex:Value→Shared→Prop),
  Room A n→Ok g h0 c env ρ W s.heap fr→After g h0 c env ρ k W s fr' (fun W' h' x=>Rep g W' h' v x) Q→wpAny (model g.prog g.w) A (t env) Q Ex s
noncomputable def EvVT(g:G)(h0:Heap)(n:Nat)(c:Ctx)(t:Env→Sem Value)(ir:Fr→Option (V×Fr)):Prop:=
 ∀ (fr fr':Fr) (v:V),ir fr=some (v,fr')→EvVAt g h0 n c t fr v fr'
noncomputable def frzF(k:Nat):Role→Role
 | .tmp j p=>if j=k then .frz else .tmp j p
 | r=>r
section
variable {g:G} {h0:Heap} {c:Ctx} {env:Env} {ρ:Nat→Option Value} {W:Wd} {h:Heap} {fr:Fr} {k n:Nat}
theorem Ok.map(x:Ok g h0 c env ρ W h fr){f:Role→Role}(hf:f .frz=.frz)(hg:f .fgn=.fgn)(he:f .env=.env)(hs:∀ i p,f (.slot i p)=.slot i p)(ht:∀ j p,j<k→f (.tmp j p)=.tmp j p):
  Ok g h0 c env ρ (fun a=>f (W a)) h fr∧Step k noX W h (fun a=>f (W a)) h:=by
 have S:Step k noX W h (fun a=>f (W a)) h:=fU fun r hr=>by cases r <;> first | exact .inl hf | exact .inl hg | exact .inl he | exact .inl (hs _ _) | exact .inl (ht _ _ hr)
 exact⟨⟨x.wf.map hf hg,x.env.step S,x.st.map hf hs⟩,S⟩
theorem Ok.grow(x:Ok g h0 c env ρ W h fr){W':Wd}{h':Heap}(S:Grow W h W' h')(w:WF h0 W' h'):Ok g h0 c env ρ W' h' fr:=⟨w,x.env.step (k:=0) S.step,x.st.grow S⟩
theorem Ok.freeze(x:Ok g h0 c env ρ W h fr){o:Own}{v:Value}(y:RepO g W h (fun p=>.tmp k p) o v):
  ∃ W',Ok g h0 c env ρ W' h fr∧Step k noX W h W' h∧Rep g W' h o.frz v:=by
 obtain ⟨a,b⟩:=x.map (k:=k) (f:=frzF k) rfl rfl rfl (fun _ _=>rfl) (fun j p hj=>by simp only[frzF];rw[if_neg (by lia)])
 refine⟨_,a,b,(y.map (f:=frzF k) rfl).frz fun p=>?_⟩
 simp only[frzF,if_true]
theorem EvT.v{t:Env→Sem Value}{ir:Fr→Option (Own×Fr)}(x:EvT g h0 n c t ir):EvVT g h0 n c t (fun fr=>(ir fr).bind fun p=>some (p.1.frz,p.2)):=fun fr fr' v e=>
 bE2 e fun o fr2 e1 e=>sp e fun k W s ρ env A Q Ex R O hq=>x fr fr2 o e1 k W s ρ env A Q Ex R O fun W' h' t' y O' S' r=>
  exE (O'.freeze r) fun W2 q=>hq W2 h' t' y q.1 (S'.trans q.2.1) q.2.2
end
section T1
open Builtin
set_option maxRecDepth 100000
theorem int_rmul_tuple(a:Int)(t:Tok)(l:Addr)(items:Array Value)(n:Nat):
  Meets (Builtin.«int.__rmul__» ⟨[.int a t,.ref l],[]⟩) (fun _ R s=>s.heap.get? l=some { cls:=.type "tuple",dict:=none,data:=.seq items n,slots:=#[] }∧R (.ok (.ret Value.notImplemented)) s):=
 .of_wp fun prog w A R s h=>by obtain ⟨hp,g,d,tk,os⟩:=s;obtain ⟨hl,h⟩:=h;wp_walk;exact⟨_,rfl,h⟩
theorem tuple_mul1(l:Addr)(items:Array Value)(n:Nat)(u:Tok):
  Meets (Builtin.«tuple.__mul__» ⟨[.ref l,.int 1 u],[]⟩) (fun _ R s=>s.heap.get? l=some { cls:=.type "tuple",dict:=none,data:=.seq items n,slots:=#[] }∧R (.ok (.ret (.ref l))) s):=
 .of_wp fun prog w A R s h=>by
  obtain ⟨hp,g,d,tk,os⟩:=s;obtain ⟨hl,h⟩:=h
  wp_walk;exact⟨_,rfl,h⟩
theorem tuple_mul0(l:Addr)(items:Array Value)(n:Nat)(u:Tok)(h0:items.isEmpty=false):
  Meets (Builtin.«tuple.__mul__» ⟨[.ref l,.int 0 u],[]⟩) (fun _ R s=>s.heap.get? l=some { cls:=.type "tuple",dict:=none,data:=.seq items n,slots:=#[] }∧R (.ok (.ret (.ref s.heap.objs.size))) { s with heap:=s.heap.push { cls:=.type "tuple",data:=.seq #[] },toks:=s.toks }):=
 .of_wp fun prog w A R s h=>by
  obtain ⟨hp,g,d,tk,os⟩:=s;obtain ⟨hl,h⟩:=h
  wp_walk;exact⟨_,rfl,h⟩
theorem tuple_mul2(l:Addr)(items:Array Value)(n:Nat)(x:Int)(u:Tok)(h0:items.isEmpty=false)(h1:2≤x)(h3:items.size*x≤100000)(h4:x<100000):
  Meets (Builtin.«tuple.__mul__» ⟨[.ref l,.int x u],[]⟩) (fun _ R s=>s.heap.get? l=some { cls:=.type "tuple",dict:=none,data:=.seq items n,slots:=#[] }∧R (.ok (.ret (.ref s.heap.objs.size))) { s with heap:=s.heap.push { cls:=.type "tuple",data:=.seq (List.foldl (fun x1 x2=>x1++x2) #[] (List.replicate x.toNat items)) },toks:=s.toks }):=
 .of_wp fun prog w A R s h=>by
  obtain ⟨hp,g,d,tk,os⟩:=s;obtain ⟨hl,h⟩:=h
  have sz:(List.foldl (fun x1 x2=>x1++x2) #[] (List.replicate x.toNat items)).size≤sizeLine:=by
   rw[AutoListH.size_joined]
   have:((x.toNat*items.size:Nat):Int)≤100000:=by
    rw[Int.natCast_mul,Int.toNat_of_nonneg (by lia),Int.mul_comm];exact h3
   rw[sizeLine_eq];simp;lia
  wp_walk;refine wpAny_ite_false (decide_eq_false (by simp;lia)) ?_
  wp_walk;refine wpAny_ite_false (decide_eq_false (by rw[h0];simp;lia)) ?_
  wp_walk;refine wpAny_ite_false (decide_eq_false (by rw[h0];simp;lia)) ?_
  wp_walk;refine wpAny_ite_false (decide_eq_false (by lia)) ?_
  wp_walk;refine wpAny_ite_false (decide_eq_false (by unfold Builtin.Tuple.tupleTooMany;rw[sizeLine_eq];simp;lia)) ?_
  wp_walk;exact⟨_,rfl,h⟩
end T1
noncomputable abbrev VAfter(g:G)(h0:Heap)(W:Wd)(s:Shared)(P:Wd→Heap→Value→Prop)(Q:Value→Shared→Prop):Prop:=
 ∀ W' h' t' x,Grow W s.heap W' h'→WF h0 W' h'→P W' h' x→Q x { s with heap:=h',toks:=t' }
section
variable {g:G} {h0:Heap} {W:Wd} {s:Shared} {A:Around} {Q:Value→Shared→Prop} {Ex:Value→Shared→Prop} {k n:Nat}
noncomputable abbrev RO(g:G)(k:Nat)(o:Own)(W:Wd)(h:Heap)(x:Value):Prop:=RepO g W h (fun p=>.tmp k p) o x
theorem VAfter.pure{P:Wd→Heap→Value→Prop}(q:VAfter g h0 W s P Q)(w:WF h0 W s.heap){x:Value}(p:P W s.heap x)(t:Nat):Q x { s with toks:=t }:=q W s.heap t x .refl w p
theorem VAfter.here{P:Wd→Heap→Value→Prop}(q:VAfter g h0 W s P Q)(w:WF h0 W s.heap){x:Value}(p:P W s.heap x):Q x s:=q W s.heap s.toks x .refl w p
theorem VAfter.new{P:Wd→Heap→Value→Prop}(q:VAfter g h0 W s P Q)(w:WF h0 W s.heap){o:Obj}(r:Role)(hf:o.isFreed=false)(p:Grow W s.heap (put W s.heap.objs.size r) (s.heap.push o)→(s.heap.push o).get? s.heap.objs.size=some o→
  P (put W s.heap.objs.size r) (s.heap.push o) (.ref s.heap.objs.size)) (t:Nat):Q (.ref s.heap.objs.size) { s with heap:=s.heap.push o,toks:=t }:=
 have e:=Heap.get?_push_size s.heap (o:=o) hf
 q _ _ t _ (grow_push W s.heap o r) (w.put (c3 _) (fun b x z=>Heap.get?_push_of_some _ z) e) (p (grow_push W s.heap o r) e)
theorem Reps.grow{W':Wd}{h h':Heap}{l:List V}{xs:List Value}(r:Reps g W h l xs)(S:Grow W h W' h'):Reps g W' h' l xs:=r.stay S.stay
theorem VAfter.list(q:VAfter g h0 W s (RO g k (.list l)) Q)(w:WF h0 W s.heap){xs:List Value}{m:Nat}(r:Reps g W s.heap l xs)(t:Nat):Q (.ref s.heap.objs.size) { s with heap:=s.heap.push (bO xs m),toks:=t }:=
 q.new w (.tmp k 0) rfl (fun S e=>.list bh e (r.grow S)) t
theorem VAfter.tup(q:VAfter g h0 W s (RO g k (.v (.tup l))) Q)(w:WF h0 W s.heap){xs:List Value}{m:Nat}(r:Reps g W s.heap l xs)(t:Nat):Q (.ref s.heap.objs.size) { s with heap:=s.heap.push (tObj xs m),toks:=t }:=
 q.new w .frz rfl (fun S e=>.v (.tup bh e (r.grow S))) t
noncomputable def opOf:Op→Operator
 | .add=>.Add
 | .sub=>.Sub
 | .mul=>.Mult
 | .mod=>.Mod
 | .fdiv=>.FloorDiv
theorem cS:(100000:Nat)≤sizeLine:=by rw[sizeLine_eq];lia
theorem rep_list(n:Nat)(xs:Array Value):(List.foldl (fun x1 x2=>x1++x2) #[] (List.replicate n xs)).toList=(List.replicate n xs.toList).flatten:=by
 have:∀ (n:Nat) (acc:Array Value),(List.foldl (fun x1 x2=>x1++x2) acc (List.replicate n xs)).toList=acc.toList++(List.replicate n xs.toList).flatten:=by
  intro n
  induction n with
  | zero=>intro acc;simp
  | succ n ih=>intro acc;rw[List.replicate_succ,List.foldl_cons,ih];simp [List.replicate_succ]
 simpa using this n #[]
theorem Reps.rep{h:Heap}{l:List V}{xs:List Value}(r:Reps g W h l xs):∀ n:Nat,Reps g W h (rep n l) (List.replicate n xs).flatten
 | 0=>.nil
 | n+1=>by rw[List.replicate_succ,List.flatten_cons];exact r.append (Reps.rep r n)
theorem noFill_tuple_mul:fillsNumberSlot (.type "tuple") "mul"=pure false:=
 fillsNumberSlot_seq (id:="tuple.__mul__") (r:=some (.builtin "tuple.__rmul__")) F.slot_tuple_mul.lookup (by decide +kernel) F.slot_tuple_rmul.lookup (by decide +kernel)
theorem repeat_tuple:seqRepeat? (.type "tuple")=pure (some (.builtin "tuple.__mul__")):=by
 unfold seqRepeat?
 rw[seqSlot_of (T:="tuple") (name:="__mul__") (id:="tuple.__mul__") F.slot_tuple_mul.lookup (by decide +kernel),seqSlot_of (T:="tuple") (name:="__rmul__") (id:="tuple.__rmul__") F.slot_tuple_rmul.lookup (by decide +kernel)]
 first | rfl | simp
theorem isL{h:Heap}{a:Addr}{xs:List Value}{n:Nat}(e:h.get? a=some (bO xs n)):h.IsList a xs.toArray:=⟨_,e,rfl,_,rfl⟩
theorem isT{h:Heap}{a:Addr}{xs:List Value}{n:Nat}(e:h.get? a=some (tObj xs n)):h.IsTuple a xs.toArray:=⟨_,e,rfl,_,rfl⟩
theorem add_list{l m:List V}{r:Own}{x y:Value}(e:addL l m=some r)(ru:Rep g W s.heap (.list l) x)(rv:Rep g W s.heap (.list m) y)(w:WF h0 W s.heap)(q:VAfter g h0 W s (RO g k r) Q):wpAny (model g.prog g.w) A (binaryOp .Add x y) Q Ex s:=
 ifE e fun hz e=>ru.listE fun a xs n hx a1 a2 a3=>rv.listE fun b ys m hy b1 b2 b3=>by
  cases e;cases hx;cases hy
  refine concat_meets ⟨_,a2,rfl⟩ ⟨_,b2,rfl⟩ noFill_list_add seq_list_add PySem.F.slot_list_add PySem.F.entry_list_add (PySem.F.args_list_add_2 _ _) (PyProof.Rows.list_addW _ _ _ _ _ _ _ _ _ _ ?_) ⟨a2,b2,?_⟩
  ·rw[List.size_toArray,List.size_toArray,a3.length,b3.length];exact Nat.le_trans hz cS
  ·rw[show xs.toArray++ys.toArray=(xs++ys).toArray by simp]
   exact q.list w (a3.append b3) _
theorem add_tup{l m:List V}{r:Own}{x y:Value}(e:addT l m=some r)(ru:Rep g W s.heap (.tup l) x)(rv:Rep g W s.heap (.tup m) y)(w:WF h0 W s.heap)(q:VAfter g h0 W s (RO g k r) Q):wpAny (model g.prog g.w) A (binaryOp .Add x y) Q Ex s:=
 ifE e fun hz e=>ru.tupE fun a xs n hx a1 a2 a3=>rv.tupE fun b ys m' hy b1 b2 b3=>by
  cases e;cases hx;cases hy
  have hl:=a3.length
  have hm:=b3.length
  by_cases hx:xs=[]
  ·subst hx
   cases List.length_eq_zero_iff.mp hl.symm
   exact concat_meets ⟨_,a2,rfl⟩ ⟨_,b2,rfl⟩ noFill_tuple_add seq_tuple_add PySem.F.slot_tuple_add PySem.F.entry_tuple_add (PySem.F.args_tuple_add_2 _ _) (PyProof.Rows.tuple_addW0 _ _ _ _ _ _ _ _ _ _ rfl) ⟨a2,b2,q.here w (.v (.tup b1 b2 b3))⟩
  ·have hx1:¬xs.toArray.isEmpty=true:=fun h=>hx (by simpa using h)
   by_cases hy:ys=[]
   ·subst hy
    cases List.length_eq_zero_iff.mp hm.symm
    rw[List.append_nil] at q
    exact concat_meets ⟨_,a2,rfl⟩ ⟨_,b2,rfl⟩ noFill_tuple_add seq_tuple_add PySem.F.slot_tuple_add PySem.F.entry_tuple_add (PySem.F.args_tuple_add_2 _ _) (PyProof.Rows.tuple_addW1 _ _ _ _ _ _ _ _ _ _ hx1 rfl) ⟨a2,b2,q.here w (.v (.tup a1 a2 a3))⟩
   ·have hy1:¬ys.toArray.isEmpty=true:=fun h=>hy (by simpa using h)
    refine concat_meets ⟨_,a2,rfl⟩ ⟨_,b2,rfl⟩ noFill_tuple_add seq_tuple_add PySem.F.slot_tuple_add PySem.F.entry_tuple_add (PySem.F.args_tuple_add_2 _ _) (PyProof.Rows.tuple_addW2 _ _ _ _ _ _ _ _ _ _ hx1 hy1 ?_) ⟨a2,b2,?_⟩
    ·rw[List.size_toArray,List.size_toArray,hl,hm];exact Nat.le_trans hz cS
    ·rw[show xs.toArray++ys.toArray=(xs++ys).toArray by simp]
     exact q.tup w (a3.append b3) _
theorem add_strs{l m:List Nat}{r:Own}{x y:Value}(e:addS l m=some r)(ru:Rep g W s.heap (.str l) x)(rv:Rep g W s.heap (.str m) y)(w:WF h0 W s.heap)(q:VAfter g h0 W s (RO g k r) Q):wpAny (model g.prog g.w) A (binaryOp .Add x y) Q Ex s:=
 ifE e fun hz e=>ru.strE fun t hx=>rv.strE fun t' hy=>by
  cases e;cases hx;cases hy
  refine PyProof.Rows.add_str (fun t' tk=>?_) ?_
  ·rw[show strOf l++strOf m=strOf (l++m) from Str.ext' (by simp [strOf,Str.cps_append])]
   exact q.pure w (.v (.str _ _)) _
  ·show (strOf _).cps.size+(strOf _).cps.size≤sizeLine
   simp only[strOf,List.size_toArray]
   exact Nat.le_trans hz cS
theorem g9{l:List V}{b:Int}(h:mulC l b=true):0≤b∧b<100000∧l.length*b.toNat≤100000∧l≠[]:=
 have h1:=a9 h
 have h2:=a9 h1
 ⟨of_decide_eq_true (a9 h2),of_decide_eq_true (aa h2),of_decide_eq_true (aa h1),fun e=>by have:=aa h;rw[e] at this;cases this⟩
theorem mul_fit{l:List V}{xs:List Value}{b:Int}{h:Heap}(hz:mulC l b=true)(r:Reps g W h l xs):xs.toArray.isEmpty=false∧xs.toArray.size*b.toNat≤100000:=by
 have hz:=g9 hz
 have hl:=r.length
 refine⟨?_,by rw[List.size_toArray,hl];exact hz.2.2.1⟩
 cases xs with
 | nil=>exact absurd (List.length_eq_zero_iff.mp hl.symm) hz.2.2.2
 | cons=>rfl
theorem mul_list{l:List V}{i:Int}{x y:Value}(hz:mulC l i=true)(ru:Rep g W s.heap (.list l) x)(rv:Rep g W s.heap (.int i) y)(w:WF h0 W s.heap)(q:VAfter g h0 W s (RO g k (.list (rep i.toNat l))) Q):wpAny (model g.prog g.w) A (binaryOp .Mult x y) Q Ex s:=
 ru.listE fun a xs n hx a1 a2 a3=>rv.intE fun t hy=>by
  cases hx;cases hy
  have ne:=(mul_fit hz a3).1
  have hl:=(mul_fit hz a3).2
  have z0:=(g9 hz).1
  have z1:=(g9 hz).2.1
  refine wpAny_binaryOp_repeat_ref (T:="list") (U:="int") (by decide) ⟨_,a2,rfl⟩ (fun s'=>typeIs_int s' _ _) noFill_list_mul PySem.F.fills_int_mul PySem.F.slot_int_rmul repeat_list PySem.F.slot_int_index.lookup
   (call_meets PySem.F.slot_int_rmul (typeIs_int s _ _) PySem.F.entry_int_rmul (PySem.F.args_int_rmul_2 _ _) (int___rmul___int_list _ _ _ _ _)
    ⟨a2,rfl,⟨_,a2,rfl⟩,call_meets PySem.F.slot_list_mul ⟨_,a2,rfl⟩ PySem.F.entry_list_mul (PySem.F.args_list_mul_2 _ _)
     (AutoListH.list___mul___list_int_3 _ _ _ _ _ ?_ ?_ ?_) ⟨a2,?_⟩⟩)
  ·simp [Builtin.List.listFitsIndex];lia
  ·lia
  ·simp [Builtin.List.listTooLong,sizeLine];simp at hl;lia
  ·rw[ne]
   have e2:(List.foldl (fun x1 x2=>x1++x2) #[] (List.replicate (if false=true then 0 else i.toNat) xs.toArray))=((List.replicate i.toNat xs).flatten).toArray:=by
    apply Array.toList_inj.mp;rw[rep_list];simp
   rw[e2]
   exact q.list w (a3.rep _) _
theorem mul_tup{l:List V}{i:Int}{x y:Value}(hz:mulC l i=true)(ru:Rep g W s.heap (.tup l) x)(rv:Rep g W s.heap (.int i) y)(w:WF h0 W s.heap)(q:VAfter g h0 W s (RO g k (.v (.tup (rep i.toNat l)))) Q):wpAny (model g.prog g.w) A (binaryOp .Mult x y) Q Ex s:=
 ru.tupE fun a xs n hx a1 a2 a3=>rv.intE fun t hy=>by
  cases hx;cases hy
  have ne:=(mul_fit hz a3).1
  have hl:=(mul_fit hz a3).2
  have z0:=(g9 hz).1
  have z1:=(g9 hz).2.1
  refine wpAny_binaryOp_repeat_ref (T:="tuple") (U:="int") (by decide) ⟨_,a2,rfl⟩ (fun s'=>typeIs_int s' _ _) noFill_tuple_mul PySem.F.fills_int_mul PySem.F.slot_int_rmul repeat_tuple PySem.F.slot_int_index.lookup
   (call_meets PySem.F.slot_int_rmul (typeIs_int s _ _) PySem.F.entry_int_rmul (PySem.F.args_int_rmul_2 _ _) (int_rmul_tuple _ _ _ _ _)
    ⟨a2,rfl,⟨_,a2,rfl⟩,?_⟩)
  by_cases i0:i=0
  ·subst i0
   exact call_meets PySem.F.slot_tuple_mul ⟨_,a2,rfl⟩ PySem.F.entry_tuple_mul (PySem.F.args_tuple_mul_2 _ _) (tuple_mul0 _ _ _ _ ne) ⟨a2,q.tup (xs:=[]) (m:=0) w .nil _⟩
  ·by_cases i1:i=1
   ·subst i1
    rw[show rep (Int.toNat 1) l=l from List.append_nil l] at q
    exact call_meets PySem.F.slot_tuple_mul ⟨_,a2,rfl⟩ PySem.F.entry_tuple_mul (PySem.F.args_tuple_mul_2 _ _) (tuple_mul1 _ _ _ _) ⟨a2,q.here w (.v (.tup a1 a2 a3))⟩
   ·refine call_meets PySem.F.slot_tuple_mul ⟨_,a2,rfl⟩ PySem.F.entry_tuple_mul (PySem.F.args_tuple_mul_2 _ _) (tuple_mul2 _ _ _ _ _ ne (by lia) ?_ (by lia)) ⟨a2,?_⟩
    ·have:=Int.toNat_of_nonneg z0
     rw[← this];lia
    ·have e2:(List.foldl (fun x1 x2=>x1++x2) #[] (List.replicate i.toNat xs.toArray))=((List.replicate i.toNat xs).flatten).toArray:=by
      apply Array.toList_inj.mp;rw[rep_list]
     rw[e2]
     exact q.tup w (a3.rep _) _
theorem int_two{u v:V}{i j:Int}{x y:Value}{G:Prop}(hu:vInt u=some i)(hv:vInt v=some j)(ru:Rep g W s.heap u x)(rv:Rep g W s.heap v y)(k:∀ t t',x=.int i t→y=.int j t'→G):G:=by
 rw[aB hu] at ru
 rw[aB hv] at rv
 exact ru.intE fun t hx=>rv.intE fun t' hy=>k t t' hx hy
theorem binop_ok{o:Op}{u v:V}{r:Own}{x y:Value}(e:bH o u v=some r)(ru:Rep g W s.heap u x)(rv:Rep g W s.heap v y)(w:WF h0 W s.heap)(q:VAfter g h0 W s (RO g k r) Q):
  wpAny (model g.prog g.w) A (binaryOp (opOf o) x y) Q Ex s:=by
 cases o with
 | add=>
  exact orE e (fun e=>da e fun i j h1 h2 e=>int_two h1 h2 ru rv fun t t' hx hy=>by cases hx;cases hy;cases e;exact PyProof.Rows.add_int (q.pure w (.v (.int _ _)) _)) fun e=>
   orE e (fun e=>da e fun i j h1 h2 e=>add_list e (bf h1▸ru) (bf h2▸rv) w q) fun e=>
   orE e (fun e=>da e fun i j h1 h2 e=>add_tup e (cU h1▸ru) (cU h2▸rv) w q) fun e=>
   da e fun i j h1 h2 e=>add_strs e (cV h1▸ru) (cV h2▸rv) w q
 | sub=>exact da e fun i j h1 h2 e=>int_two h1 h2 ru rv fun t t' hx hy=>by cases hx;cases hy;cases e;exact PyProof.Rows.sub_int (q.pure w (.v (.int _ _)) _)
 | mul=>
  exact orE e (fun e=>da e fun i j h1 h2 e=>ifE e fun hz e=>by cases e;exact mul_list hz (bf h1▸ru) (aB h2▸rv) w q) fun e=>
   da e fun i j h1 h2 e=>ifE e fun hz e=>by cases e;exact mul_tup hz (cU h1▸ru) (aB h2▸rv) w q
 | mod=>
  exact da e fun i j h1 h2 e=>ifE e fun hz e=>int_two h1 h2 ru rv fun t t' hx hy=>by
   cases hx;cases hy;cases e
   exact PyProof.Rows.mod_int' (of_decide_eq_true (a9 hz)) (q.pure w (.v (.int _ _)) _)
 | fdiv=>
  exact da e fun i j h1 h2 e=>ifE e fun hz e=>int_two h1 h2 ru rv fun t t' hx hy=>by
   cases hx;cases hy;cases e
   exact PyProof.Rows.floordiv_int (of_decide_eq_true (a9 hz)) (q.pure w (.v (.int _ _)) _) (.inl (PyProof.noPylong_small (by have:=of_decide_eq_true (aa hz);lia)))
end
noncomputable def Vw(g:G)(W:Wd)(h:Heap)(v:V)(x:Value):Prop:=∃ r o,o.frz=v∧RepO g W h r o x
section
variable {g:G} {h0:Heap} {W:Wd} {s:Shared} {A:Around} {Q:Value→Shared→Prop} {Ex:Value→Shared→Prop} {k n:Nat} {h:Heap}
theorem Rep.vw{v:V}{x:Value}(r:Rep g W h v x):Vw g W h v x:=⟨fun _=>.frz,.v v,rfl,.v r⟩
theorem RepO.vw{r:Nat→Role}{o:Own}{x:Value}(y:RepO g W h r o x):Vw g W h o.frz x:=⟨r,o,rfl,y⟩
theorem Vw.listE{l:List V}{x:Value}{G:Prop}(y:Vw g W h (.list l) x)(k:∀ a xs n,x=.ref a→h.get? a=some (bO xs n)→Reps g W h l xs→G):G:=by
 obtain ⟨r,o,e,y⟩:=y
 cases y with
 | v a=>exact Rep.listE (e▸a) fun a xs n h1 _ h2 h3=>k a xs n h1 h2 h3
 | list a b c=>cases e;exact k _ _ _ rfl b c
 | _=>cases e
theorem Vw.dictE{l:List (Int×V)}{x:Value}{G:Prop}(y:Vw g W h (.dict l) x)(k:∀ a kvs,x=.ref a→(a==sysModules)=false→h.DictOf (intKind g.prog g.w) a kvs→Repd g W h l kvs→G):G:=by
 obtain ⟨r,o,e,y⟩:=y
 cases y with
 | v a=>exact Rep.dictE (e▸a) fun a kvs h1 z _ h2 h3=>k a kvs h1 z h2 h3
 | dict z a b c=>cases e;exact k _ _ rfl z b c
 | _=>cases e
theorem Vw.sdictE{l:List (List Nat×V)}{x:Value}{G:Prop}(y:Vw g W h (.sdict l) x)(k:∀ a kvs,x=.ref a→(a==sysModules)=false→h.DictOf (strKind g.prog g.w) a kvs→Repsd g W h l kvs→G):G:=by
 obtain ⟨r,o,e,y⟩:=y
 cases y with
 | v a=>exact Rep.sdictE (e▸a) fun a kvs h1 z _ h2 h3=>k a kvs h1 z h2 h3
 | sdict z a b c=>cases e;exact k _ _ rfl z b c
 | _=>cases e
noncomputable def V.plain:V→Bool
 | .list _=>false
 | .dict _=>false
 | .sdict _=>false
 | .inst _ _=>false
 | _=>true
theorem Vw.plain{v:V}{x:Value}(y:Vw g W h v x)(hv:v.plain=true):Rep g W h v x:=by
 obtain ⟨r,o,e,y⟩:=y
 cases y with
 | v a=>exact e▸a
 | _=>subst e;cases hv
theorem Vw.intE{i:Int}{x:Value}{G:Prop}(r:Vw g W h (.int i) x)(k:∀ t,x=.int i t→G):G:=(r.plain rfl).intE k
theorem Vw.strE{s:List Nat}{x:Value}{G:Prop}(r:Vw g W h (.str s) x)(k:∀ t,x=.str (strOf s) t→G):G:=(r.plain rfl).strE k
theorem Vw.tupE{l:List V}{x:Value}{G:Prop}(r:Vw g W h (.tup l) x)(k:∀ a xs n,x=.ref a→h.get? a=some (tObj xs n)→Reps g W h l xs→G):G:=(r.plain rfl).tupE fun a xs n h1 _ h2 h3=>k a xs n h1 h2 h3
theorem cL{l:List V}:∀ {ns:List Int} {xs:List Value},aP l=some ns→Reps g W h l xs→PyProof.Rows.IntsAre xs ns:=by
 induction l with
 | nil=>intro ns xs e r;cases r;cases e;exact .nil
 | cons v l ih=>
  intro ns xs e r
  exact bE e fun i h1 e=>bE e fun ms h2 e=>r.consE fun y ys hx a b=>by
   rw[aB h1] at a
   exact a.intE fun t hy=>by cases hy;cases hx;cases e;exact .cons _ _ (ih h2 b)
theorem intsAre_at{xs:List Value}{ns:List Int}(r:PyProof.Rows.IntsAre xs ns):∀ {j:Nat} {x:Value},xs[j]?=some x→∃ i t,x=.int i t∧ns[j]?=some i:=by
 induction r with
 | nil=>intro j x e;simp at e
 | cons i t r ih=>
  intro j x e
  cases j with
  | zero=>simp at e;subst e;exact⟨_,_,rfl,rfl⟩
  | succ j=>simpa using ih (by simpa using e)
theorem ff{s:Shared}{A:Around}{xs ys:List Value}{ns ms:List Int}(r:PyProof.Rows.IntsAre xs ns)(q:PyProof.Rows.IntsAre ys ms)(j:Nat)(h1:j<xs.toArray.size)(h2:j<ys.toArray.size):
  SeqAt.EqAt A s xs.toArray[j] ys.toArray[j] (ns[j]?.getD 0==ms[j]?.getD 0):=by
 obtain ⟨i,t,e,e'⟩:=intsAre_at r (j:=j) (x:=xs.toArray[j]) (by simp)
 obtain ⟨i2,t2,f,f'⟩:=intsAre_at q (j:=j) (x:=ys.toArray[j]) (by simp)
 rw[e,f,e',f']
 exact SeqAt.EqAt.int_int _ _ _ _
theorem all_eq:∀ {ns ms:List Int},ns.length=ms.length→((List.range ns.length).all fun j=>ns[j]?.getD 0==ms[j]?.getD 0)=(ns==ms)
 | [],[],_=>rfl
 | a::ns,b::ms,e=>by
  rw[List.length_cons,List.range_succ_eq_map,List.all_cons,List.all_map]
  have ih:=all_eq (ns:=ns) (ms:=ms) (by simpa using e)
  show ((a==b)&&_)=_
  rw[show (a::ns==b::ms)=((a==b)&&(ns==ms)) from rfl,← ih]
  congr 1
theorem all_eq_min{ns ms:List Int}:((List.range (min ns.length ms.length)).all (fun j=>ns[j]?.getD 0==ms[j]?.getD 0)&&ns.length==ms.length)=(ns==ms):=by
 by_cases e:ns.length=ms.length
 ·have:=all_eq e
  rw[← e,Nat.min_self,this]
  simp
 ·have:(ns==ms)=false:=by
   rw[beq_eq_false_iff_ne];rintro rfl;exact e rfl
  rw[this,show (ns.length==ms.length)=false from by rw[beq_eq_false_iff_ne];exact e,Bool.and_false]
noncomputable def Cm2(g:G)(A:Around)(s:Shared)(Ex:Value→Shared→Prop)(c d:CmpOp)(x y:Value)(b:Bool):Prop:=
 (∀ Q:Value→Shared→Prop,(∀ t,Q (.bool b) { s with toks:=t })→wpAny (model g.prog g.w) A (compareOp c x y) Q Ex s)∧
 (∀ Q:Value→Shared→Prop,(∀ t,Q (.bool (!b)) { s with toks:=t })→wpAny (model g.prog g.w) A (compareOp d x y) Q Ex s)
noncomputable abbrev EqNe(g:G)(A:Around)(s:Shared)(Ex:Value→Shared→Prop)(x y:Value)(b:Bool):Prop:=Cm2 g A s Ex .Eq .NotEq x y b
theorem strOf_beq(a b:List Nat):(strOf a==strOf b)=(a==b):=by
 by_cases z:a=b
 ·subst z;simp
 ·have:strOf a≠strOf b:=fun w=>z (by have:=congrArg Str.cps w;simpa [strOf] using this)
  rw[beq_eq_false_iff_ne.mpr z,beq_eq_false_iff_ne.mpr this]
theorem eq_ints{i j:Int}{x y:Value}(ru:Vw g W s.heap (.int i) x)(rv:Vw g W s.heap (.int j) y):EqNe g A s Ex x y (i==j):=ru.intE fun t hx=>rv.intE fun t' hy=>by
 subst hx hy;exact⟨fun _ q=>PyProof.Rows.eq_int (q _),fun _ q=>PyProof.Rows.ne_int (by rw[bne];exact q _)⟩
theorem eq_strs{i j:List Nat}{x y:Value}(ru:Vw g W s.heap (.str i) x)(rv:Vw g W s.heap (.str j) y):EqNe g A s Ex x y (i==j):=ru.strE fun t hx=>rv.strE fun t' hy=>by
 subst hx hy;exact⟨fun _ q=>PyProof.Rows.eq_str (by rw[strOf_beq];exact q _),fun _ q=>SeqAt.RcNeAt.str_str (A:=A) (s:=s) _ _ _ _ g.prog g.w Ex _ (by rw[strOf_beq];exact q _)⟩
theorem eq_tups{l m:List V}{b:Bool}{x y:Value}(e:eQ l m=some b)(ru:Vw g W s.heap (.tup l) x)(rv:Vw g W s.heap (.tup m) y)(R:Room A n):EqNe g A s Ex x y b:=
 da e fun ns ms e1 e2 e=>ru.tupE fun a xs u hx a2 a3=>rv.tupE fun a' ys u' hy b2 b3=>by
  subst hx hy
  have i1:=cL e1 a3
  have i2:=cL e2 b3
  have key:((List.range (min xs.toArray.size ys.toArray.size)).all (fun j=>ns[j]?.getD 0==ms[j]?.getD 0)&&xs.toArray.size==ys.toArray.size)=b:=by
   rw[List.size_toArray,List.size_toArray,i1.length,i2.length,all_eq_min];exact Option.some.inj e
  exact⟨fun _ q=>SeqAt.eq_tupleAt (isT a2) (isT b2) R.cline (fun j h1 h2=>ff i1 i2 j h1 h2) (by rw[key];exact q _),
   fun _ q=>SeqAt.RcNeAt.tuples (isT a2) (isT b2) R.cline (fun j h1 h2=>ff i1 i2 j h1 h2) g.prog g.w Ex _ (by rw[key];exact q _)⟩
theorem eq_lists{l m:List V}{b:Bool}{x y:Value}(hl:l.length=m.length)(e:eQ l m=some b)(ru:Vw g W s.heap (.list l) x)(rv:Vw g W s.heap (.list m) y)(R:Room A n):EqNe g A s Ex x y b:=
 da e fun ns ms e1 e2 e=>ru.listE fun a xs u hx a2 a3=>rv.listE fun a' ys u' hy b2 b3=>by
  subst hx hy
  have i1:=cL e1 a3
  have i2:=cL e2 b3
  have hs:xs.toArray.size=ys.toArray.size:=by rw[List.size_toArray,List.size_toArray,a3.length,b3.length,hl]
  have key:(List.range xs.toArray.size).all (fun j=>ns[j]?.getD 0==ms[j]?.getD 0)=b:=by
   rw[List.size_toArray,i1.length,all_eq (by rw[← i1.length,← i2.length];exact hs)];exact Option.some.inj e
  exact⟨fun _ q=>SeqAt.eq_listAt (isL a2) (isL b2) hs R.cline (fun j h1 h2=>ff i1 i2 j h1 h2) (by rw[key];exact q _),
   fun _ q=>SeqAt.RcNeAt.lists (isL a2) (isL b2) hs R.cline (fun j h1 h2=>ff i1 i2 j h1 h2) g.prog g.w Ex _ (by rw[key];exact q _)⟩
theorem eq_lens{l m:List V}{x y:Value}(hl:l.length≠m.length)(ru:Vw g W s.heap (.list l) x)(rv:Vw g W s.heap (.list m) y)(R:Room A n):EqNe g A s Ex x y false:=
 ru.listE fun a xs u hx a2 a3=>rv.listE fun a' ys u' hy b2 b3=>by
  subst hx hy
  have hs:(xs.toArray.size != ys.toArray.size)=true:=by rw[List.size_toArray,List.size_toArray,a3.length,b3.length,bne_iff_ne];exact hl
  exact⟨fun _ q=>SeqAt.eq_list_lengthsAt (isL a2) (isL b2) hs R.cline (q _),fun _ q=>SeqAt.RcNeAt.lists_lengths (isL a2) (isL b2) hs R.cline g.prog g.w Ex _ (q _)⟩
theorem eqv_ok{u v:V}{b:Bool}{x y:Value}(e:u.eqv v=some b)(ru:Vw g W s.heap u x)(rv:Vw g W s.heap v y)(R:Room A n):EqNe g A s Ex x y b:=
 orE e (fun e=>da e fun i j h1 h2 e=>Option.some.inj e▸eq_ints (aB h1▸ru) (aB h2▸rv)) fun e=>
 orE e (fun e=>da e fun i j h1 h2 e=>Option.some.inj e▸eq_strs (cV h1▸ru) (cV h2▸rv)) fun e=>
 orE e (fun e=>da e fun i j h1 h2 e=>eq_tups e (cU h1▸ru) (cU h2▸rv) R) fun e=>da e fun l m h1 h2 e=>by
  have ru:=bf h1▸ru
  have rv:=bf h2▸rv
  by_cases hl:(l.length==m.length)=true
  ·rw[if_pos hl] at e;exact eq_lists (eq_of_beq hl) e ru rv R
  ·rw[if_neg hl] at e;exact Option.some.inj e▸eq_lens (fun z=>hl (beq_iff_eq.mpr z)) ru rv R
theorem dget_eq{K:Type} [BEq K] [LawfulBEq K] {k:K} {v:V} {l:List (K×V)}:db ((k,v)::l) k=some v:=congrArg (Option.map Prod.snd) (List.find?_cons_of_pos (p:=fun p:K×V=>p.1==k) (a:=(k,v)) (beq_self_eq_true k))
theorem dget_ne{K:Type} [BEq K] [LawfulBEq K] {k q:K} {v:V} {l:List (K×V)} (e:k≠q):db ((k,v)::l) q=db l q:=congrArg (Option.map Prod.snd) (List.find?_cons_of_neg (p:=fun p:K×V=>p.1==q) (a:=(k,v)) fun h=>e (eq_of_beq h))
theorem valueAt_eq{K:Type} [DecidableEq K] {k:K} {v:Value} {l:List (K×Value)}:valueAt ((k,v)::l) k=some v:=congrArg (Option.map Prod.snd) (List.find?_cons_of_pos (p:=fun p:K×Value=>decide (p.1=k)) (a:=(k,v)) (decide_eq_true rfl))
theorem valueAt_ne{K:Type} [DecidableEq K] {k q:K} {v:Value} {l:List (K×Value)} (e:k≠q):valueAt ((k,v)::l) q=valueAt l q:=congrArg (Option.map Prod.snd) (List.find?_cons_of_neg (p:=fun p:K×Value=>decide (p.1=q)) (a:=(k,v)) fun h=>e (of_decide_eq_true h))
noncomputable def Fnd(g:G)(W:Wd)(h:Heap)(a:Option V)(b:Option Value):Prop:=(a=Option.none∧b=none)∨∃ v x,a=some v∧b=some x∧Rep g W h v x
theorem Repd.find{l:List (Int×V)}(q:Int):∀ {kvs:List (Int×Value)},Repd g W h l kvs→Fnd g W h (db l q) (valueAt kvs q):=by
 induction l with
 | nil=>intro kvs r;cases r;exact .inl ⟨rfl,rfl⟩
 | cons p l ih=>
  intro kvs r
  cases r with
  | @cons k v x l xs a b=>
   by_cases e:k=q
   ·rw[← e,dget_eq,valueAt_eq];exact .inr ⟨_,_,rfl,rfl,a⟩
   ·rw[dget_ne e,valueAt_ne e];exact ih b
theorem strOf_inj{a b:List Nat}(e:strOf a=strOf b):a=b:=by have:=congrArg Str.cps e;simpa [strOf] using this
theorem Repsd.find{l:List (List Nat×V)}(q:List Nat):∀ {kvs:List (Str×Value)},Repsd g W h l kvs→Fnd g W h (db l q) (valueAt kvs (strOf q)):=by
 induction l with
 | nil=>intro kvs r;cases r;exact .inl ⟨rfl,rfl⟩
 | cons p l ih=>
  intro kvs r
  cases r with
  | @cons k v x l xs a b=>
   by_cases e:k=q
   ·rw[← e,dget_eq,valueAt_eq];exact .inr ⟨_,_,rfl,rfl,a⟩
   ·rw[dget_ne e,valueAt_ne fun z=>e (strOf_inj z)];exact ih b
theorem Fnd.some{a:Option V}{b:Option Value}(f:Fnd g W h a b):b.isSome=a.isSome:=by
 rcases f with ⟨e1,e2⟩ | ⟨v,x,e1,e2,_⟩ <;> rw[e1,e2] <;> rfl
theorem Fnd.get{a:Option V}{b:Option Value}(f:Fnd g W h a b){v:V}{G:Prop}(e:a=Option.some v)(k:∀ x,b=Option.some x→Rep g W h v x→G):G:=by
 rcases f with ⟨e1,e2⟩ | ⟨v',x,e1,e2,r⟩
 ·rw[e1] at e;cases e
 ·rw[e1] at e;cases e;exact k _ e2 r
theorem dget_any{K:Type} [BEq K] (l:List (K×V)) (q:K):(db l q).isSome=l.any fun p=>p.1==q:=by
 unfold db
 rw[Option.isSome_map,Bool.eq_iff_iff,List.find?_isSome,List.any_eq_true]
theorem any_ints{ns:List Int}{xs:List Value}(r:PyProof.Rows.IntsAre xs ns)(q:Int):xs.toArray.any (fun y=>Value.isInt q y)=ns.contains q:=by
 rw[List.any_toArray]
 induction r with
 | nil=>rfl
 | cons i t r ih=>rw[List.any_cons,List.contains_cons,ih];show (i==q||_)=_;rw[show (i==q)=(q==i) from by rw[Bool.eq_iff_iff,beq_iff_eq,beq_iff_eq];exact eq_comm]
theorem ints_mem{ns:List Int}{xs:List Value}(r:PyProof.Rows.IntsAre xs ns):∀ y,y∈xs→∃ i t,y=.int i t:=by
 induction r with
 | nil=>intro y h;cases h
 | cons i t r ih=>intro y h;rcases List.mem_cons.mp h with rfl | h;exact⟨_,_,rfl⟩;exact ih y h
noncomputable abbrev InNo(g:G)(A:Around)(s:Shared)(Ex:Value→Shared→Prop)(x y:Value)(b:Bool):Prop:=Cm2 g A s Ex .In .NotIn x y b
theorem in_dict{i:Int}{l:List (Int×V)}{x y:Value}(ru:Vw g W s.heap (.int i) x)(rv:Vw g W s.heap (.dict l) y):InNo g A s Ex x y (l.any fun p=>p.1==i):=
 ru.intE fun t hx=>rv.dictE fun a kvs hy z hd r=>by
  subst hx hy
  have key:(valueAt kvs i).isSome=l.any fun p=>p.1==i:=by
   rw[← dget_any]
   exact(r.find i).some
  exact⟨fun _ h=>wpAny_in_of (intKind_is _ _ i t) z hd.mapOf (by rw[key];exact h _),fun _ h=>wpAny_notIn_of (intKind_is _ _ i t) z hd.mapOf (by rw[key];exact h _)⟩
theorem in_sdict{i:List Nat}{l:List (List Nat×V)}{x y:Value}(ru:Vw g W s.heap (.str i) x)(rv:Vw g W s.heap (.sdict l) y):InNo g A s Ex x y (l.any fun p=>p.1==i):=
 ru.strE fun t hx=>rv.sdictE fun a kvs hy z hd r=>by
  subst hx hy
  have key:(valueAt kvs (strOf i)).isSome=l.any fun p=>p.1==i:=by
   rw[← dget_any]
   exact(r.find i).some
  exact⟨fun _ h=>wpAny_in_of (strKind_is _ _ _ t) z hd.mapOf (by rw[key];exact h _),fun _ h=>wpAny_notIn_of (strKind_is _ _ _ t) z hd.mapOf (by rw[key];exact h _)⟩
theorem in_ints{ns:List Int}{xs:List Value}(I:PyProof.Rows.IntsAre xs ns)(q:Int)(t:Tok):∀ y,y∈xs.toArray→SeqAt.EqAt A.in1 s y (.int q t) (Value.isInt q y):=fun y hy=>by
 obtain ⟨j,u,rfl⟩:=ints_mem I y (List.mem_toArray.mp hy)
 exact SeqAt.EqAt.int_int _ _ _ _
theorem in_list{i:Int}{l:List V}{ns:List Int}{x y:Value}(e:aP l=some ns)(ru:Vw g W s.heap (.int i) x)(rv:Vw g W s.heap (.list l) y):InNo g A s Ex x y (ns.contains i):=
 ru.intE fun t hx=>rv.listE fun a xs n hy b c=>by
  subst hx hy
  have I:=cL e c
  exact⟨fun _ h=>SeqAt.in_listAt (Value.isInt i) (isL b) (in_ints I i t) (by rw[any_ints I];exact h _),fun _ h=>SeqAt.notIn_listAt (Value.isInt i) (isL b) (in_ints I i t) (by rw[any_ints I];exact h _)⟩
theorem in_tup{i:Int}{l:List V}{ns:List Int}{x y:Value}(e:aP l=some ns)(ru:Vw g W s.heap (.int i) x)(rv:Vw g W s.heap (.tup l) y):InNo g A s Ex x y (ns.contains i):=
 ru.intE fun t hx=>rv.tupE fun a xs n hy b c=>by
  subst hx hy
  have I:=cL e c
  exact⟨fun _ h=>SeqAt.in_tupleAt (Value.isInt i) (isT b) (in_ints I i t) (by rw[any_ints I];exact h _),fun _ h=>SeqAt.notIn_tupleAt (Value.isInt i) (isT b) (in_ints I i t) (by rw[any_ints I];exact h _)⟩
theorem mem_ok{u v:V}{b:Bool}{x y:Value}(e:u.mem v=some b)(ru:Vw g W s.heap u x)(rv:Vw g W s.heap v y):InNo g A s Ex x y b:=
 orE e (fun e=>da e fun i j h1 h2 e=>Option.some.inj e▸in_dict (aB h1▸ru) (eJ h2▸rv)) fun e=>
 orE e (fun e=>da e fun i j h1 h2 e=>Option.some.inj e▸in_sdict (cV h1▸ru) (vSDict_ok h2▸rv)) fun e=>da e fun i j h1 h2 e=>bE e fun ns h3 e=>
 Option.some.inj e▸(vSeq_ok h2).elim (fun h=>in_list h3 (aB h1▸ru) (h▸rv)) fun h=>in_tup h3 (aB h1▸ru) (h▸rv)
noncomputable def cOf:Cmp→CmpOp
 | .eq=>.Eq
 | .ne=>.NotEq
 | .lt=>.Lt
 | .le=>.LtE
 | .gt=>.Gt
 | .ge=>.GtE
 | .isIn=>.In
 | .notIn=>.NotIn
theorem ord_ok{u v:V}{b:Bool}{x y:Value}{f:Int→Int→Bool}{c:CmpOp}(e:(two (vInt u) (vInt v) fun i j=>some (f i j))=some b)(ru:Vw g W s.heap u x)(rv:Vw g W s.heap v y)
  (k:∀ i j t t',(∀ t,Q (.bool (f i j)) { s with toks:=t })→wpAny (model g.prog g.w) A (compareOp c (.int i t) (.int j t')) Q Ex s) (q:∀ t,Q (.bool b) { s with toks:=t }):
  wpAny (model g.prog g.w) A (compareOp c x y) Q Ex s:=
 da e fun i j h1 h2 e=>(aB h1▸ru:Vw g W s.heap (.int i) x).intE fun t hx=>(aB h2▸rv:Vw g W s.heap (.int j) y).intE fun t' hy=>by
  subst hx hy;cases e;exact k i j t t' q
theorem cmp_ok{c:Cmp}{u v:V}{b:Bool}{x y:Value}(e:aH c u v=some b)(ru:Vw g W s.heap u x)(rv:Vw g W s.heap v y)(R:Room A n)(q:∀ t,Q (.bool b) { s with toks:=t }):
  wpAny (model g.prog g.w) A (compareOp (cOf c) x y) Q Ex s:=by
 cases c with
 | eq=>exact(eqv_ok e ru rv R).1 Q q
 | ne=>exact bE e fun d h1 h2=>(eqv_ok h1 ru rv R).2 Q (Option.some.inj h2▸q)
 | lt=>exact ord_ok e ru rv (fun _ _ _ _ q=>PyProof.Rows.lt_int (q _)) q
 | le=>exact ord_ok e ru rv (fun _ _ _ _ q=>PyProof.Rows.le_int (q _)) q
 | gt=>exact ord_ok e ru rv (fun _ _ _ _ q=>PyProof.Rows.gt_int (q _)) q
 | ge=>exact ord_ok e ru rv (fun _ _ _ _ q=>PyProof.Rows.ge_int (q _)) q
 | isIn=>exact(mem_ok e ru rv).1 Q q
 | notIn=>exact bE e fun d h1 h2=>(mem_ok h1 ru rv).2 Q (Option.some.inj h2▸q)
end
open PyProof.Rows (IsTup slot_tuple_getitem entry_tuple_getitem args_tuple_getitem)
theorem clip_le(n:Nat)(i:Int):d6 n i≤n:=by unfold d6;split;lia;split <;> lia
theorem adj(lo hi:Option Int)(n:Nat):Builtin.Slice.sliceAdjust lo hi 1 (n:Int) =
  (((loC n lo:Nat):Int),((hiC n hi:Nat):Int)):=by
 have e:∀ v:Int,(if v<0 then max (v+(n:Int)) 0 else min v (n:Int))=((d6 n v:Nat):Int):=fun v=>by
  unfold d6;split
  ·lia
  ·split <;> lia
 unfold Builtin.Slice.sliceAdjust
 have h1:¬ ((1:Int)<0):=by lia
 simp only[h1,if_false,e]
 cases lo <;> cases hi <;> rfl
theorem hiC_le(n:Nat)(o:Option Int):hiC n o≤n:=by cases o;exact Nat.le_refl _;exact clip_le _ _
theorem places(a b:Nat):Builtin.Slice.slicePlaces (a:Int) (b:Int) 1=b - a:=by
 unfold Builtin.Slice.slicePlaces
 have h1:(1:Int) > 0:=by lia
 simp only[h1,if_true,Int.ediv_one]
 split <;> lia
theorem pick_cut(xs:Array Value)(a b:Nat):((List.range (b - a)).filterMap fun (k:Nat)=>xs[((a:Int)+(k:Int)*1).toNat]?)=(xs.toList.take b).drop a:=by
 have e:(fun (k:Nat)=>xs[((a:Int)+(k:Int)*1).toNat]?)=(fun x=>xs[x]?) ∘ fun x=>a+x:=by
  funext k
  have:((a:Int)+(k:Int)*1).toNat=a+k:=by lia
  simp only[this,Function.comp]
 rw[e,← List.filterMap_map,pick_run xs a (b - a),List.drop_take]
theorem slicePick_cut(xs:List Value)(lo hi:Option Int):slicePick xs.toArray lo hi none=(cut xs lo hi).toArray:=by
 have e:∀ v:Int,max 0 (min (if v<0 then v+(xs.length:Int) else v) (xs.length:Int))=((d6 xs.length v:Nat):Int):=fun v=>by
  unfold d6;split
  ·lia
  ·split <;> lia
 unfold slicePick sliceBounds cut
 have h1:(1:Int) > 0:=by lia
 simp only[Option.getD_none,h1,if_true,List.size_toArray,e]
 have:∀ a b:Nat,(sliceRange (a:Int) (b:Int) 1)=(List.range (b - a)).map (a+·):=sliceRange_one
 cases lo <;> cases hi <;> simp only[] <;>
  (first | rw[show (0:Int)=((0:Nat):Int) from rfl,this] | rw[this]) <;> rw[pick_run,← List.drop_take] <;> rfl
section
variable {g:G} {h0:Heap} {W:Wd} {s:Shared} {A:Around} {Q:Value→Shared→Prop} {Ex:Value→Shared→Prop} {k n:Nat} {h:Heap} {prog:Program} {w:World}
theorem fV{x:Value}{o:Option Int}(p:IsPart x o){Q:Option Int→Shared→Prop}(h:Q o s):wpAny (model prog w) A (Builtin.Slice.slicePartIndex x) Q Ex s:=by
 cases p
 ·exact PyProof.Rows.slicePart_none h
 ·exact PyProof.Rows.slicePart_int h
theorem sliceApplied_is{sl:Addr}{x y:Value}{lo hi:Option Int}{n:Nat}{Q:Int×Int×Nat→Shared→Prop}(hs:s.heap.IsSliceOf sl x y .none)(px:IsPart x lo)(py:IsPart y hi)
  (h:Q (((loC n lo:Nat):Int),1,hiC n hi - loC n lo) s):
  wpAny (model prog w) A (Builtin.Slice.sliceApplied (.ref sl) (pure (n:Int))) Q Ex s:=by
 obtain ⟨os,hos,hcs,hds⟩:=id hs
 unfold Builtin.Slice.sliceApplied Builtin.Slice.sliceFields
 refine wpAny_bind (wpAny_bind (wpAny_field hos hds (x:=x) rfl (wpAny_bind (wpAny_field hos hds (x:=y) rfl (wpAny_bind (wpAny_field hos hds (x:=.none) rfl (wpAny_pure ?_)))))))
 refine wpAny_bind (PyProof.Rows.slicePart_none ?_)
 show wpAny _ _ (if ((1:Int)==0)=true then _ else _) _ _ s
 rw[if_neg (by decide)]
 refine wpAny_bind (fV px (wpAny_bind (fV py (wpAny_bind (wpAny_pure ?_)))))
 show wpAny _ _ (match Builtin.Slice.sliceAdjust lo hi 1 (n:Int) with | (lo,hi)=>pure (lo,(1:Int),Builtin.Slice.slicePlaces lo hi 1)) _ _ s
 rw[adj]
 show wpAny _ _ (pure (_,(1:Int),Builtin.Slice.slicePlaces _ _ 1)) _ _ s
 rw[places]
 exact wpAny_pure h
theorem fi{t sl:Addr}{xs:List Value}{x y:Value}{lo hi:Option Int}{Q:Value→Shared→Prop}(ht:IsTup s.heap t xs.toArray)(hs:s.heap.IsSliceOf sl x y .none)(px:IsPart x lo)(py:IsPart y hi)
  (h:Q (.ref s.heap.objs.size) { s with heap:=s.heap.push { cls:=.type "tuple",data:=.seq (cut xs lo hi).toArray } }) (hw:cut xs lo hi=xs→Q (.ref t) s)
  (hsz:xs.length≤sizeLine):wpAny (model prog w) A (getItem (.ref t) (.ref sl)) Q Ex s:=by
 obtain ⟨os,hos,hcs,hds⟩:=id hs
 have hTs:s.TypeIs (.ref sl) "slice":=⟨os,hos,hcs⟩
 have hT:s.TypeIs (.ref t) "tuple":=ht.typeIs
 unfold getItem
 try with_reducible refine wpAny_holding ?_
 first | refine wpAny_bind (wpAny_pure ?_) | skip
 refine wpAny_bind (wpAny_sequenceKey hT (by decide) ?_)
 refine wpAny_bind (wpAny_callSpecial?_slot (name:=Str.ofString "__getitem__") hT slot_tuple_getitem
  (wpAny_call_entry slot_tuple_getitem hT entry_tuple_getitem ?_ (args_tuple_getitem _ _)))
 show wpAny _ _ (Builtin.Tuple.tupleItemsOf (.ref t) >>= _) _ _ s
 refine wpAny_bind (PyProof.Rows.tupleItemsOf_ ht ?_)
 refine wpAny_bind (wpAny_typeOf hTs ?_)
 rw[if_pos (by decide)]
 rw[show xs.toArray.size=xs.length from List.size_toArray ..]
 refine wpAny_bind (sliceApplied_is hs px py ?_)
 by_cases hz:(((loC xs.length lo:Nat):Int)==0&&(1:Int)==1&&(hiC xs.length hi - loC xs.length lo)==xs.length)=true
 ·show wpAny _ _ (if (((loC xs.length lo:Nat):Int)==0&&(1:Int)==1&&(hiC xs.length hi - loC xs.length lo)==xs.length)=true then _ else _) _ _ s
  rw[if_pos hz]
  refine wpAny_bind (m:=Builtin.Tuple.tupleIsExact _) (wpAny_bind (wpAny_typeOf hT (wpAny_pure ?_)))
  rw[if_pos (by decide)]
  simp only[Bool.and_eq_true,beq_iff_eq] at hz
  have hc:cut xs lo hi=xs:=by
   unfold cut
   have:=hiC_le xs.length hi
   rw[show loC xs.length lo=0 by omega,show hiC xs.length hi=xs.length by omega];simp
  exact wpAny_bind (wpAny_rule (wpAny_pure ⟨_,rfl,wpAny_pure (hw hc)⟩))
 ·show wpAny _ _ (if (((loC xs.length lo:Nat):Int)==0&&(1:Int)==1&&(hiC xs.length hi - loC xs.length lo)==xs.length)=true then _ else _) _ _ s
  rw[if_neg hz,pick_cut]
  show wpAny _ _ (Builtin.Tuple.tupleExact _ >>= _) _ _ s
  refine wpAny_bind (m:=Builtin.Tuple.tupleExact _) (wpAny_newObj_type (wpAny_pure ⟨_,rfl,wpAny_pure h⟩) ?_)
  show (cut xs lo hi).toArray.size≤sizeLine
  unfold cut
  simp
  omega
end
open PyProof.Rows (IsTup slot_tuple_getitem entry_tuple_getitem args_tuple_getitem IntsAre)
section
variable {g:G} {h0:Heap} {W:Wd} {s:Shared} {A:Around} {Q:Value→Shared→Prop} {Ex:Value→Shared→Prop} {k n:Nat} {h:Heap} {prog:Program} {w:World}
theorem place_at{m:Nat}{i:Int}{j:Nat}(e:place m i=some j):m≤cap∧j<m∧seqIndex? i m=some j∧((0≤i∧i<m∧j=i.toNat)∨(i<0∧-(m:Int)≤i∧j=(i+m).toNat)):=by
 refine ifE e fun hc e=>?_
 by_cases h:0≤i
 ·rw[if_pos h] at e
  refine ifE e fun h2 e=>?_
  cases e
  exact⟨hc,by lia,seqIndex_of h h2,.inl ⟨h,h2,rfl⟩⟩
 ·rw[if_neg h] at e
  refine ifE e fun h2 e=>?_
  cases e
  refine⟨hc,by lia,?_,.inr ⟨by lia,by lia,rfl⟩⟩
  unfold seqIndex?
  have h1:i<0:=by lia
  simp only[h1,if_true]
  rw[if_pos (by simp;lia)]
theorem gh:typeLookup (.type "dict") "__getitem__"=pure (some (.builtin "dict.__getitem__")):=PySem.F.slot_dict_getitem.lookup
theorem fk:typeLookup (.type "tuple") "__getitem__"=pure (some (.builtin "tuple.__getitem__")):=slot_tuple_getitem.lookup
theorem cap63{n:Nat}(h:n≤cap):(n:Int)<2 ^ 63:=Int.lt_of_le_of_lt (Int.ofNat_le.mpr h) (by decide)
noncomputable abbrev Sub(g:G)(A:Around)(s:Shared)(Q:Value→Shared→Prop)(Ex:Value→Shared→Prop)(x y:Value):Prop:=SubscriptOn (model g.prog g.w) A x y Q Ex s
theorem item_list_ok{l:List V}{i:Int}{r:V}{x y:Value}(e:((place l.length i).bind fun j=>l[j]?)=some r)(ru:Vw g W s.heap (.list l) x)(rk:Rep g W s.heap (.int i) y)(q:∀ z t,Rep g W s.heap r z→Q z { s with toks:=t }):Sub g A s Q Ex x y:=
 bE e fun j e1 e2=>ru.listE fun a xs m hx b c=>rk.intE fun t hy=>by
  subst hx hy
  obtain ⟨z,e3,rz⟩:=c.get e2
  have p:=place_at e1
  rw[← c.length] at p
  have p0:xs.length≤100000:=p.1
  have e3:xs.toArray[j]?=some z:=by simpa using e3
  refine⟨"list",_,list_getitem_lookup,(isL b).typeIs,?_⟩
  refine p.2.2.2.elim (fun p=>?_) fun p=>?_
  ·rw[p.2.2] at e3
   exact wpAny_getItem_list (isL b) p.1 (Int.lt_of_lt_of_le p.2.1 (Int.le_trans (Int.ofNat_le.mpr p0) (by decide))) e3 (q _ _ rz)
  ·rw[p.2.2] at e3
   exact wpAny_getItem_list_neg (isL b) p.1 p.2.1 (Int.le_trans (by lia) p.2.1) e3 (q _ _ rz)
theorem place_fit{i:Int}{n j:Nat}(hn:n≤100000)(h:0≤i∧i<n∧j=i.toNat∨i<0∧-n≤i∧j=(i+n).toNat):-100000≤i∧i<100000:=
 h.elim (fun h=>⟨Int.le_trans (by decide) h.1,Int.lt_of_lt_of_le h.2.1 (Int.ofNat_le.mpr hn)⟩) fun h=>⟨Int.le_trans (Int.neg_le_neg (Int.ofNat_le.mpr hn)) h.2.1,Int.lt_trans h.1 (by decide)⟩
theorem item_tup_ok{l:List V}{i:Int}{r:V}{x y:Value}(e:((place l.length i).bind fun j=>l[j]?)=some r)(ru:Vw g W s.heap (.tup l) x)(rk:Rep g W s.heap (.int i) y)(q:∀ z t,Rep g W s.heap r z→Q z { s with toks:=t }):Sub g A s Q Ex x y:=
 bE e fun j e1 e2=>ru.tupE fun a xs m hx b c=>rk.intE fun t hy=>by
  subst hx hy
  obtain ⟨z,e3,rz⟩:=c.get e2
  have p:=place_at e1
  rw[← c.length] at p
  have p0:xs.length≤100000:=p.1
  have p3:-100000≤i∧i<100000:=place_fit p0 p.2.2.2
  exact⟨"tuple",_,fk,(isT b).typeIs,PyProof.Rows.getItem_tuple (isT b) (Int.le_trans (by decide) p3.1) (Int.lt_trans p3.2 (by decide)) p.2.2.1 (by simpa using e3) (q _ _ rz)⟩
theorem item_ok{u kv r:V}{x y:Value}(e:u.item kv=some r)(ru:Vw g W s.heap u x)(rk:Rep g W s.heap kv y)(q:∀ z t,Rep g W s.heap r z→Q z { s with toks:=t }):
  SubscriptOn (model g.prog g.w) A x y Q Ex s:=
 orE e (fun e=>da e fun l i h1 h2 e=>(vSeq_ok h1).elim (fun h=>item_list_ok e (h▸ru) (aB h2▸rk) q) fun h=>item_tup_ok e (h▸ru) (aB h2▸rk) q) fun e=>
 orE e (fun e=>da e fun l i h1 h2 e=>(eJ h1▸ru:Vw g W s.heap (.dict l) x).dictE fun a kvs hx z hd c=>(aB h2▸rk:Rep g W s.heap (.int i) y).intE fun t hy=>by
   subst hx hy
   exact(c.find i).get e fun x e2 rz=>⟨"dict",_,gh,hd.typeIs,wpAny_getItem_of (intKind_is _ _ _ _) hd.mapOf e2 (q _ _ rz)⟩) fun e=>
 da e fun l i h1 h2 e=>(vSDict_ok h1▸ru:Vw g W s.heap (.sdict l) x).sdictE fun a kvs hx z hd c=>(cV h2▸rk:Rep g W s.heap (.str i) y).strE fun t hy=>by
   subst hx hy
   exact(c.find i).get e fun x e2 rz=>⟨"dict",_,gh,hd.typeIs,wpAny_getItem_of (strKind_is _ _ _ _) hd.mapOf e2 (q _ _ rz)⟩
theorem Reps.cut{l:List V}{xs:List Value}(c:Reps g W h l xs)(lo hi:Option Int):Reps g W h (cut l lo hi) (Mine.cut xs lo hi):=by
 unfold Mine.cut;rw[c.length];exact(c.take _).drop _
theorem VAfter.mono{P:Wd→Heap→Value→Prop}{h1:Heap}{t1:Nat}{W1:Wd}(q:VAfter g h0 W s P Q)(S:Grow W s.heap W1 h1):VAfter g h0 W1 { s with heap:=h1,toks:=t1 } P Q:=
 fun W' h' t' x S' w' p=>q W' h' t' x (S.trans S') w' p
noncomputable abbrev slO(vl vu:Value):Obj:={ cls:=.type "slice",data:=.fields #[vl,vu,.none] }
theorem slice_ok{u:V}{lo hi:Option Int}{r:Own}{x vl vu:Value}(e:u.slice lo hi=some r)(ru:Vw g W s.heap u x)(pl:IsPart vl lo)(pu:IsPart vu hi)(w:WF h0 W s.heap)(q:VAfter g h0 W s (RO g k r) Q):
  SubscriptOn (model g.prog g.w) A x (.ref s.heap.objs.size) Q Ex { s with heap:=s.heap.push (slO vl vu) }:=by
 have S1:Grow W s.heap W (s.heap.push (slO vl vu)):=ay fun _ _ z=>Heap.get?_push_of_some _ z
 have w1:WF h0 W (s.heap.push (slO vl vu)):=w.grow fun _ _ z=>Heap.get?_push_of_some _ z
 have q1:=q.mono (t1:=s.toks) S1
 exact orE e (fun e=>bE e fun l h1 e=>shortE e fun hz e=>(bf h1▸ru:Vw g W s.heap (.list l) x).listE fun a xs m hx b c=>by
   subst hx e
   exact⟨"list",_,list_getitem_lookup,((isL b).push _).typeIs,wpAny_getItem_list_slice ((isL b).push _) (Heap.IsSliceOf.new ..) pl pu .none (by simp)
    (by rw[slicePick_cut];exact q1.list (m:=0) w1 ((c.cut lo hi).grow S1) _) (by rw[List.size_toArray,c.length];exact Nat.le_trans hz cS)⟩)
  fun e=>bE e fun l h1 e=>shortE e fun hz e=>((cU h1▸ru:Vw g W s.heap (.tup l) x).plain rfl).tupE fun a xs m hx a1 b c=>by
   subst hx e
   have b':=Heap.get?_push_of_some (slO vl vu) b
   have c':=(c.cut lo hi).grow S1
   exact⟨"tuple",_,fk,(isT b').typeIs,fi (isT b') (Heap.IsSliceOf.new ..) pl pu (q1.tup (m:=0) w1 c' _) (fun hc=>q1.here w1 (.v (.tup a1 b' (hc▸c')))) (by rw[c.length];exact Nat.le_trans hz cS)⟩
theorem Repd.length{l:List (Int×V)}:∀ {kvs:List (Int×Value)},Repd g W h l kvs→kvs.length=l.length:=by
 induction l with
 | nil=>intro kvs c;cases c;rfl
 | cons p l ih=>intro kvs c;cases c with | cons a b=>exact congrArg Nat.succ (ih b)
theorem len_ok{u:V}{m:Nat}{x:Value}(e:u.len=some m)(ru:Vw g W s.heap u x)(q:∀ t t',Q (.int m t) { s with toks:=t' }):wpAny (model g.prog g.w) A (call (.builtin "len") [x]) Q Ex s:=
 orE e (fun e=>bE e fun l h1 e=>shortE e fun hz e=>(vSeq_ok h1).elim
  (fun h=>(h▸ru:Vw g W s.heap (.list l) x).listE fun a xs n hx b c=>by
   subst hx e
   rw[← c.length] at hz q
   exact Calls.call_function_entry kind_len plain_len entry_len (args_len1 _) (wpAny_len_body_list (isL b) (cap63 hz) (q _ _)))
  fun h=>(h▸ru:Vw g W s.heap (.tup l) x).tupE fun a xs n hx b c=>by
   subst hx e
   rw[← c.length] at hz q
   exact PyProof.Rows.len_tuple (isT b) (cap63 hz) (q _ _))
 fun e=>bE e fun l h1 e=>shortE e fun hz e=>(eJ h1▸ru:Vw g W s.heap (.dict l) x).dictE fun a kvs hx z hd c=>by
   subst hx e
   rw[← c.length] at hz q
   exact Calls.call_function_entry kind_len plain_len entry_len (args_len1 _) (wpAny_len_body_dict z hd (cap63 hz) (q _ _))
theorem Vw.noneI{u:V}{b:Bool}{x:Value}(e:u.isNone=some b)(ru:Vw g W h u x):(x=.none∧b=true)∨(plainIs x .none=true∧x≠.none∧b=false):=by
 obtain ⟨r,o,eo,y⟩:=ru
 cases y with
 | v a=>rw[← eo] at e;cases a <;> first | (cases e;done) | exact .inl ⟨rfl,(Option.some.inj e).symm⟩ | exact .inr ⟨rfl,nofun,(Option.some.inj e).symm⟩
 | _=>subst eo;exact .inr ⟨rfl,nofun,(Option.some.inj e).symm⟩
theorem isNone_ok{u:V}{b:Bool}{x:Value}(e:u.isNone=some b)(ru:Vw g W s.heap u x):(∀ Q:Value→Shared→Prop,(∀ t,Q (.bool b) { s with toks:=t })→wpAny (model g.prog g.w) A (compareOp .Is x .none) Q Ex s)∧
  (∀ Q:Value→Shared→Prop,(∀ t,Q (.bool (!b)) { s with toks:=t })→wpAny (model g.prog g.w) A (compareOp .IsNot x .none) Q Ex s):=
 (ru.noneI e).elim (fun h=>by rw[h.1,h.2];exact⟨fun _ q=>wpAny_is_self rfl (q _),fun _ q=>wpAny_isNot_self rfl (q _)⟩)
  fun h=>by rw[h.2.2];exact⟨fun _ q=>wpAny_is_other h.1 h.2.1 (q _),fun _ q=>wpAny_isNot_other h.1 h.2.1 (q _)⟩
end
open PyProof.Rows (IntsAre)
theorem eR(x:Int):∀ l:List Int,(Mine.insert x l).Perm (x::l)
 | []=>.refl _
 | y::r=>by
  unfold Mine.insert
  split
  ·exact .refl _
  ·exact(List.Perm.cons _ (eR x r)).trans (List.Perm.swap x y r)
theorem isort_perm:∀ l:List Int,(eC l).Perm l
 | []=>.refl _
 | x::r=>(eR x _).trans (List.Perm.cons _ (isort_perm r))
theorem fs(x:Int):∀ l:List Int,l.Pairwise (·≤·)→(Mine.insert x l).Pairwise (·≤·)
 | [],_=>by simp [Mine.insert]
 | y::r,h=>by
  unfold Mine.insert
  rw[List.pairwise_cons] at h
  split
  ·rw[List.pairwise_cons,List.pairwise_cons]
   exact⟨fun z hz=>by rcases List.mem_cons.mp hz with rfl | hz;assumption;exact Int.le_trans (by assumption) (h.1 z hz),h⟩
  ·rw[List.pairwise_cons]
   refine⟨fun z hz=>?_,fs x r h.2⟩
   rcases List.mem_cons.mp ((eR x r).mem_iff.mp hz) with rfl | hz
   ·lia
   ·exact h.1 z hz
theorem gc:∀ l:List Int,(eC l).Pairwise (·≤·)
 | []=>.nil
 | x::r=>fs x _ (gc r)
theorem fm:∀ {l m:List Int},l.Perm m→l.Pairwise (·≤·)→m.Pairwise (·≤·)→l=m
 | [],m,p,_,_=>by rw[List.nil_perm.mp p]
 | a::l,[],p,_,_=>by have:=p.length_eq;simp at this
 | a::l,b::m,p,h1,h2=>by
  rw[List.pairwise_cons] at h1 h2
  have ab:a≤b:=by
   rcases List.mem_cons.mp (p.mem_iff.mpr (List.mem_cons_self ..):b∈a::l) with e | e
   ·lia
   ·exact h1.1 b e
  have ba:b≤a:=by
   rcases List.mem_cons.mp (p.mem_iff.mp (List.mem_cons_self ..):a∈b::m) with e | e
   ·lia
   ·exact h2.1 a e
  have:a=b:=by lia
  subst this
  rw[fm (List.Perm.cons_inv p) h1.2 h2.2]
section
variable {g:G} {h0:Heap} {W:Wd} {s:Shared} {A:Around} {Q:Value→Shared→Prop} {Ex:Value→Shared→Prop} {k n:Nat} {h:Heap} {prog:Program} {w:World}
theorem ints_rep{xs:List Value}{ns:List Int}(r:IntsAre xs ns):Reps g W h (ns.map V.int) xs:=by
 induction r with
 | nil=>exact .nil
 | cons i t r ih=>exact .cons (.int i t) ih
theorem ints_items{xs:List Value}{ns:List Int}(r:IntsAre xs ns):∃ ys:Array (Int×Tok),xs.toArray=intItems ys∧ys.toList.map (·.1)=ns:=by
 induction r with
 | nil=>exact⟨#[],by simp [intItems],rfl⟩
 | cons i t r ih=>
  obtain ⟨ys,e1,e2⟩:=ih
  refine⟨((i,t)::ys.toList).toArray,?_,by simp [e2]⟩
  apply Array.toList_inj.mp
  have:=congrArg Array.toList e1
  simp [intItems] at this ⊢
  exact this
theorem eN(ns:List Int)(f:Nat→Int)(hf:∀ j,f j=(ns[j]?).getD 0):∀ j,preSum f j=(ns.take j).sum
 | 0=>by simp [preSum]
 | j+1=>by
  rw[preSum,eN ns f hf j,List.take_add_one,hf]
  cases ns[j]? <;> simp
theorem sum_bound:∀ {ns:List Int},(ns.all fun i=>decide (0≤i∧i≤100000))=true→0≤ns.sum∧ns.sum≤100000*ns.length
 | [],_=>by simp
 | a::ns,h=>by
  rw[List.all_cons,Bool.and_eq_true,decide_eq_true_eq] at h
  have:=sum_bound h.2
  simp only[List.sum_cons,List.length_cons]
  omega
theorem VAfter.put{P:Wd→Heap→Value→Prop}(q:VAfter g h0 W s P Q)(w:WF h0 W s.heap){h':Heap}{a:Addr}{o:Obj}(r:Role)(ha:s.heap.get? a=none)(hk:∀ b o,s.heap.get? b=some o→h'.get? b=some o)(ho:h'.get? a=some o)
  (p:Grow W s.heap (put W a r) h'→P (put W a r) h' (.ref a)) (t:Nat):Q (.ref a) { s with heap:=h',toks:=t }:=
 q _ _ t _ (grow_put ha hk) (w.put ha hk ho) (p (grow_put ha hk))
theorem VAfter.lput(q:VAfter g h0 W s (RO g k (.list l)) Q)(w:WF h0 W s.heap){h':Heap}{a:Addr}{xs:List Value}{m:Nat}(ha:s.heap.get? a=none)(hk:∀ b o,s.heap.get? b=some o→h'.get? b=some o)
  (ho:h'.get? a=some (bO xs m)) (r:Reps g W s.heap l xs) (t:Nat):Q (.ref a) { s with heap:=h',toks:=t }:=
 q.put w (.tmp k 0) ha hk ho (fun S=>.list bh ho (r.grow S)) t
theorem VAfter.keep{P:Wd→Heap→Value→Prop}(q:VAfter g h0 W s P Q)(w:WF h0 W s.heap){h':Heap}{x:Value}(hk:∀ b o,s.heap.get? b=some o→h'.get? b=some o)(p:P W h' x)(t:Nat):Q x { s with heap:=h',toks:=t }:=
 q _ _ t _ (ay hk) (w.grow hk) p
theorem VAfter.bk{a r:Own}(q:VAfter g h0 W s (RO g k r) Q)(e:some a=some r):VAfter g h0 W s (RO g k a) Q:=Option.some.inj e▸q
theorem bool_at{l:List V}:∀ {bs:List Bool} {xs:List Value},dk l=some bs→Reps g W h l xs→∀ (i:Nat) (v:Value),xs.toArray[i]?=some v→v=.bool ((bs[i]?).getD true):=by
 induction l with
 | nil=>intro bs xs e r i v hv;cases r;cases hv
 | cons u l ih=>
  intro bs xs e r i v hv
  exact bE e fun b h1 e=>bE e fun ms h2 e=>r.consE fun y ys hx a c=>by
   rw[vBool_ok h1] at a
   cases a.boolE
   cases hx
   cases e
   cases i with
   | zero=>cases hv;rfl
   | succ i=>exact ih h2 c i v (by simpa using hv)
theorem boolsOf_len{l:List V}:∀ {bs:List Bool},dk l=some bs→bs.length=l.length:=by
 induction l with
 | nil=>intro bs e;cases e;rfl
 | cons u l ih=>intro bs e;exact bE e fun b h1 e=>bE e fun ms h2 e=>by cases e;exact congrArg Nat.succ (ih h2)
theorem all_range:∀ bs:List Bool,((List.range bs.length).all fun i=>(bs[i]?).getD true)=bs.all id
 | []=>rfl
 | b::bs=>by
  rw[List.length_cons,List.range_succ_eq_map,List.all_cons,List.all_map,List.all_cons,← all_range bs]
  rfl
theorem iter_list{Q:Value→Shared→Prop}{l:Addr}{items:Array Value}(hl:s.heap.IsList l items)
  (h:∀ s₂:Shared,s₂={ s with heap:=s.heap.push { cls:=.type "list_iterator",data:=.fields #[.ref l,.int 0 0] } }→
   (s₂.heap.IsListIter s.heap.objs.size l 0∧s₂.heap.IsList l items)→(∀ b∈[s.heap.objs.size,l],b<s₂.heap.objs.size)→l≠s.heap.objs.size→Q (.ref s.heap.objs.size) s₂):
  wpAny (model prog w) A (pyIter (.ref l)) Q Ex s:=by
 have hlt:l<s.heap.objs.size:=by obtain ⟨_,e,_⟩:=hl;exact Heap.lt_size e
 refine wpAny_pyIter_list hl (h _ rfl ⟨⟨_,Heap.get?_push_size _ rfl,rfl,rfl⟩,hl.push _⟩ (fun b hb=>?_) (Nat.ne_of_lt hlt))
 show b<(s.heap.push _).objs.size
 rw[Heap.size_push]
 rcases List.mem_cons.mp hb with rfl | hb
 ·exact Nat.lt_succ_self _
 ·rcases List.mem_cons.mp hb with rfl | hb
  ·exact Nat.lt_succ_of_lt hlt
  ·cases hb
noncomputable def primFn:Prim→Value
 | .sorted=>.builtin "sorted"
 | .sum=>.builtin "sum"
 | .all=>.builtin "all"
 | .str=>.type "str"
 | .abs=>.builtin "abs"
 | .isStr=>.builtin "isinstance"
 | .list=>.type "list"
noncomputable def primArgs(p:Prim)(x:Value):List Value:=match p with
 | .isStr=>[x,.type "str"]
 | _=>[x]
theorem digit_str{i:Int}(h:0≤i∧i<10):(↑(toString i):Str)=strOf [48+i.toNat]:=by
 obtain ⟨n,rfl⟩:=Int.eq_ofNat_of_zero_le h.1
 have:∀ n:Fin 10,(↑(toString ((n.val:Nat):Int)):Str)=strOf [48+((n.val:Nat):Int).toNat]:=by decide +kernel
 exact this ⟨n,Int.ofNat_lt.mp h.2⟩
noncomputable abbrev f6(g:G)(A:Around)(s:Shared)(Q:Value→Shared→Prop)(Ex:Value→Shared→Prop)(p:Prim)(x:Value):Prop:=wpAny (model g.prog g.w) A (call (primFn p) (primArgs p x)) Q Ex s
theorem sorted_run{l:List V}{ns:List Int}{x:Value}(hz:l.length<64)(e:aP l=some ns)(ru:Vw g W s.heap (.list l) x)(w:WF h0 W s.heap)(q:VAfter g h0 W s (RO g k (.list ((eC ns).map .int))) Q):f6 g A s Q Ex .sorted x:=
 ru.listE fun a xs m hx b c=>by
  subst hx
  refine PyProof.Rows.sorted_ints (isL b) (cL e c) (by rw[c.length];exact hz) fun out ns' I' hp hs=>?_
  obtain ⟨ee,ho⟩:=PyProof.Rows.sortedAll_at s.heap xs out
  rw[fm (hp.trans (isort_perm ns).symm) hs (gc ns)] at I'
  exact q.lput w (t:=s.toks) (Heap.get?_none_of_le (Nat.le_succ _)) (fun _ _ z=>PyProof.Rows.sortedAll_old z) (xs:=out.toList) (m:=ee) ho (ints_rep I')
theorem small_all{ns:List Int}(hb:(ns.all fun i=>decide (0≤i∧i≤100000))=true){j:Nat}(hj:j<ns.length):0≤(ns[j]?).getD 0∧(ns[j]?).getD 0≤100000:=by
 rw[List.getElem?_eq_getElem hj]
 exact of_decide_eq_true (List.all_eq_true.mp hb _ (List.getElem_mem hj))
theorem small_take{ns:List Int}(hl:ns.length≤100000)(hb:(ns.all fun i=>decide (0≤i∧i≤100000))=true)(j:Nat):0≤(ns.take j).sum∧(ns.take j).sum≤10000000000:=by
 have h1:((ns.take j).all fun i=>decide (0≤i∧i≤100000))=true:=List.all_eq_true.mpr fun z hz=>List.all_eq_true.mp hb z (List.mem_of_mem_take hz)
 have:=sum_bound h1
 have h2:(ns.take j).length≤ns.length:=List.length_take_le' ..
 lia
theorem sum_run{l:List V}{ns:List Int}{x:Value}(hz:l.length≤cap)(e:aP l=some ns)(hb:(ns.all fun i=>decide (0≤i∧i≤100000))=true)(ru:Vw g W s.heap (.list l) x)(w:WF h0 W s.heap)(hh:A.handled=none)
  (q:VAfter g h0 W s (RO g k (.v (.int ns.sum))) Q):f6 g A s Q Ex .sum x:=
 ru.listE fun a xs m hx b c=>by
  subst hx
  have I:=cL e c
  obtain ⟨ys,y1,y2⟩:=ints_items I
  have hn:∀ j,numAt ys j=(ns[j]?).getD 0:=fun j=>by unfold numAt;rw[← y2];simp
  have hl:ns.length≤100000:=by rw[← I.length,c.length];exact hz
  have hsz:ys.size=ns.length:=by rw[← y2];simp
  refine sum_intList (xs:=ys) hh (y1▸isL b) (fun j hj=>?_) fun h' tk t' hk=>?_
  ·rw[hn,eN ns _ hn]
   have h1:=small_all hb (hsz▸hj)
   have h2:=small_take hl hb (j+1)
   exact⟨⟨by lia,by lia⟩,by lia,by lia⟩
  ·rw[eN ns _ hn,hsz,List.take_length]
   exact q.keep w hk (.v (.int _ _)) _
theorem all_run{l:List V}{bs:List Bool}{x:Value}(e1:dk l=some bs)(ru:Vw g W s.heap (.list l) x)(w:WF h0 W s.heap)(hh:A.handled=none)(q:VAfter g h0 W s (RO g k (.v (.bool (bs.all id)))) Q):f6 g A s Q Ex .all x:=
 ru.listE fun a xs m hx b c=>by
  subst hx
  have hlen:xs.toArray.size=bs.length:=by rw[List.size_toArray,c.length,boolsOf_len e1]
  refine call_all_walk (iter_list (isL b) fun s₂ e st hfp hlI=>?_)
  subst e
  refine⟨_,_,_,_,_,_,fun i=>(bs[i]?).getD true,rfl,Walks.list (A:=A.in1) hh _ a hlI xs.toArray,st,fun i v s Q E hv hQ=>?_,fun h' tk hk=>?_⟩
  ·rw[bool_at e1 c i v hv];exact wpAny_truthy_bool hQ
  ·rw[hlen,all_range]
   exact q.keep w (old_kept hk) (.v (.bool _)) _
theorem str_run{i:Int}{x:Value}(hz:0≤i∧i<10)(ru:Vw g W s.heap (.int i) x)(w:WF h0 W s.heap)(q:VAfter g h0 W s (RO g k (.v (.str [48+i.toNat]))) Q):f6 g A s Q Ex .str x:=
 ru.intE fun t hx=>by
  subst hx
  refine PySem.P.str_of_int ?_ (by rw[digit_str hz];exact q.pure w (.v (.str _ _)) _)
  by_cases z:i.natAbs=0
  ·rw[z];decide
  ·exact(Nat.log2_lt z).mpr (Nat.lt_of_lt_of_le (show i.natAbs<2 ^ 4 by lia) (Nat.pow_le_pow_right (by decide) (by decide)))
theorem abs_run{i:Int}{x:Value}(ru:Vw g W s.heap (.int i) x)(w:WF h0 W s.heap)(q:VAfter g h0 W s (RO g k (.v (.int i.natAbs))) Q):f6 g A s Q Ex .abs x:=
 ru.intE fun t hx=>by
  subst hx
  refine PyProof.Rows.call_abs_int fun u tk=>?_
  rw[show (if i<0 then -i else i)=(i.natAbs:Int) by split <;> omega]
  exact q.pure w (.v (.int _ _)) _
theorem list_run{l:List V}{x:Value}(hz:l.length≤cap)(ru:Vw g W s.heap (.list l) x)(w:WF h0 W s.heap)(q:VAfter g h0 W s (RO g k (.list l)) Q):f6 g A s Q Ex .list x:=
 ru.listE fun a xs m hx b c=>by
  subst hx
  exact call_list_seq a (.inl rfl) b rfl rfl (fun h' c' hk ho=>q.lput w (t:=s.toks) (c3 _) hk (xs:=xs) ho c) (by rw[List.size_toArray,c.length];exact Nat.le_trans hz cS)
theorem isS_run{l:List Nat}{x:Value}(ru:Vw g W s.heap (.str l) x)(w:WF h0 W s.heap)(q:VAfter g h0 W s (RO g k (.v (.bool true))) Q):f6 g A s Q Ex .isStr x:=
 ru.strE fun t hx=>by subst hx;exact IsiPair.str_str (q.here w (.v (.bool _)))
theorem isT_run{l:List V}{x:Value}(ru:Vw g W s.heap (.tup l) x)(w:WF h0 W s.heap)(q:VAfter g h0 W s (RO g k (.v (.bool false))) Q):f6 g A s Q Ex .isStr x:=
 ru.tupE fun a xs m hx b c=>by subst hx;exact IsiPair.tuple_str b rfl (q.pure w (.v (.bool _)) _)
theorem prim_ok{p:Prim}{u:V}{r:Own}{x:Value}(e:prim p u=some r)(ru:Vw g W s.heap u x)(w:WF h0 W s.heap)(hh:A.handled=none)(q:VAfter g h0 W s (RO g k r) Q):
  wpAny (model g.prog g.w) A (call (primFn p) (primArgs p x)) Q Ex s:=by
 cases p with
 | sorted=>exact bE e fun l h1 e=>ifE e fun hz e=>bE e fun ns h2 e=>have q:=q.bk e;sorted_run hz h2 (bf h1▸ru) w q
 | sum=>exact bE e fun l h1 e=>ifE e fun hz e=>bE e fun ns h2 e=>ifE e fun hb e=>have q:=q.bk e;sum_run hz h2 hb (bf h1▸ru) w hh q
 | all=>exact bE e fun l h1 e=>ifE e fun hz e=>bE e fun ns h2 e=>have q:=q.bk e;all_run h2 (bf h1▸ru) w hh q
 | str=>exact bE e fun l h1 e=>ifE e fun hz e=>have q:=q.bk e;str_run hz (aB h1▸ru) w q
 | abs=>exact bE e fun i h1 e=>have q:=q.bk e;abs_run (aB h1▸ru) w q
 | list=>exact bE e fun l h1 e=>ifE e fun hz e=>have q:=q.bk e;list_run hz (bf h1▸ru) w q
 | isStr=>exact orE e (fun e=>bE e fun l h1 e=>have q:=q.bk e;isS_run (cV h1▸ru) w q) fun e=>bE e fun l h1 e=>have q:=q.bk e;isT_run (cU h1▸ru) w q
theorem rangeL_get{lo hi:Int}{i:Nat}{v:V}(e:(b9 lo hi)[i]?=some v):v=.int (lo+i):=by
 unfold b9 at e
 rw[List.getElem?_map] at e
 obtain ⟨j,e1,rfl⟩:=Option.map_eq_some_iff.mp e
 rw[List.getElem?_range] at e1
 ·cases e1;rfl
 ·exact(List.getElem?_eq_some_iff.mp e1).1 |> fun h=>by simpa using h
theorem fB(lo hi:Int):(b9 lo hi).length=(hi - lo).toNat:=by simp [b9]
theorem Reps.of_get:∀ {l:List V} {xs:List Value},xs.length=l.length→(∀ (i:Nat) (v:V) (x:Value),l[i]?=some v→xs[i]?=some x→Rep g W h v x)→Reps g W h l xs
 | [],[],_,_=>.nil
 | [],_::_,e,_=>by simp at e
 | _::_,[],e,_=>by simp at e
 | v::l,x::xs,e,f=>.cons (f 0 v x rfl rfl) (Reps.of_get (by simpa using e) fun i v x h1 h2=>f (i+1) v x (by simpa using h1) (by simpa using h2))
theorem lrange_ok{m:Int}{t:Tok}(e:cp 0 m=true)(w:WF h0 W s.heap)(hh:A.handled=none)(q:VAfter g h0 W s (RO g k (.list (b9 0 m))) Q):
  wpAny (model g.prog g.w) A (call (.type "range") [.int m t]) (fun r s1=>wpAny (model g.prog g.w) A (call (.type "list") [r]) Q Ex s1) Ex s:=by
 unfold cp at e
 rw[decide_eq_true_eq] at e
 refine call_range_1 (call_list_range (n:=m.toNat) hh (IsRange.new ..) (small_one (by lia) (by lia) (by lia) (by lia)) (by rw[PyProof.Rows.rangeSize_nat];lia) (by lia) fun h' tk acc c' hk ho hI=>?_)
 have hk':∀ b o,s.heap.get? b=some o→h'.get? b=some o:=fun b o e=>hk b o (Heap.get?_push_of_some _ e)
 have ho':h'.get? (s.heap.push { cls:=.type "range",data:=.fields #[.int 0 s.toks,.int m t,.int 1 (s.toks+1)] }).objs.size=some (bO acc.toList c'):=ho
 refine q.lput (t:=tk) w ?_ hk' ho' ?_
 ·rw[Heap.size_push];exact Heap.get?_none_of_le (Nat.le_succ _)
 ·refine Reps.of_get ?_ fun i v x h1 h2=>?_
  ·rw[fB,Array.length_toList,hI.1];lia
  ·rw[rangeL_get h1]
   obtain ⟨t,rfl⟩:=hI.2 i x (by simpa using h2)
   rw[show (0:Int)+(i:Int)*1=0+(i:Int) by lia]
   exact .int _ _
end
structure aR where
 mg:Str→Option Value
 gt:List (Str×V)
 K:PySem.W.Frag
 ms:List (Nat×Str×Nat)
structure Cls (g:G) (N:aR) (c:Nat):Prop where
 hga:PySem.W.findIn N.K (.ref (g.ca c)) "__getattribute__"=some (some (.builtin "object.__getattribute__"))
 hk:PySem.W.findIn N.K (.ref (g.ca c)) "__getattr__"=some none
 hsa:PySem.W.findIn N.K (.ref (g.ca c)) "__setattr__"=some (some (.builtin "object.__setattr__"))
 cd:(PySem.W.clsIn N.K (g.ca c)).any (·.hasDict)=true
 over:PySem.W.plainOver N.K (g.ca c)=true
 att:∀ x∈attrNames,PySem.W.findIn N.K (.ref (g.ca c)) x=some none
 makes:PySem.W.makesIn N.K (g.ca c)=true
 meth:∀ x f,(c,x,f)∈N.ms→PySem.W.findIn N.K (.ref (g.ca c)) x=some (some (.ref (g.fa f)))∧PySem.W.typeIn N.K (.ref (g.fa f))=some (.type "function")
noncomputable def W00(h0:Heap):Wd:=fun a=>if (h0.get? a).isSome then .frz else .fgn
structure bV (g:G) (h0:Heap) (N:aR):Prop where
 gl:h0.Ns mainGlobals N.mg
 b:∃ mb,h0.Ns builtinsNs mb∧∀ x:Str,x≠"__name__"→mb x=bootBuiltins x
 kin:N.K.In h0
 cls:∀ c,Cls g N c
 init:∀ c,c<2→PySem.W.findIn N.K (.ref (g.ca c)) "__init__"=some (some (.ref (g.fa c)))∧PySem.W.typeIn N.K (.ref (g.fa c))=some (.type "function")
 rep:∀ x v,(x,v)∈N.gt→∃ y,N.mg x=some y∧Rep g (W00 h0) h0 v y
section
variable {g:G} {h0:Heap} {N:aR} {W:Wd} {h:Heap} {s:Shared} {A:Around} {k n:Nat} {c:Ctx} {env:Env} {ρ:Nat→Option Value} {fr:Fr}
theorem WF.stay0(w:WF h0 W h):cy (W00 h0) h0 W h:=fun a o e ho=>w.base a o ho
noncomputable def az(e:Expr):Bool:=e.ctorIdx != 22
theorem bM{e:Expr}{rest:List Expr}(he:az e=true):starEach (e::rest) env=(false,eval e env)::starEach rest env:=by
 cases e <;> first | rfl | cases he
noncomputable def EvsAt(g:G)(h0:Heap)(n:Nat)(c:Ctx)(t:Env→Sem (List Value))(fr:Fr)(vs:List V)(fr':Fr):Prop:=∀ (k:Nat) (W:Wd) (s:Shared) (ρ:Nat→Option Value) (env:Env) (A:Around) (Q:List Value→Shared→Prop) (Ex:Value→Shared→Prop),
  Room A n→Ok g h0 c env ρ W s.heap fr→(∀ W' h' t' xs,Ok g h0 c env ρ W' h' fr'→Step k noX W s.heap W' h'→Reps g W' h' vs xs→Q xs { s with heap:=h',toks:=t' })→wpAny (model g.prog g.w) A (t env) Q Ex s
noncomputable def EvsT(g:G)(h0:Heap)(n:Nat)(c:Ctx)(t:Env→Sem (List Value))(ir:Fr→Option (List V×Fr)):Prop:=
 ∀ (fr fr':Fr) (vs:List V),ir fr=some (vs,fr')→EvsAt g h0 n c t fr vs fr'
noncomputable def BoAt(g:G)(h0:Heap)(n:Nat)(c:Ctx)(t:Env→Sem Bool)(fr:Fr)(b:Bool)(fr':Fr):Prop:=∀ (k:Nat) (W:Wd) (s:Shared) (ρ:Nat→Option Value) (env:Env) (A:Around) (Q:Bool→Shared→Prop) (Ex:Value→Shared→Prop),
  Room A n→Ok g h0 c env ρ W s.heap fr→(∀ W' h' t',Ok g h0 c env ρ W' h' fr'→Step k noX W s.heap W' h'→Q b { s with heap:=h',toks:=t' })→wpAny (model g.prog g.w) A (t env) Q Ex s
noncomputable def BoT(g:G)(h0:Heap)(n:Nat)(c:Ctx)(t:Env→Sem Bool)(ir:Fr→Option (Bool×Fr)):Prop:=
 ∀ (fr fr':Fr) (b:Bool),ir fr=some (b,fr')→BoAt g h0 n c t fr b fr'
noncomputable def EvHAt(g:G)(h0:Heap)(n:Nat)(c:Ctx)(t:Env→Sem Value)(fr:Fr)(o:H)(fr':Fr):Prop:=∀ (k:Nat) (W:Wd) (s:Shared) (ρ:Nat→Option Value) (env:Env) (A:Around) (Q:Value→Shared→Prop) (Ex:Value→Shared→Prop),
  Room A n→Ok g h0 c env ρ W s.heap fr→(∀ W' h' t' x,Ok g h0 c env ρ W' h' fr'→Step k noX W s.heap W' h'→
   (∀ W2 h2 fr2 v,Ok g h0 c env ρ W2 h2 fr2→Step k noX W' h' W2 h2→o.get fr2=some v→Vw g W2 h2 v x)→Q x { s with heap:=h',toks:=t' })→wpAny (model g.prog g.w) A (t env) Q Ex s
noncomputable def eI(g:G)(h0:Heap)(n:Nat)(c:Ctx)(t:Env→Sem Value)(ir:Fr→Option (H×Fr)):Prop:=
 ∀ (fr fr':Fr) (o:H),ir fr=some (o,fr')→EvHAt g h0 n c t fr o fr'
end
section
variable {g:G} {h0:Heap} {N:aR} {n:Nat} {c:Ctx} {R:Rec} {lo:Nat} {Φ:Nat→List Own→Option (Own×Own)}
theorem evs_cons{pos:Pos}{e:Expr}{es:List Expr}{E:Mine.E}{Es:List Mine.E}(hs:az e=true)(hE:EvT g h0 n c (fun env=>eval e env) (R.ev E))(ih:EvsT g h0 n c (fun env=>spliced (backTo pos (starEach es env))) (evs R Es)):
  EvsT g h0 n c (fun env=>spliced (backTo pos (starEach (e::es) env))) (evs R (E::Es)):=fun fr fr' vs e'=>
 bE2 e' fun v fr1 e1 e'=>bE2 e' fun ws fr2 e2 e'=>sp e' fun k W s ρ env A Q Ex Rm O q=>by
  show wpAny _ _ (spliced (backTo pos (starEach (e::es) env))) _ _ _
  rw[bM hs]
  exact Calls.spliced_cons (hE.v fr fr1 v e1 k W s ρ env A _ Ex Rm O fun W1 h1 t1 x O1 S1 r1=>ih fr1 fr2 ws e2 k W1 _ ρ env A _ Ex Rm O1 fun W2 h2 t2 xs O2 S2 r2=>q W2 h2 t2 (x::xs) O2 (S1.trans S2) (.cons (r1.stay S2.stay) r2))
theorem evs_ok{pos:Pos}{es:List Expr}:∀ {Es:List E},es.length=Es.length→(∀ p∈es.zip Es,az p.1=true∧EvT g h0 n c (fun env=>eval p.1 env) (R.ev p.2))→
  EvsT g h0 n c (fun env=>spliced (backTo pos (starEach es env))) (evs R Es):=by
 induction es with
 | nil=>
  intro Es hl _
  cases List.length_eq_zero_iff.mp hl.symm
  exact fun fr fr' vs e=>sp e fun k W s ρ env A Q Ex Rm O q=>Calls.spliced_nil (q W s.heap s.toks [] O .refl .nil)
 | cons e es ih=>
  intro Es hl hp
  cases Es with
  | nil=>cases hl
  | cons E Es=>exact evs_cons (hp (e,E) (List.mem_cons_self ..)).1 (hp (e,E) (List.mem_cons_self ..)).2 (ih (Nat.succ.inj hl) fun p h=>hp p (List.mem_cons_of_mem _ h))
theorem ev_const_int{i:Int}{kd:Nat}{pos:Pos}:EvT g h0 n c (fun env=>eval (.Constant (.int i) kd pos) env) (al R lo Φ (.const (.int i))):=fun fr fr' o e=>sp e fun k W s ρ env A Q Ex Rm O q=>wpAny_Constant_int (q W s.heap _ _ O .refl (.v (.int _ _)))
theorem ev_const_str{x:List Nat}{kd:Nat}{pos:Pos}:EvT g h0 n c (fun env=>eval (.Constant (.str (strOf x)) kd pos) env) (al R lo Φ (.const (.str x))):=fun fr fr' o e=>sp e fun k W s ρ env A Q Ex Rm O q=>wpAny_Constant_str (q W s.heap _ _ O .refl (.v (.str _ _)))
theorem ev_const_none{kd:Nat}{pos:Pos}:EvT g h0 n c (fun env=>eval (.Constant .none kd pos) env) (al R lo Φ (.const .none)):=fun fr fr' o e=>sp e fun k W s ρ env A Q Ex Rm O q=>wpAny_Constant_none (q W s.heap s.toks _ O .refl (.v .none))
theorem ev_const_bool{b:Bool}{kd:Nat}{pos:Pos}:EvT g h0 n c (fun env=>eval (.Constant (.bool b) kd pos) env) (al R lo Φ (.const (.bool b))):=fun fr fr' o e=>sp e fun k W s ρ env A Q Ex Rm O q=>wpAny_Constant_bool (q W s.heap s.toks _ O .refl (.v (.bool _)))
theorem ok_glob{W:Wd}{h:Heap}{env:Env}{ρ:Nat→Option Value}{fr:Fr}(B:bV g h0 N)(O:Ok g h0 c env ρ W h fr):h.Ns env.globals N.mg:=by
 rw[O.env.glob];exact B.gl.at' fun o e=>(O.wf.base _ _ e).2
theorem ev_global(B:bV g h0 N){x:Str}{v:V}{pos:Pos}(hg:x∈c.globs)(hv:(x,v)∈N.gt)(hd:(x==("__debug__":Str))=false):EvT g h0 n c (fun env=>eval (.Name x pos) env) (al R lo Φ (.const v)):=fun fr fr' o e=>
 sp e fun k W s ρ env A Q Ex Rm O q=>exE (B.rep x v hv) fun y r=>by
  refine Calls.Name_function_global O.env.kind (O.env.gl x hg) ?_ hd
  unfold loadGlobal
  refine wpAny_bind (wpAny_nsGet (ok_glob B O) ?_)
  rw[r.1]
  exact wpAny_pure (q W s.heap s.toks y O .refl (.v (r.2.stay O.wf.stay0)))
theorem bc{W:Wd}{s:Shared}{env:Env}{ρ:Nat→Option Value}{A:Around}{Q:Value→Shared→Prop}{Ex:Value→Shared→Prop}(O:EnvOK W s.heap env c ρ){x:Str}{i:Nat}(hx:(x,i)∈c.vars)(hd:(x==("__debug__":Str))=false)(hc:(x==("__classdict__":Str))=false)
  {y:Value} (hy:ρ i=some y) (q:Q y s) {pos:Pos}:wpAny (model g.prog g.w) A (eval (.Name x pos) env) Q Ex s:=by
 refine wpAny_Name ?_ hd
 rcases O.var x i hx with e | ⟨e,a,e1,e2,e3⟩
 ·obtain ⟨m,hn,hm⟩:=O.loc
  exact wpAny_loadName_local O.kind e hn ((hm x i hx e).trans hy) q
 ·rw[hy] at e3
  rcases e with e | e
  ·exact wpAny_loadName_cell O.kind e e1 e3 q
  ·exact wpAny_loadName_free O.kind e e1 e3 q hc
theorem set_at{fr:Fr}{i j:Nat}{o o':Own}{G:Prop}(e:(fr.set i o')[j]?=some o)(k1:j=i→o'=o→G)(k2:i≠j→fr[j]?=some o→G):G:=by
 rw[List.getElem?_set] at e
 by_cases h:i=j
 ·rw[if_pos h] at e;exact ifE e fun _ e=>k1 h.symm (Option.some.inj e)
 ·rw[if_neg h] at e;exact k2 h e
noncomputable def frzS(i:Nat):Role→Role
 | .slot j p=>if j=i then .frz else .slot j p
 | r=>r
theorem St.mapI{W:Wd}{h:Heap}{ρ:Nat→Option Value}{fr:Fr}(x:St g W h ρ fr){f:Role→Role}{i:Nat}(hf:f .frz=.frz)(hs:∀ j p,j≠i→f (.slot j p)=.slot j p){o':Own}
  (ho:o'=.v .undef∨∃ y,ρ i=some y∧RepO g (fun a=>f (W a)) h (fun p=>.slot i p) o' y):St g (fun a=>f (W a)) h ρ (fr.set i o'):=by
 intro j o e
 refine set_at e (fun hj h=>by subst hj h;exact ho) fun hij e=>?_
 refine(x j o e).imp id fun ⟨v,a,b⟩=>⟨v,a,?_⟩
 have:=b.map (f:=f) hf
 rwa [show (fun p=>f (Role.slot j p))=fun p=>.slot j p from funext fun p=>hs j p fun z=>hij z.symm] at this
theorem step_slot{W:Wd}{h:Heap}{k:Nat}{X:Role→Addr→Prop}{f:Role→Role}(hf:f .frz=.frz)(hg:f .fgn=.fgn)(he:f .env=.env)(hs:∀ i p,f (.slot i p)=.slot i p∨f (.slot i p)=.frz)(ht:∀ j p,j<k→f (.tmp j p)=.tmp j p):Step k X W h (fun a=>f (W a)) h:=
 fU fun r hr=>by
  cases r <;> first | exact .inl hf | exact .inl hg | exact .inl he | exact .inl (ht _ _ hr) | skip
  exact(hs _ _).imp id fun e=>⟨⟨_,_,rfl⟩,e⟩
theorem frzS_slot(i:Nat)(j p:Nat):frzS i (.slot j p)=.slot j p∨frzS i (.slot j p)=.frz:=by unfold frzS;dsimp only;split <;> simp
theorem Ok.frzVar{W:Wd}{h:Heap}{env:Env}{ρ:Nat→Option Value}{fr:Fr}{k:Nat}(O:Ok g h0 c env ρ W h fr){i:Nat}{o:Own}{v:V}(e:fr[i]?=some o)(ev:o.frz.ok=some v):
  ∃ y,ρ i=some y∧Ok g h0 c env ρ (fun a=>frzS i (W a)) h (fr.set i (.v v))∧Step k noX W h (fun a=>frzS i (W a)) h∧Rep g (fun a=>frzS i (W a)) h v y:=by
 have hv:=c7 ev
 rcases O.st i o e with rfl | ⟨y,hy,r⟩
 ·exact absurd hv.1.symm hv.2
 ·have S:Step k noX W h (fun a=>frzS i (W a)) h:=step_slot rfl rfl rfl (frzS_slot i) fun _ _ _=>rfl
  have r':Rep g (fun a=>frzS i (W a)) h v y:=by
   rw[← hv.1];exact(r.map (f:=frzS i) rfl).frz fun p=>if_pos rfl
  exact⟨y,hy,⟨O.wf.map rfl rfl,O.env.step S,O.st.mapI rfl (fun j p hj=>if_neg hj) (.inr ⟨y,hy,.v r'⟩)⟩,S,r'⟩
theorem Ok.frzVarE{W:Wd}{h:Heap}{env:Env}{ρ:Nat→Option Value}{fr:Fr}{k:Nat}{G:Prop}(O:Ok g h0 c env ρ W h fr){i:Nat}{o:Own}{v:V}(e:fr[i]?=some o)(ev:o.frz.ok=some v)
  (K:∀ y W',ρ i=some y→Ok g h0 c env ρ W' h (fr.set i (.v v))→Step k noX W h W' h→Rep g W' h v y→G):G:=exE (O.frzVar e ev) fun y q=>K y _ q.1 q.2.1 q.2.2.1 q.2.2.2
theorem Ok.held{W:Wd}{h:Heap}{env:Env}{ρ:Nat→Option Value}{fr:Fr}{G:Prop}(O:Ok g h0 c env ρ W h fr){i:Nat}{o:Own}{v:V}(e:fr[i]?=some o)(ev:o.frz.ok=some v)
  (K:∀ y,ρ i=some y→RepO g W h (fun p=>.slot i p) o y→G):G:=by
 rcases O.st i o e with rfl | ⟨y,hy,r⟩
 ·cases ev
 ·exact K y hy r
theorem Ok.heldO{W:Wd}{h:Heap}{env:Env}{ρ:Nat→Option Value}{fr:Fr}{G:Prop}(O:Ok g h0 c env ρ W h fr){i:Nat}{o:Own}(e:fr[i]?=some o)(ne:o≠.v .undef)(K:∀ y,ρ i=some y→RepO g W h (fun p=>.slot i p) o y→G):G:=
 (O.st i o e).elim (fun z=>absurd z ne) fun z=>exE z fun y z=>K y z.1 z.2
theorem ev_var{x:Str}{i:Nat}{pos:Pos}(hx:(x,i)∈c.vars)(hd:(x==("__debug__":Str))=false)(hc:(x==("__classdict__":Str))=false):EvT g h0 n c (fun env=>eval (.Name x pos) env) (al R lo Φ (.var i)):=fun fr fr' o e=>
 bE e fun o1 e1 e=>bE e fun v e2 e=>sp e fun k W s ρ env A Q Ex Rm O q=>
  O.frzVarE (k:=k) e1 e2 fun y W' hy O' S' r=>bc O.env hx hd hc hy (q W' s.heap s.toks y O' S' (.v r))
theorem H.var_get{W:Wd}{h:Heap}{env:Env}{ρ:Nat→Option Value}{fr:Fr}(O:Ok g h0 c env ρ W h fr){i:Nat}{v:V}{y:Value}(hy:ρ i=some y)(e:(H.var i).get fr=some v):Vw g W h v y:=
 bE e fun o e1 e2=>O.held e1 e2 fun y' hy' r=>by
  rw[← (c7 e2).1,Option.some.inj (hy.symm.trans hy')];exact r.vw
theorem evH_var{x:Str}{i:Nat}{pos:Pos}(hx:(x,i)∈c.vars)(hd:(x==("__debug__":Str))=false)(hc:(x==("__classdict__":Str))=false):eI g h0 n c (fun env=>eval (.Name x pos) env) (evH R (.var i)):=fun fr fr' o e=>
 bE e fun o1 e1 e=>bE e fun v e2 e=>sp e fun k W s ρ env A Q Ex Rm O q=>O.held e1 e2 fun y hy r=>
  bc O.env hx hd hc hy (q W s.heap s.toks y O .refl fun W2 h2 fr2 v O2 S2 e=>H.var_get O2 hy e)
theorem evH_ne{E:E}(hE:cA E=none)(fr:Fr):evH R E fr=(evV R E fr).bind fun p=>some (H.val p.1,p.2):=by
 unfold evH;rw[hE]
theorem evH_val{E:E}{t:Env→Sem Value}(x:EvT g h0 n c t (R.ev E))(hE:cA E=none):eI g h0 n c t (evH R E):=fun fr fr' o e=>
 bE2 ((evH_ne hE fr).symm.trans e) fun v fr1 e1 e=>sp e fun k W s ρ env A Q Ex Rm O q=>x.v fr fr1 v e1 k W s ρ env A Q Ex Rm O fun W1 h1 t1 y O1 S1 r1=>q W1 h1 t1 y O1 S1 fun W2 h2 fr2 v2 O2 S2 e=>
  (Option.some.inj e▸(r1.stay S2.stay).vw:Vw g W2 h2 v2 y)
theorem ev_bin{l r:Expr}{a b:E}{o:Op}{pos:Pos}(ha:EvT g h0 n c (fun env=>eval l env) (R.ev a))(hb:EvT g h0 n c (fun env=>eval r env) (R.ev b)):
  EvT g h0 n c (fun env=>eval (.BinOp l (opOf o) r pos) env) (al R lo Φ (.bin o a b)):=fun fr fr' o e=>
 bE2 e fun u fr1 e1 e=>bE2 e fun v fr2 e2 e=>bE e fun z e3 e=>sp e fun k W s ρ env A Q Ex Rm O q=>
  wpAny_BinOp (ha.v fr fr1 u e1 k W s ρ env A _ Ex Rm O fun W1 h1 t1 x O1 S1 r1=>hb.v fr1 fr2 v e2 k W1 _ ρ env A _ Ex Rm O1 fun W2 h2 t2 y O2 S2 r2=>
   binop_ok e3 (r1.stay S2.stay) r2 O2.wf fun W3 h3 t3 z S3 w3 p=>q W3 h3 t3 z (O2.grow S3 w3) ((S1.trans S2).trans S3.step) p)
theorem ev_neg{x:Expr}{a:E}{pos:Pos}(ha:EvT g h0 n c (fun env=>eval x env) (R.ev a)):EvT g h0 n c (fun env=>eval (.UnaryOp .USub x pos) env) (al R lo Φ (.neg a)):=fun fr fr' o e=>
 bE2 e fun u fr1 e1 e=>bE e fun i hi e=>sp e fun k W s ρ env A Q Ex Rm O q=>
  wpAny_UnaryOp (ha.v fr fr1 u e1 k W s ρ env A _ Ex Rm O fun W1 h1 t1 x O1 S1 r1=>(aB hi▸r1:Rep g W1 h1 (.int i) x).intE fun t hx=>by
   subst hx
   exact PyProof.Rows.neg_int (q W1 h1 _ _ O1 S1 (.v (.int _ _))))
noncomputable def ChAt(g:G)(h0:Heap)(n:Nat)(c:Ctx)(l r:Expr)(o:CmpOp)(fr:Fr)(b:Bool)(fr':Fr):Prop:=∀ (k:Nat) (W:Wd) (s:Shared) (ρ:Nat→Option Value) (env:Env) (A:Around) (Q:Value→Shared→Prop) (Ex:Value→Shared→Prop),
  Room A n→Ok g h0 c env ρ W s.heap fr→(∀ W' h' t',Ok g h0 c env ρ W' h' fr'→Step k noX W s.heap W' h'→Q (.bool b) { s with heap:=h',toks:=t' })→
   wpAny (model g.prog g.w) A (eval l env) (fun a s₁=>wpAny (model g.prog g.w) A (eval r env) (fun b s₂=>wpAny (model g.prog g.w) A (compareOp o a b) Q Ex s₂) Ex s₁) Ex s
noncomputable def ChT(g:G)(h0:Heap)(n:Nat)(c:Ctx)(l r:Expr)(o:CmpOp)(ir:Fr→Option (Bool×Fr)):Prop:=
 ∀ (fr fr':Fr) (b:Bool),ir fr=some (b,fr')→ChAt g h0 n c l r o fr b fr'
theorem ChT.ev{l r:Expr}{o:CmpOp}{f:Fr→Option (Bool×Fr)}{pos:Pos}(hm:behindInMarks o r=false)(x:ChT g h0 n c l r o f):
  EvT g h0 n c (fun env=>eval (.Compare l [o] [r] pos) env) (fun fr=>(f fr).bind fun p=>some (.v (.bool p.1),p.2)):=fun fr fr' o' e=>
 bE2 e fun b fr1 e1 e=>sp e fun k W s ρ env A Q Ex Rm O q=>wpAny_Compare1 (x fr fr1 b e1 k W s ρ env A Q Ex Rm O fun W1 h1 t1 O1 S1=>q W1 h1 t1 _ O1 S1 (.v (.bool _))) hm
theorem ChT.bo{l r:Expr}{o:CmpOp}{f:Fr→Option (Bool×Fr)}{pos:Pos}(hm:behindInMarks o r=false)(x:ChT g h0 n c l r o f):
  BoT g h0 n c (fun env=>isTrue (.Compare l [o] [r] pos) env (eval (.Compare l [o] [r] pos) env)) f:=fun fr fr' b e k W s ρ env A Q Ex Rm O q=>
 wpAny_isTrue_Compare1 (x fr fr' b e k W s ρ env A _ Ex Rm O fun W1 h1 t1 O1 S1=>wpAny_truthy_bool (q W1 h1 t1 O1 S1)) hm
noncomputable def irCmp(R:Rec)(o:Cmp)(a b:E)(fr:Fr):Option (Bool×Fr):=(evH R a fr).bind fun p=>(evH R b p.2).bind fun q=>(p.1.get q.2).bind fun x=>(q.1.get q.2).bind fun y=>(aH o x y).bind fun r=>some (r,q.2)
noncomputable def eP(R:Rec)(f:Bool→Bool)(a:E)(fr:Fr):Option (Bool×Fr):=(evH R a fr).bind fun p=>(p.1.get p.2).bind fun x=>x.isNone.bind fun r=>some (f r,p.2)
theorem ch_cmp{l r:Expr}{a b:E}{o:Cmp}(ha:eI g h0 n c (fun env=>eval l env) (evH R a))(hb:eI g h0 n c (fun env=>eval r env) (evH R b)):ChT g h0 n c l r (cOf o) (irCmp R o a b):=fun fr fr' o e=>
 bE2 e fun u fr1 e1 e=>bE2 e fun v fr2 e2 e=>bE e fun p1 e3 e=>bE e fun p2 e4 e=>bE e fun z e5 e=>sp e fun k W s ρ env A Q Ex Rm O q=>
  ha fr fr1 u e1 k W s ρ env A _ Ex Rm O fun W1 h1 t1 x O1 S1 r1=>hb fr1 fr2 v e2 k W1 _ ρ env A _ Ex Rm O1 fun W2 h2 t2 y O2 S2 r2=>
   cmp_ok e5 (r1 W2 h2 fr2 p1 O2 S2 e3) (r2 W2 h2 fr2 p2 O2 .refl e4) Rm fun t=>q W2 h2 t O2 (S1.trans S2)
theorem ch_isNone{l:Expr}{kd:Nat}{a:E}{p2:Pos}(ha:eI g h0 n c (fun env=>eval l env) (evH R a)):ChT g h0 n c l (.Constant .none kd p2) .Is (eP R id a):=fun fr fr' o e=>
 bE2 e fun u fr1 e1 e=>bE e fun p1 e3 e=>bE e fun z e5 e=>sp e fun k W s ρ env A Q Ex Rm O q=>
  ha fr fr1 u e1 k W s ρ env A _ Ex Rm O fun W1 h1 t1 x O1 S1 r1=>wpAny_Constant_none ((isNone_ok (W:=W1) (s:={ s with heap:=h1,toks:=t1 }) e5 (r1 W1 h1 fr1 p1 O1 .refl e3)).1 _ fun t=>q W1 h1 t O1 S1)
theorem ch_notNone{l:Expr}{kd:Nat}{a:E}{p2:Pos}(ha:eI g h0 n c (fun env=>eval l env) (evH R a)):ChT g h0 n c l (.Constant .none kd p2) .IsNot (eP R not a):=fun fr fr' o e=>
 bE2 e fun u fr1 e1 e=>bE e fun p1 e3 e=>bE e fun z e5 e=>sp e fun k W s ρ env A Q Ex Rm O q=>
  ha fr fr1 u e1 k W s ρ env A _ Ex Rm O fun W1 h1 t1 x O1 S1 r1=>wpAny_Constant_none ((isNone_ok (W:=W1) (s:={ s with heap:=h1,toks:=t1 }) e5 (r1 W1 h1 fr1 p1 O1 .refl e3)).2 _ fun t=>q W1 h1 t O1 S1)
theorem ir_cmp{o:Cmp}{a b:E}:al R lo Φ (.cmp o a b)=fun fr=>(irCmp R o a b fr).bind fun p=>some (.v (.bool p.1),p.2):=by
 funext fr;show (evH R a fr).bind _=(irCmp R o a b fr).bind _;unfold irCmp;simp only[Option.bind_assoc,Option.bind_some]
theorem ir_isNone{a:E}:al R lo Φ (.isNone a)=fun fr=>(eP R id a fr).bind fun p=>some (.v (.bool p.1),p.2):=by
 funext fr;show (evH R a fr).bind _=(eP R id a fr).bind _;unfold eP;simp only[Option.bind_assoc,Option.bind_some,id]
theorem ir_notNone{a:E}:al R lo Φ (.notNone a)=fun fr=>(eP R not a fr).bind fun p=>some (.v (.bool p.1),p.2):=by
 funext fr;show (evH R a fr).bind _=(eP R not a fr).bind _;unfold eP;simp only[Option.bind_assoc,Option.bind_some]
theorem ev_cmp{l r:Expr}{a b:E}{o:Cmp}{pos:Pos}(hm:behindInMarks (cOf o) r=false)(ha:eI g h0 n c (fun env=>eval l env) (evH R a))(hb:eI g h0 n c (fun env=>eval r env) (evH R b)):
  EvT g h0 n c (fun env=>eval (.Compare l [cOf o] [r] pos) env) (al R lo Φ (.cmp o a b)):=by rw[ir_cmp];exact(ch_cmp ha hb).ev hm
theorem ev_isNone{l:Expr}{kd:Nat}{a:E}{pos p2:Pos}(ha:eI g h0 n c (fun env=>eval l env) (evH R a)):
  EvT g h0 n c (fun env=>eval (.Compare l [.Is] [.Constant .none kd p2] pos) env) (al R lo Φ (.isNone a)):=by rw[ir_isNone];exact(ch_isNone ha).ev rfl
theorem ev_notNone{l:Expr}{kd:Nat}{a:E}{pos p2:Pos}(ha:eI g h0 n c (fun env=>eval l env) (evH R a)):
  EvT g h0 n c (fun env=>eval (.Compare l [.IsNot] [.Constant .none kd p2] pos) env) (al R lo Φ (.notNone a)):=by rw[ir_notNone];exact(ch_notNone ha).ev rfl
end
section
variable {g:G} {h0:Heap} {N:aR} {n:Nat} {c:Ctx} {R:Rec} {lo:Nat} {Φ:Nat→List Own→Option (Own×Own)}
theorem load_bi{W:Wd}{s:Shared}{env:Env}{ρ:Nat→Option Value}{fr:Fr}{A:Around}{Q:Value→Shared→Prop}{Ex:Value→Shared→Prop}(B:bV g h0 N)(O:Ok g h0 c env ρ W s.heap fr){x:Str}{v:Value}(hx:x∈c.globs)
  (hm:N.mg x=none) (hb:bootBuiltins x=some v) (hn:x≠"__name__") (hd:(x==("__debug__":Str))=false) (q:Q v s) {pos:Pos}:wpAny (model g.prog g.w) A (eval (.Name x pos) env) Q Ex s:=by
 obtain ⟨mb,b1,b2⟩:=B.b
 refine Calls.Name_function_global O.env.kind (O.env.gl x hx) ?_ hd
 refine Calls.loadGlobal_builtin (ok_glob B O) hm (by rw[O.env.bi];exact b1.at' fun o e=>(O.wf.base _ _ e).2) ((b2 x hn).trans hb) q
theorem d8{W:Wd}{s:Shared}{env:Env}{ρ:Nat→Option Value}{fr:Fr}{A:Around}{Q:Value→Shared→Prop}{Ex:Value→Shared→Prop}(B:bV g h0 N)(O:Ok g h0 c env ρ W s.heap fr){x:Str}{v:Value}(hx:x∈c.globs)
  (hm:N.mg x=none) (hb:bootBuiltins x=some v) (hn:x≠"__name__") (hd:(x==("__debug__":Str))=false) {e:Expr} {p pos:Pos} (hv:(∃ id,v=.builtin id)∨∃ T,v=.type T) (he:az e=true)
  (h:wpAny (model g.prog g.w) A (eval e env) (fun y s1=>wpAny (model g.prog g.w) A (call v [y]) Q Ex s1) Ex s):wpAny (model g.prog g.w) A (eval (.Call (.Name x p) [e] [] pos) env) Q Ex s:=by
 refine wpAny_Call_NameR (load_bi B O hx hm hb hn hd ?_)
 have hs:backTo pos (starEach [e] env)=[(false,eval e env)]:=by rw[bM he];rfl
 rw[hs]
 rcases hv with ⟨id,rfl⟩ | ⟨T,rfl⟩
 ·exact Calls.callWith_builtin rfl (Calls.evalArgs_plain (Calls.spliced_cons (wpAny_mono h (fun y s1 h1=>Calls.spliced_nil h1) fun _ _ e=>e)))
 ·exact callWith_type rfl (Calls.evalArgs_plain (Calls.spliced_cons (wpAny_mono h (fun y s1 h1=>Calls.spliced_nil h1) fun _ _ e=>e)))
theorem call_bi2{W:Wd}{s:Shared}{env:Env}{ρ:Nat→Option Value}{fr:Fr}{A:Around}{Q:Value→Shared→Prop}{Ex:Value→Shared→Prop}(B:bV g h0 N)(O:Ok g h0 c env ρ W s.heap fr){x:Str}{v:Value}(hx:x∈c.globs)
  (hm:N.mg x=none) (hb:bootBuiltins x=some v) (hn:x≠"__name__") (hd:(x==("__debug__":Str))=false) {e e2:Expr} {p pos:Pos} (hv:(∃ id,v=.builtin id)∨∃ T,v=.type T) (he:az e=true) (he2:az e2=true)
  (h:wpAny (model g.prog g.w) A (eval e env) (fun y s1=>wpAny (model g.prog g.w) A (eval e2 env) (fun y2 s2=>wpAny (model g.prog g.w) A (call v [y,y2]) Q Ex s2) Ex s1) Ex s):wpAny (model g.prog g.w) A (eval (.Call (.Name x p) [e,e2] [] pos) env) Q Ex s:=by
 refine wpAny_Call_NameR (load_bi B O hx hm hb hn hd ?_)
 have hs:backTo pos (starEach [e,e2] env)=[(false,eval e env),(false,eval e2 env)]:=by rw[bM he,bM he2];rfl
 rw[hs]
 rcases hv with ⟨id,rfl⟩ | ⟨T,rfl⟩
 ·exact Calls.callWith_builtin rfl (Calls.evalArgs_plain (Calls.spliced_cons (wpAny_mono h (fun y s1 h1=>Calls.spliced_cons (wpAny_mono h1 (fun y2 s2 h2=>Calls.spliced_nil h2) fun _ _ e=>e)) fun _ _ e=>e)))
 ·exact callWith_type rfl (Calls.evalArgs_plain (Calls.spliced_cons (wpAny_mono h (fun y s1 h1=>Calls.spliced_cons (wpAny_mono h1 (fun y2 s2 h2=>Calls.spliced_nil h2) fun _ _ e=>e)) fun _ _ e=>e)))
theorem subscripted_op(slice:Expr)(o i:Value):∃ ops,subscripted slice false o i=operate ops (getItem o i):=by
 cases slice with
 | Slice a b c d=>cases c <;> exact⟨_,rfl⟩
 | _=>exact⟨_,rfl⟩
theorem sub_rule{prog:Program}{w:World}{A:Around}{Ex:Value→Shared→Prop}{s:Shared}{env:Env}{value slice:Expr}{pos:Pos}{Q:Value→Shared→Prop}
  (h:wpAny (model prog w) A (eval value env) (fun o s₁=>wpAny (model prog w) A (eval slice env) (fun i s₂=>SubscriptOn (model prog w) A o i Q Ex s₂) Ex s₁) Ex s):
  wpAny (model prog w) A (eval (.Subscript value slice pos) env) Q Ex s:=by
 rw[eval_Subscript]
 refine wpAny_bind (wpAny_mono h (fun o s₁ h₁=>wpAny_bind (wpAny_holding (wpAny_mono h₁ (fun i s₂ h₂=>wpAny_bind (wpAny_standAt ?_)) fun _ _ x=>x)))
  fun _ _ x=>x)
 obtain ⟨T,id,hl,hT,hg⟩:=h₂
 refine wpAny_bind ?_
 rw[getitemInPython_of_ne hT.not_modules]
 refine wpAny_bind (wpAny_specialOf hT hl ?_)
 obtain ⟨ops,hop⟩:=subscripted_op slice o i
 have fin:wpAny (model prog w) A (subscripted slice false o i) (fun r s₃=>wpAny (model prog w) A (letTemporaryGo value o r >>= fun _=>pure r) Q Ex s₃) Ex s₂:=by
  rw[hop]
  exact wpAny_operating (wpAny_mono hg (fun r s₃ h₃=>wpAny_bind (wpAny_letTemporaryGo (wpAny_pure h₃))) fun _ _ x=>x)
 first
  | exact wpAny_pure (wpAny_bind fin)
  | exact wpAny_bind (wpAny_pure (wpAny_bind fin))
  | exact wpAny_bind fin
theorem After.grow{env:Env}{ρ:Nat→Option Value}{k:Nat}{W W1:Wd}{s:Shared}{fr:Fr}{P:Wd→Heap→Value→Prop}{Q:Value→Shared→Prop}{h1:Heap}(q:After g h0 c env ρ k W s fr P Q)(O1:Ok g h0 c env ρ W1 h1 fr)
  (S1:Step k noX W s.heap W1 h1) (t1:Nat):VAfter g h0 W1 { s with heap:=h1,toks:=t1 } P Q:=fun W4 h4 t4 z S4 w4 p=>q W4 h4 t4 z (O1.grow S4 w4) (S1.trans S4.step) p
theorem ev_sub{v sl:Expr}{a b:E}{pos:Pos}(hA:evA R a=evH R a)(ha:eI g h0 n c (fun env=>eval v env) (evH R a))(hb:EvT g h0 n c (fun env=>eval sl env) (R.ev b)):
  EvT g h0 n c (fun env=>eval (.Subscript v sl pos) env) (al R lo Φ (.sub a b)):=fun fr fr' o e=>
 bE2 e fun u fr1 e1 e=>bE2 e fun kv fr2 e2 e=>bE e fun p1 e3 e=>bE e fun r0 e4 e=>bE e fun r1 e5 e=>sp e fun k W s ρ env A Q Ex Rm O q=>
  sub_rule (ha fr fr1 u (hA▸e1) k W s ρ env A _ Ex Rm O fun W1 h1 t1 x O1 S1 r1=>hb.v fr1 fr2 kv e2 k W1 _ ρ env A _ Ex Rm O1 fun W2 h2 t2 y O2 S2 r2=>
   item_ok e4 (r1 W2 h2 fr2 p1 O2 S2 e3) r2 fun z t rz=>q W2 h2 t z O2 (S1.trans S2) (.v ((c7 e5).1▸rz)))
noncomputable def EvOAt(g:G)(h0:Heap)(n:Nat)(c:Ctx)(t:Env→Sem Value)(fr:Fr)(v:Option V)(fr':Fr):Prop:=∀ (k:Nat) (W:Wd) (s:Shared) (ρ:Nat→Option Value) (env:Env) (A:Around) (Q:Value→Shared→Prop) (Ex:Value→Shared→Prop),
  Room A n→Ok g h0 c env ρ W s.heap fr→After g h0 c env ρ k W s fr' (fun W' h' x=>∀ o,dt v=some o→IsPart x o) Q→wpAny (model g.prog g.w) A (t env) Q Ex s
noncomputable def EvOT(g:G)(h0:Heap)(n:Nat)(c:Ctx)(t:Env→Sem Value)(ir:Fr→Option (Option V×Fr)):Prop:=
 ∀ (fr fr':Fr) (v:Option V),ir fr=some (v,fr')→EvOAt g h0 n c t fr v fr'
theorem evO_none:EvOT g h0 n c (fun env=>evalPart none env) (evOpt R none):=fun fr fr' v e=>
 sp e fun k W s ρ env A Q Ex Rm O q=>wpAny_evalPart_none (q W s.heap s.toks _ O .refl fun o e=>by cases e;exact .none)
theorem optInt_part{u:V}{x:Value}{W:Wd}{h:Heap}(r:Rep g W h u x):∀ o,dt (some u)=some o→IsPart x o:=fun o e=>
 bE e fun i h1 e=>(aB h1▸r:Rep g W h (.int i) x).intE fun t hx=>by subst hx;exact Option.some.inj e▸.int _ _
theorem evO_some{x:Expr}{a:E}(ha:EvT g h0 n c (fun env=>eval x env) (R.ev a)):EvOT g h0 n c (fun env=>evalPart (some x) env) (evOpt R (some a)):=fun fr fr' v e=>
 bE2 e fun u fr1 e1 e=>sp e fun k W s ρ env A Q Ex Rm O q=>wpAny_evalPart_some (ha.v fr fr1 u e1 k W s ρ env A _ Ex Rm O fun W1 h1 t1 y O1 S1 r1=>q W1 h1 t1 y O1 S1 (optInt_part r1))
theorem ev_slice{v:Expr}{lw up:Option Expr}{a:E}{l hh:Option E}{pos p2:Pos}(ha:eI g h0 n c (fun env=>eval v env) (evH R a))(hl:EvOT g h0 n c (fun env=>evalPart lw env) (evOpt R l))
  (hu:EvOT g h0 n c (fun env=>evalPart up env) (evOpt R hh)):
  EvT g h0 n c (fun env=>eval (.Subscript v (.Slice lw up none p2) pos) env) (al R lo Φ (.slice a l hh)):=fun fr fr' o e=>
 bE2 e fun u fr1 e1 e=>bE2 e fun lv fr2 e2 e=>bE2 e fun hv fr3 e3 e=>bE e fun x e4 e=>bE e fun l' e5 e=>bE e fun h' e6 e=>bE e fun z e7 e=>sp e fun k W s ρ env A Q Ex Rm O q=>
  sub_rule (ha fr fr1 u e1 k W s ρ env A _ Ex Rm O fun W1 h1 t1 y O1 S1 r1=>wpAny_Slice (hl fr1 fr2 lv e2 k W1 _ ρ env A _ Ex Rm O1 fun W2 h2 t2 ly O2 S2 r2=>
   hu fr2 fr3 hv e3 k W2 _ ρ env A _ Ex Rm O2 fun W3 h3 t3 hy O3 S3 r3=>wpAny_evalPart_none
    (slice_ok (s:={ s with heap:=h3,toks:=t3 }) e7 (r1 W3 h3 fr3 x O3 (S2.trans S3) e4) (r2 _ e5) (r3 _ e6) O3.wf (q.grow O3 ((S1.trans S2).trans S3) t3))))
theorem boot_len:bootBuiltins "len"=some (.builtin "len"):=by decide +kernel
theorem boot_range:bootBuiltins "range"=some (.type "range"):=by decide +kernel
theorem boot_list:bootBuiltins "list"=some (.type "list"):=by decide +kernel
theorem boot_enum:bootBuiltins "enumerate"=some (.type "enumerate"):=by decide +kernel
theorem boot_str:bootBuiltins "str"=some (.type "str"):=by decide +kernel
theorem boot_isi:bootBuiltins "isinstance"=some (.builtin "isinstance"):=by decide +kernel
noncomputable def cK:Prim→Str
 | .sorted=>"sorted"
 | .sum=>"sum"
 | .all=>"all"
 | .str=>"str"
 | .abs=>"abs"
 | .isStr=>"isinstance"
 | .list=>"list"
theorem boot_prim(p:Prim):bootBuiltins (cK p)=some (primFn p):=by cases p <;> decide +kernel
theorem ev_len{v:Expr}{a:E}{pos p2:Pos}(B:bV g h0 N)(hA:evA R a=evH R a)(hx:("len":Str)∈c.globs)(hm:N.mg "len"=none)(he:az v=true)(ha:eI g h0 n c (fun env=>eval v env) (evH R a)):
  EvT g h0 n c (fun env=>eval (.Call (.Name "len" p2) [v] [] pos) env) (al R lo Φ (.len a)):=fun fr fr' o e=>
 bE2 e fun u fr1 e1 e=>bE e fun x e2 e=>bE e fun m e3 e=>sp e fun k W s ρ env A Q Ex Rm O q=>d8 B O hx hm boot_len (by decide) (by decide) (.inl ⟨_,rfl⟩) he
  (ha fr fr1 u (hA▸e1) k W s ρ env A _ Ex Rm O fun W1 h1 t1 y O1 S1 r1=>len_ok e3 (r1 W1 h1 fr1 x O1 .refl e2) fun t t'=>q W1 h1 t' _ O1 S1 (.v (.int _ _)))
theorem primName_ne(p:Prim):cK p≠"__name__"∧(cK p==("__debug__":Str))=false:=by cases p <;> decide
theorem primFn_ty(p:Prim):(∃ id,primFn p=.builtin id)∨∃ T,primFn p=.type T:=by cases p <;> first | exact .inl ⟨_,rfl⟩ | exact .inr ⟨_,rfl⟩
theorem primArgs_one{p:Prim}(hp:p≠.isStr)(y:Value):primArgs p y=[y]:=by cases p <;> first | rfl | exact absurd rfl hp
theorem ev_prim{v:Expr}{a:E}{p:Prim}{pos p2:Pos}(B:bV g h0 N)(hx:cK p∈c.globs)(hm:N.mg (cK p)=none)(he:az v=true)(hp:p≠.isStr)(ha:eI g h0 n c (fun env=>eval v env) (evH R a)):
  EvT g h0 n c (fun env=>eval (.Call (.Name (cK p) p2) [v] [] pos) env) (al R lo Φ (.prim p a)):=fun fr fr' o e=>
 bE2 e fun u fr1 e1 e=>bE e fun x e2 e=>bE e fun m e3 e=>sp e fun k W s ρ env A Q Ex Rm O q=>d8 B O hx hm (boot_prim p) (primName_ne p).1 (primName_ne p).2 (primFn_ty p) he
  (ha fr fr1 u e1 k W s ρ env A _ Ex Rm O fun W1 h1 t1 y O1 S1 r1=>primArgs_one hp y▸prim_ok (s:={ s with heap:=h1,toks:=t1 }) (k:=k) e3 (r1 W1 h1 fr1 x O1 .refl e2) O1.wf Rm.handled (q.grow O1 S1 t1))
theorem ev_isStr{v:Expr}{a:E}{pos p2 p3:Pos}(B:bV g h0 N)(hx:("isinstance":Str)∈c.globs)(hm:N.mg "isinstance"=none)(hx':("str":Str)∈c.globs)(hm':N.mg "str"=none)(he:az v=true)
  (ha:eI g h0 n c (fun env=>eval v env) (evH R a)):
  EvT g h0 n c (fun env=>eval (.Call (.Name "isinstance" p2) [v,.Name "str" p3] [] pos) env) (al R lo Φ (.prim .isStr a)):=fun fr fr' o e=>
 bE2 e fun u fr1 e1 e=>bE e fun x e2 e=>bE e fun m e3 e=>sp e fun k W s ρ env A Q Ex Rm O q=>call_bi2 B O hx hm boot_isi (by decide) (by decide) (.inl ⟨_,rfl⟩) he rfl
  (ha fr fr1 u e1 k W s ρ env A _ Ex Rm O fun W1 h1 t1 y O1 S1 r1=>load_bi B O1 hx' hm' boot_str (by decide) (by decide)
   (prim_ok (s:={ s with heap:=h1,toks:=t1 }) (k:=k) e3 (r1 W1 h1 fr1 x O1 .refl e2) O1.wf Rm.handled (q.grow O1 S1 t1)))
theorem ev_lrange{v:Expr}{a:E}{pos p2 p3 p4:Pos}(B:bV g h0 N)(hx:("list":Str)∈c.globs)(hm:N.mg "list"=none)(hx':("range":Str)∈c.globs)(hm':N.mg "range"=none)(he:az v=true)
  (ha:EvT g h0 n c (fun env=>eval v env) (R.ev a)):
  EvT g h0 n c (fun env=>eval (.Call (.Name "list" p2) [.Call (.Name "range" p3) [v] [] p4] [] pos) env) (al R lo Φ (.lrange a)):=fun fr fr' o e=>
 bE2 e fun u fr1 e1 e=>bE e fun m hm1 e=>ifE e fun hz e=>sp e fun k W s ρ env A Q Ex Rm O q=>d8 B O hx hm boot_list (by decide) (by decide) (.inr ⟨_,rfl⟩) rfl
  (d8 B O hx' hm' boot_range (by decide) (by decide) (.inr ⟨_,rfl⟩) he (ha.v fr fr1 u e1 k W s ρ env A _ Ex Rm O fun W1 h1 t1 y O1 S1 r1=>(aB hm1▸r1:Rep g W1 h1 (.int m) y).intE fun t hy=>by
   subst hy
   exact lrange_ok (s:={ s with heap:=h1,toks:=t1 }) hz O1.wf Rm.handled (q.grow O1 S1 t1)))
theorem evs_len{Es:List E}:∀ {fr fr1:Fr} {vs:List V},evs R Es fr=some (vs,fr1)→vs.length=Es.length:=by
 induction Es with
 | nil=>intro fr fr1 vs e;cases e;rfl
 | cons E Es ih=>intro fr fr1 vs e;exact bE2 e fun v f2 _ e=>bE2 e fun ws f3 e2 e=>sp (P:=fun vs _=>vs.length=Es.length+1) e (congrArg Nat.succ (ih e2))
theorem ev_tup{es:List Expr}{Es:List E}{kd:Nat}{pos:Pos}(hes:EvsT g h0 n c (fun env=>spliced (backTo pos (starEach es env))) (evs R Es)):
  EvT g h0 n c (fun env=>eval (.Tuple es kd pos) env) (al R lo Φ (.tup Es)):=fun fr fr' o e=>
 ifE e fun hz e=>bE2 e fun vs fr1 e1 e=>sp e fun k W s ρ env A Q Ex Rm O q=>wpAny_Tuple (hes fr fr1 vs e1 k W s ρ env A _ Ex Rm O fun W1 h1 t1 xs O1 S1 r1=>
  ⟨by rw[r1.length,evs_len e1];exact Nat.le_trans hz cS,VAfter.tup (s:={ s with heap:=h1,toks:=t1 }) (k:=k) (m:=0) (q.grow O1 S1 t1) O1.wf r1 t1⟩)
theorem ev_list{es:List Expr}{Es:List E}{pos:Pos}(hes:EvsT g h0 n c (fun env=>spliced (backTo pos (starEach es env))) (evs R Es)):
  EvT g h0 n c (fun env=>eval (.List es pos) env) (al R lo Φ (.list Es)):=fun fr fr' o e=>
 ifE e fun hz e=>bE2 e fun vs fr1 e1 e=>sp e fun k W s ρ env A Q Ex Rm O q=>wpAny_List (hes fr fr1 vs e1 k W s ρ env A _ Ex Rm O fun W1 h1 t1 xs O1 S1 r1=>
  ⟨by rw[r1.length,evs_len e1];exact Nat.le_trans hz cS,VAfter.list (s:={ s with heap:=h1,toks:=t1 }) (k:=k) (m:=0) (q.grow O1 S1 t1) O1.wf r1 t1⟩)
end
section
variable {g:G} {h0:Heap} {N:aR} {n:Nat} {c:Ctx} {R:Rec} {lo:Nat} {Φ:Nat→List Own→Option (Own×Own)}
theorem evB_of{E:E}{fr fr':Fr}{b:Bool}(e:evB R E fr=some (b,fr')):evV R E fr=some (.bool b,fr'):=
 bE2 e fun v fr1 e1 e=>bE e fun b' e2 e=>sp (P:=fun b f=>evV R E fr=some (.bool b,f)) e (e1.trans (congrArg (fun x=>some (x,fr1)) (vBool_ok e2)))
theorem evB_E{E:E}{t:Env→Sem Value}{fr fr':Fr}{b:Bool}(x:EvT g h0 n c t (R.ev E))(e:evB R E fr=some (b,fr')):EvVAt g h0 n c t fr (.bool b) fr':=x.v fr fr' _ (evB_of e)
theorem bo_val{x:Expr}{t:Env→Sem Value}{E:E}(ht:∀ env,isTrue x env (t env)=(do let v ← t env;standAt x.pos;holding [v] (truthy v)))(ha:EvT g h0 n c t (R.ev E)):
  BoT g h0 n c (fun env=>isTrue x env (t env)) (evB R E):=fun fr fr' b e k W s ρ env A Q Ex Rm O q=>
 wpAny_isTrue_value (evB_E ha e k W s ρ env A _ Ex Rm O fun W1 h1 t1 y O1 S1 r1=>r1.boolE▸wpAny_truthy_bool (q W1 h1 t1 O1 S1)) (ht env)
theorem evB_map{E:E}{f:Fr→Option (Bool×Fr)}(hE:R.ev E=fun fr=>(f fr).bind fun p=>some (.v (.bool p.1),p.2)){fr fr':Fr}{b:Bool}(e:evB R E fr=some (b,fr')):f fr=some (b,fr'):=by
 have e:=evB_of e
 unfold evV at e
 rw[hE] at e
 exact bE2 e fun o fr1 e1 e=>bE2 e1 fun b' fr2 e2 e1=>by cases e1;cases e;exact e2
structure Tst (g:G) (h0:Heap) (n:Nat) (c:Ctx) (x:Expr) (ev:Fr→Option (Own×Fr)) (bo:Fr→Option (Bool×Fr)):Prop where
 ev:EvT g h0 n c (fun env=>eval x env) ev
 bo:BoT g h0 n c (fun env=>isTrue x env (eval x env)) bo
theorem ev_not{x:Expr}{a:E}{pos:Pos}(ha:EvT g h0 n c (fun env=>eval x env) (R.ev a)):EvT g h0 n c (fun env=>eval (.UnaryOp .Not x pos) env) (al R lo Φ (.not a)):=fun fr fr' o e=>
 bE2 e fun b fr1 e1 e=>sp e fun k W s ρ env A Q Ex Rm O q=>wpAny_UnaryOp (evB_E ha e1 k W s ρ env A _ Ex Rm O fun W1 h1 t1 y O1 S1 r1=>r1.boolE▸PyProof.Rows.not_of (wpAny_truthy_bool (q W1 h1 t1 _ O1 S1 (.v (.bool _)))))
theorem bo_not{x:Expr}{pos:Pos}{f:Fr→Option (Bool×Fr)}(ha:BoT g h0 n c (fun env=>isTrue x env (eval x env)) f):
  BoT g h0 n c (fun env=>isTrue (.UnaryOp .Not x pos) env (eval (.UnaryOp .Not x pos) env)) (fun fr=>(f fr).bind fun p=>some (!p.1,p.2)):=fun fr fr' b e=>
 bE2 e fun b' fr1 e1 e=>sp e fun k W s ρ env A Q Ex Rm O q=>wpAny_isTrue_Not (ha fr fr1 b' e1 k W s ρ env A _ Ex Rm O fun W1 h1 t1 O1 S1=>q W1 h1 t1 O1 S1)
theorem BoAt.then{t t2:Env→Sem Bool}{fr fr1 fr':Fr}{b b':Bool}(h1:BoAt g h0 n c t fr b fr1)(h2:BoAt g h0 n c t2 fr1 b' fr'){k:Nat}{W:Wd}{s:Shared}{ρ:Nat→Option Value}{env:Env}{A:Around}{Q:Bool→Shared→Prop}{Q1:Bool→Shared→Prop}{Ex:Value→Shared→Prop}
  (Rm:Room A n) (O:Ok g h0 c env ρ W s.heap fr) (q:∀ W' h' t',Ok g h0 c env ρ W' h' fr'→Step k noX W s.heap W' h'→Q b' { s with heap:=h',toks:=t' })
  (m:∀ s1,wpAny (model g.prog g.w) A (t2 env) Q Ex s1→Q1 b s1):wpAny (model g.prog g.w) A (t env) Q1 Ex s:=
 h1 k W s ρ env A _ Ex Rm O fun W1 h1 t1 O1 S1=>m _ (h2 k W1 _ ρ env A Q Ex Rm O1 fun W2 h2 t2 O2 S2=>q W2 h2 t2 O2 (S1.trans S2))
theorem bools_and{xs:List Expr}:∀ {Es:List E},xs.length=Es.length→(∀ p∈xs.zip Es,BoT g h0 n c (fun env=>isTrue p.1 env (eval p.1 env)) (evB R p.2))→
  BoT g h0 n c (fun env=>allTrue .And xs env) (evAnd R Es):=by
 induction xs with
 | nil=>
  intro Es hl _
  cases List.length_eq_zero_iff.mp hl.symm
  exact fun fr fr' b e=>sp e fun k W s ρ env A Q Ex Rm O q=>wpAny_allTrue_And_nil (q W s.heap s.toks O .refl)
 | cons x xs ih=>
  intro Es hl hp
  cases Es with
  | nil=>cases hl
  | cons E Es=>
   have h1:=hp (x,E) (List.mem_cons_self ..)
   have h2:=ih (Nat.succ.inj hl) fun p h=>hp p (List.mem_cons_of_mem _ h)
   refine fun fr fr' b e=>bE2 e fun b1 fr1 e1 e=>?_
   cases b1 with
   | true=>exact fun k W s ρ env A Q Ex Rm O q=>wpAny_allTrue_And_cons ((h1 fr fr1 true e1).then (h2 fr1 fr' b e) Rm O q fun _ z=>z)
   | false=>exact sp e fun k W s ρ env A Q Ex Rm O q=>wpAny_allTrue_And_cons (h1 fr fr1 false e1 k W s ρ env A _ Ex Rm O q)
theorem bools_or{xs:List Expr}:∀ {Es:List E},xs.length=Es.length→(∀ p∈xs.zip Es,BoT g h0 n c (fun env=>isTrue p.1 env (eval p.1 env)) (evB R p.2))→
  BoT g h0 n c (fun env=>allTrue .Or xs env) (evOr R Es):=by
 induction xs with
 | nil=>
  intro Es hl _
  cases List.length_eq_zero_iff.mp hl.symm
  exact fun fr fr' b e=>sp e fun k W s ρ env A Q Ex Rm O q=>wpAny_allTrue_Or_nil (q W s.heap s.toks O .refl)
 | cons x xs ih=>
  intro Es hl hp
  cases Es with
  | nil=>cases hl
  | cons E Es=>
   have h1:=hp (x,E) (List.mem_cons_self ..)
   have h2:=ih (Nat.succ.inj hl) fun p h=>hp p (List.mem_cons_of_mem _ h)
   refine fun fr fr' b e=>bE2 e fun b1 fr1 e1 e=>?_
   cases b1 with
   | false=>exact fun k W s ρ env A Q Ex Rm O q=>wpAny_allTrue_Or_cons ((h1 fr fr1 false e1).then (h2 fr1 fr' b e) Rm O q fun _ z=>z)
   | true=>exact sp e fun k W s ρ env A Q Ex Rm O q=>wpAny_allTrue_Or_cons (h1 fr fr1 true e1 k W s ρ env A _ Ex Rm O q)
theorem dl{pos:Pos}{op:BoolOp}{x y:Sem Value}{l:List (Sem Value)}{b:Bool}{A:Around}{s:Shared}{Q:Value→Shared→Prop}{Ex:Value→Shared→Prop}
  (h:wpAny (model g.prog g.w) A x (fun v s=>v=.bool b∧(match op with | .And=>if b then wpAny (model g.prog g.w) A (boolOp pos op (y::l)) Q Ex s else Q (.bool b) s | .Or=>if b then Q (.bool b) s else wpAny (model g.prog g.w) A (boolOp pos op (y::l)) Q Ex s)) Ex s):
  wpAny (model g.prog g.w) A (boolOp pos op (x::y::l)) Q Ex s:=by
 unfold boolOp
 refine wpAny_bind (wpAny_mono h (fun v s1 h1=>?_) fun _ _ z=>z)
 rw[h1.1]
 refine wpAny_bind (wpAny_standAt (wpAny_bind (wpAny_holding (wpAny_truthy_bool ?_))))
 have h2:=h1.2
 cases op <;> cases b <;> first | exact h2 | exact wpAny_pure h2
theorem vals_and{pos:Pos}{xs:List Expr}:∀ {x:Expr} {E:E} {Es:List Mine.E},xs.length=Es.length→(∀ p∈(x::xs).zip (E::Es),EvT g h0 n c (fun env=>eval p.1 env) (R.ev p.2))→
  ∀ (fr fr':Fr) (b:Bool),evAnd R (E::Es) fr=some (b,fr')→EvVAt g h0 n c (fun env=>boolOp pos .And (evalEach (x::xs) env)) fr (.bool b) fr':=by
 induction xs with
 | nil=>
  intro x E Es hl hp fr fr' b e
  cases List.length_eq_zero_iff.mp hl.symm
  refine bE2 e fun b1 fr1 e1 e=>?_
  have e:some (b1,fr1)=some (b,fr'):=by cases b1 <;> exact e
  exact sp (P:=fun b f=>EvVAt g h0 n c _ fr (.bool b) f) e (evB_E (hp (x,E) (List.mem_cons_self ..)) e1)
 | cons x2 xs ih=>
  intro x E Es hl hp fr fr' b e
  cases Es with
  | nil=>cases hl
  | cons E2 Es=>
   have h1:=hp (x,E) (List.mem_cons_self ..)
   have h2:=ih (x:=x2) (E:=E2) (Nat.succ.inj hl) fun p h=>hp p (List.mem_cons_of_mem _ h)
   refine bE2 e fun b1 fr1 e1 e=>?_
   cases b1 with
   | true=>exact fun k W s ρ env A Q Ex Rm O q=>dl (b:=true) (evB_E h1 e1 k W s ρ env A _ Ex Rm O fun W1 h1 t1 y O1 S1 r1=>⟨r1.boolE,h2 _ _ _ e k W1 _ ρ env A _ Ex Rm O1 fun W2 h2 t2 y O2 S2 r2=>q W2 h2 t2 y O2 (S1.trans S2) r2⟩)
   | false=>exact sp (P:=fun b f=>EvVAt g h0 n c _ fr (.bool b) f) e fun k W s ρ env A Q Ex Rm O q=>dl (b:=false) (evB_E h1 e1 k W s ρ env A _ Ex Rm O fun W1 h1 t1 y O1 S1 r1=>⟨r1.boolE,q W1 h1 t1 _ O1 S1 (.bool _)⟩)
theorem vals_or{pos:Pos}{xs:List Expr}:∀ {x:Expr} {E:E} {Es:List Mine.E},xs.length=Es.length→(∀ p∈(x::xs).zip (E::Es),EvT g h0 n c (fun env=>eval p.1 env) (R.ev p.2))→
  ∀ (fr fr':Fr) (b:Bool),evOr R (E::Es) fr=some (b,fr')→EvVAt g h0 n c (fun env=>boolOp pos .Or (evalEach (x::xs) env)) fr (.bool b) fr':=by
 induction xs with
 | nil=>
  intro x E Es hl hp fr fr' b e
  cases List.length_eq_zero_iff.mp hl.symm
  refine bE2 e fun b1 fr1 e1 e=>?_
  have e:some (b1,fr1)=some (b,fr'):=by cases b1 <;> exact e
  exact sp (P:=fun b f=>EvVAt g h0 n c _ fr (.bool b) f) e (evB_E (hp (x,E) (List.mem_cons_self ..)) e1)
 | cons x2 xs ih=>
  intro x E Es hl hp fr fr' b e
  cases Es with
  | nil=>cases hl
  | cons E2 Es=>
   have h1:=hp (x,E) (List.mem_cons_self ..)
   have h2:=ih (x:=x2) (E:=E2) (Nat.succ.inj hl) fun p h=>hp p (List.mem_cons_of_mem _ h)
   refine bE2 e fun b1 fr1 e1 e=>?_
   cases b1 with
   | false=>exact fun k W s ρ env A Q Ex Rm O q=>dl (b:=false) (evB_E h1 e1 k W s ρ env A _ Ex Rm O fun W1 h1 t1 y O1 S1 r1=>⟨r1.boolE,h2 _ _ _ e k W1 _ ρ env A _ Ex Rm O1 fun W2 h2 t2 y O2 S2 r2=>q W2 h2 t2 y O2 (S1.trans S2) r2⟩)
   | true=>exact sp (P:=fun b f=>EvVAt g h0 n c _ fr (.bool b) f) e fun k W s ρ env A Q Ex Rm O q=>dl (b:=true) (evB_E h1 e1 k W s ρ env A _ Ex Rm O fun W1 h1 t1 y O1 S1 r1=>⟨r1.boolE,q W1 h1 t1 _ O1 S1 (.bool _)⟩)
theorem EvVAt.o{t:Env→Sem Value}{fr fr':Fr}{v:V}(x:EvVAt g h0 n c t fr v fr'):EvAt g h0 n c t fr (.v v) fr':=fun k W s ρ env A Q Ex Rm O q=>x k W s ρ env A Q Ex Rm O fun W1 h1 t1 y O1 S1 r1=>q W1 h1 t1 y O1 S1 (.v r1)
theorem ev_and{xs:List Expr}{Es:List E}{pos:Pos}(hne:xs≠[])(hl:xs.length=Es.length)(hp:∀ p∈xs.zip Es,EvT g h0 n c (fun env=>eval p.1 env) (R.ev p.2)):
  EvT g h0 n c (fun env=>eval (.BoolOp .And xs pos) env) (al R lo Φ (.and Es)):=fun fr fr' o e=>bE2 e fun b fr1 e1 e=>sp e (by
 cases xs with
 | nil=>exact absurd rfl hne
 | cons x xs=>cases Es with
  | nil=>cases hl
  | cons E Es=>exact(vals_and (Nat.succ.inj hl) hp _ _ _ e1).o)
theorem ev_or{xs:List Expr}{Es:List E}{pos:Pos}(hne:xs≠[])(hl:xs.length=Es.length)(hp:∀ p∈xs.zip Es,EvT g h0 n c (fun env=>eval p.1 env) (R.ev p.2)):
  EvT g h0 n c (fun env=>eval (.BoolOp .Or xs pos) env) (al R lo Φ (.or Es)):=fun fr fr' o e=>bE2 e fun b fr1 e1 e=>sp e (by
 cases xs with
 | nil=>exact absurd rfl hne
 | cons x xs=>cases Es with
  | nil=>cases hl
  | cons E Es=>exact(vals_or (Nat.succ.inj hl) hp _ _ _ e1).o)
theorem bo_boolOp{op:BoolOp}{xs:List Expr}{pos:Pos}{f:Fr→Option (Bool×Fr)}(h:BoT g h0 n c (fun env=>allTrue op xs env) f):
  BoT g h0 n c (fun env=>isTrue (.BoolOp op xs pos) env (eval (.BoolOp op xs pos) env)) f:=fun fr fr' b e k W s ρ env A Q Ex Rm O q=>
 wpAny_isTrue_BoolOp (h fr fr' b e k W s ρ env A Q Ex Rm O q)
theorem ev_ite{x y z:Expr}{a b d:E}{pos:Pos}(ha:BoT g h0 n c (fun env=>isTrue x env (eval x env)) (evB R a))(hb:EvT g h0 n c (fun env=>eval y env) (R.ev b))(hd:EvT g h0 n c (fun env=>eval z env) (R.ev d)):
  EvT g h0 n c (fun env=>eval (.IfExp x y z pos) env) (al R lo Φ (.ite a b d)):=fun fr fr' o e=>
 bE2 e fun t fr1 e1 e=>by
  cases t with
  | true=>exact fun k W s ρ env A Q Ex Rm O q=>wpAny_IfExp (ha fr fr1 true e1 k W s ρ env A _ Ex Rm O fun W1 h1 t1 O1 S1=>hb fr1 fr' o e k W1 _ ρ env A Q Ex Rm O1 fun W2 h2 t2 y O2 S2 r2=>q W2 h2 t2 y O2 (S1.trans S2) r2)
  | false=>exact fun k W s ρ env A Q Ex Rm O q=>wpAny_IfExp (ha fr fr1 false e1 k W s ρ env A _ Ex Rm O fun W1 h1 t1 O1 S1=>hd fr1 fr' o e k W1 _ ρ env A Q Ex Rm O1 fun W2 h2 t2 y O2 S2 r2=>q W2 h2 t2 y O2 (S1.trans S2) r2)
end
section
variable {g:G} {h0:Heap} {N:aR} {n:Nat} {c:Nat} {h:Heap} {A:Around} {Ex:Value→Shared→Prop} {s:Shared} {W:Wd}
theorem Frag.In.mono{K:PySem.W.Frag}{h h':Heap}(x:K.In h)(e:∀ a o,h.get? a=some o→h'.get? a=some o):K.In h':=fun a o q=>e _ _ (x a o q)
theorem kin_at(B:bV g h0 N)(w:WF h0 W h):N.K.In h:=Frag.In.mono B.kin fun a o e=>(w.base a o e).2
theorem AD.look{d:Addr}{m:Str→Option Value}(x:AD h d m)(y:Str):∃ o,h.get? d=some o∧PySem.W.lookIn y o=some (m y):=by
 obtain ⟨es,ep,ho,hk,hm,hz⟩:=x
 refine⟨_,ho,?_⟩
 unfold PySem.W.lookIn
 dsimp only
 rw[← hm y,nsFind,findBy,← Array.find?_toList]
 split
 ·rename_i e he;rw[he];rfl
 ·rename_i he
  rw[he]
  have:es.toList.any (·.refKey)=false:=by
   rw[List.any_eq_false];intro e he;obtain ⟨n,t,h⟩:=hk e (by simpa using he);simp [DictEntry.refKey,h]
  rw[this];rfl
theorem inst_at{a d C:Addr}{m:Str→Option Value}(ho:h.get? a=some (eS C d))(x:AD h d m)(y:Str):∃ od,PySem.W.InstAt h a (eS C d) C (some od)∧h.get? d=some od∧PySem.W.lookIn y od=some (m y):=by
 obtain ⟨o,h1,h2⟩:=x.look y
 exact⟨o,⟨ho,rfl,rfl,h1⟩,h1,h2⟩
theorem find_attr{C:Addr}{od:Obj}{y:Str}{v:Value}{K:PySem.W.Frag}(hd:(PySem.W.clsIn K C).any (·.hasDict)=true)(ha:PySem.W.findIn K (.ref C) y=some none)(hl:PySem.W.lookIn y od=some (some v)):
  PySem.W.findObj K C (some od) y=some (.value v):=by
 obtain ⟨cd,e1,e2⟩:=PySem.W.any_some hd
 unfold PySem.W.findObj PySem.W.ownOf
 rw[e1,ha]
 simp [e2,hl]
theorem eU(B:bV g h0 N)(w:WF h0 W s.heap){a d:Addr}{m:Str→Option Value}(ho:s.heap.get? a=some (eS (g.ca c) d))(x:AD s.heap d m){y:Str}(hy:y∈attrNames){v:Value}(hv:m y=some v)
  (hh:PySem.W.handedIn v=true) {Q:Value→Shared→Prop} {ex:Bool} (q:∀ t,Q v { s with toks:=t }):wpAny (model g.prog g.w) A (getAttr (.ref a) y ex) Q Ex s:=by
 obtain ⟨od,I,_,hl⟩:=inst_at ho x y
 have K:=B.cls c
 exact PySem.W.get_value (kin_at B w) I K.hga (find_attr K.cd (K.att y hy) (by rw[hl,hv])) hh (q _)
theorem filter_put{m:Str→Option Value}{y:Str}{v:Value}{l:List Str}:l.Nodup→y∈l→
  (l.filter fun x=>((if x=y then some v else m x):Option Value).isNone).length+(if (m y).isNone then 1 else 0)=(l.filter fun x=>(m x).isNone).length:=by
 induction l with
 | nil=>intro _ h;cases h
 | cons z l ih=>
  intro nd h
  rw[List.nodup_cons] at nd
  rw[List.filter_cons,List.filter_cons]
  by_cases e:z=y
  ·subst e
   rw[List.filter_congr (q:=fun x=>(m x).isNone) fun x hx=>by rw[if_neg fun e:x=z=>nd.1 (e▸hx)],if_pos rfl]
   cases m z <;> rfl
  ·have ih:=ih nd.2 ((List.mem_cons.mp h).resolve_left fun z=>e z.symm)
   rw[if_neg e]
   cases m z with
   | none=>show _+1+_=_+1;lia
   | some=>exact ih
theorem attr_nodup:attrNames.Nodup:=by decide +kernel
theorem put_dict{es:Array DictEntry}{ep:Nat}{m:Str→Option Value}(hk:StrKeys es)(hm:∀ x,nsFind es x=m x)(hz:es.size+(attrNames.filter fun x=>(m x).isNone).length≤17){y:Str}(hy:y∈attrNames)(hash:Int)(tk:Tok)(v:Value):
  ∃ es' n',Obj.putName y hash (.str y tk) v { cls:=.type "dict",data:=.dict es ep }={ cls:=.type "dict",data:=.dict es' n' }∧StrKeys es'∧(∀ x,nsFind es' x=if x=y then some v else m x)∧
   es'.size+(attrNames.filter fun x=>((if x=y then some v else m x):Option Value).isNone).length≤17:=by
 have hf:=filter_put (m:=m) (v:=v) attr_nodup hy
 cases hi:es.findIdx? (·.key.isStr y) with
 | some i=>
  refine⟨_,ep,by simp only[Obj.putName_eq,Obj.putNameByArray,hi] <;> rfl,hk.modify _ _,fun x=>?_,?_⟩
  ·rw[← hm];exact findBy_modify (fun n v=>v.isStr n) Value.isStr_inj es y x v i hi
  ·rw[Array.size_modify];lia
 | none=>
  have hn:m y=none:=by
   rw[← hm,nsFind,findBy]
   have:es.find? (fun e=>e.key.isStr y)=none:=by
    rw[Array.find?_eq_none];intro e he;simpa using (Array.findIdx?_eq_none_iff.mp hi) e he
   rw[this];rfl
  refine⟨_,ep+1,by simp only[Obj.putName_eq,Obj.putNameByArray,hi] <;> rfl,hk.push _ _ _ _,fun x=>?_,?_⟩
  ·rw[← hm]
   exact findBy_push (fun n v=>v.isStr n) es y x _ _ v (fun z=>by
    show (y==z)=decide (z=y)
    by_cases h:z=y
    ·subst h;simp
    ·have:¬ y=z:=fun e=>h e.symm
     simp [h,this]) hi
  ·rw[Array.size_push]
   rw[hn] at hf
   have hf:(attrNames.filter fun x=>((if x=y then some v else m x):Option Value).isNone).length+1=(attrNames.filter fun x=>(m x).isNone).length:=hf
   lia
theorem nsSet_ok{d:Addr}{m:Str→Option Value}(x:AD s.heap d m){y:Str}(hy:y∈attrNames)(v:Value){Q:Unit→Shared→Prop}
  (q:∀ h' t es n,h'.get? d=some { cls:=.type "dict",data:=.dict es n }→es.size≤17→AD h' d (fun z=>if z=y then some v else m z)→Heap.SameBut d s.heap h'→Q () { s with heap:=h',toks:=t }):wpAny (model g.prog g.w) A (nsSet d y v) Q Ex s:=
 exE x fun es x=>exE x fun ep x=>by
  unfold nsSet
  refine wpAny_bind (wpAny_bind (wpAny_askSetting (wpAny_pure (wpAny_bind (wpAny_mkText (wpAny_bind (wpAny_loadPart x.1 ?_)))))))
  have hany:es.any (·.refKey)=false:=by
   rw[Array.any_eq_false'];intro e he;obtain ⟨n,t,h⟩:=x.2.1 e he;simp [DictEntry.refKey,h]
  have cc:(!es.any (·.key.isStr y)&&es.any (·.refKey))=false:=by rw[hany,Bool.and_false]
  dsimp only
  rw[aRefKeyMayBeTheName_at,cc]
  refine wpAny_updatePart x.1 ?_
  refine exE (put_dict (ep:=ep) x.2.1 x.2.2.1 x.2.2.2.1 hy (PyData.keyHash g.w.params y) s.toks v) fun es' p=>exE p fun n' p=>?_
  have D':=Heap.get?_update_self (Obj.putName y (PyData.keyHash g.w.params y) (.str y s.toks) v) x.1 (by rw[p.1];rfl)
  rw[p.1] at D'
  exact q _ _ es' n' D' (by have:=p.2.2.2;lia) ⟨es',n',D',p.2.1,p.2.2.1,p.2.2.2,fun z hz=>(if_neg fun e:z=y=>hz (e▸hy)).trans (x.2.2.2.2 z hz)⟩ (Heap.SameBut.update ..)
theorem set_attr(B:bV g h0 N)(w:WF h0 W s.heap){a d:Addr}{m:Str→Option Value}(ho:s.heap.get? a=some (eS (g.ca c) d))(x:AD s.heap d m){y:Str}(hy:y∈attrNames)(v:Value){Q:Unit→Shared→Prop}
  (q:∀ h' t,AD h' d (fun z=>if z=y then some v else m z)→Heap.SameBut d s.heap h'→Q () { s with heap:=h',toks:=t }):wpAny (model g.prog g.w) A (setAttr (.ref a) y v) Q Ex s:=
 exE (inst_at ho x y) fun od I=>by
  have K:=B.cls c
  have X:=kin_at B w
  refine PySem.W.set_plain X I.1 K.hsa ?_
  have ht:PySem.W.takerIn N.K (g.ca c) y=some none:=by unfold PySem.W.takerIn;rw[K.att y hy];rfl
  refine PySem.W.osa_open (s:={ s with toks:=s.toks+1 }) X I.1 K.over ht fun b=>?_
  refine exE (PySem.W.any_some K.cd) fun cd hc=>?_
  refine wpAny_bind (wpAny_pure (wpAny_bind (wpAny_bind (wpAny_loadPart (o:=eS (g.ca c) d) ho (wpAny_bind ((PySem.W.looks_clsIn X hc.1) _ _ _ _ (fun _ _ e=>e) ?_))))))
  rw[hc.2]
  exact wpAny_pure (a:=some d) (wpAny_bind (wpAny_pure (wpAny_bind (nsSet_ok (s:={ s with toks:=s.toks+1 }) x hy v fun h' t es n D hs AD SB=>wpAny_bind (wpAny_lookBehind (o:={ cls:=.type "dict",data:=.dict es n }) D (pastItsLine_dict (by rw[sizeLine_eq];lia)) (wpAny_pure (q h' t AD SB)))))))
end
section
variable {g:G} {h0:Heap} {N:aR} {n:Nat} {c:Ctx} {R:Rec} {lo:Nat} {Φ:Nat→List Own→Option (Own×Own)} {W:Wd} {h:Heap}
theorem Rep.handed{v:V}{x:Value}(r:Rep g W h v x)(hv:v≠.undef):PySem.W.handedIn x=true:=by
 cases r <;> first | rfl | exact absurd rfl hv
inductive El (g:G) (W:Wd) (h:Heap) (r:Nat→Role) (m:Str→Option Value) (p:Nat):O1→Prop
 | none:El g W h r m p (.v .undef)
 | v {v:V} {x:Value}:m (an p)=some x→Rep g W h v x→El g W h r m p (.v v)
 | list {b:Addr} {n:Nat} {vs:List V} {xs:List Value}:m (an p)=some (.ref b)→W b=r (3+p)→h.get? b=some (bO xs n)→Reps g W h vs xs→El g W h r m p (.list vs)
theorem Repoa.at{r:Nat→Role}{m:Str→Option Value}{l:List O1}:∀ {k:Nat},Repoa g W h r m k l→∀ {j:Nat} {o:O1},l[j]?=some o→El g W h r m (k+j) o:=by
 induction l with
 | nil=>intro k _ j o e;cases e
 | cons u l ih=>
  intro k x j o e
  cases j with
  | zero=>cases e;cases x with
   | none _=>exact .none
   | cons a b _=>exact .v a b
   | list a b c d _=>exact .list a b c d
  | succ j=>rw[show k+(j+1)=k+1+j by lia];cases x with
   | none z=>exact ih z e
   | cons _ _ z=>exact ih z e
   | list _ _ _ _ z=>exact ih z e
theorem Repoa.of{r:Nat→Role}{m:Str→Option Value}{l:List O1}:∀ {k:Nat},(∀ j o,l[j]?=some o→El g W h r m (k+j) o)→Repoa g W h r m k l:=by
 induction l with
 | nil=>intro k _;exact .nil
 | cons u l ih=>
  intro k x
  have y:=ih (k:=k+1) fun j o e=>by rw[show k+1+j=k+(j+1) by lia];exact x (j+1) o e
  cases x 0 u rfl with
  | none=>exact .none y
  | v a b=>exact .cons a b y
  | list a b c d=>exact .list a b c d y
theorem Repoa.el{r:Nat→Role}{m:Str→Option Value}{l:List O1}(x:Repoa g W h r m 0 l){j:Nat}{o:O1}(e:l[j]?=some o):El g W h r m j o:=Nat.zero_add j▸x.at e
theorem Repoa.mk{r:Nat→Role}{m:Str→Option Value}{l:List O1}(x:∀ j o,l[j]?=some o→El g W h r m j o):Repoa g W h r m 0 l:=.of fun j o e=>(Nat.zero_add j).symm▸x j o e
theorem El.get{r:Nat→Role}{m:Str→Option Value}{p:Nat}{o:O1}{v:V}{G:Prop}(x:El g W h r m p o)(ev:o.frz.ok=some v)(k:∀ x,m (an p)=some x→Vw g W h v x→PySem.W.handedIn x=true→G):G:=by
 cases x with
 | none=>cases ev
 | @v u x a b=>
  have hv:u=v:=(c7 ev).1
  subst hv
  exact k _ a b.vw (b.handed (c7 ev).2)
 | list a b c d=>exact k _ a ⟨fun _=>r (3+p),.list _,(c7 ev).1,.list b c d⟩ rfl
theorem El.turn{r:Nat→Role}{m:Str→Option Value}{p:Nat}{o:O1}{f:Role→Role}(hf:f .frz=.frz)(hp:f (r (3+p))=r (3+p))(x:El g W h r m p o):El g (fun a=>f (W a)) h r m p o:=by
 have S:cy W h (fun a=>f (W a)) h:=fun _ _ e ho=>⟨(congrArg f e).trans hf,ho⟩
 cases x with
 | none=>exact .none
 | v a b=>exact .v a (b.stay S)
 | list a b c d=>exact .list a ((congrArg f b).trans hp) c (d.stay S)
theorem El.frz{r:Nat→Role}{m:Str→Option Value}{p:Nat}{o:O1}{v:V}{f:Role→Role}(hf:f .frz=.frz)(hp:f (r (3+p))=.frz)(x:El g W h r m p o)(ev:o.frz.ok=some v):∃ x,m (an p)=some x∧Rep g (fun a=>f (W a)) h v x:=by
 have S:cy W h (fun a=>f (W a)) h:=fun _ _ e ho=>⟨(congrArg f e).trans hf,ho⟩
 cases x with
 | none=>cases ev
 | @v u x a b=>
  have hv:u=v:=(c7 ev).1
  subst hv
  exact⟨_,a,b.stay S⟩
 | @list b n vs xs a b c d=>
  have hv:V.list vs=v:=(c7 ev).1
  subst hv
  exact⟨_,a,.list ((congrArg f b).trans hp) c (d.stay S)⟩
theorem Repa.get{m:Str→Option Value}{l:List V}:∀ {k:Nat},Repa g W h m k l→∀ {j:Nat} {u v:V},l[j]?=some u→u.ok=some v→∃ x,m (an (k+j))=some x∧Rep g W h v x:=by
 induction l with
 | nil=>intro k _ j u v e;cases e
 | cons u l ih=>
  intro k x j u' v e ev
  cases j with
  | zero=>cases e;cases x with
   | none _=>cases ev
   | cons a b _=>exact⟨_,a,(c7 ev).1▸b⟩
  | succ j=>rw[show k+(j+1)=k+1+j by lia];cases x with
   | none z=>exact ih z e ev
   | cons _ _ z=>exact ih z e ev
theorem RepO.instE{r:Nat→Role}{c:Nat}{l:List O1}{x:Value}{G:Prop}(y:RepO g W h r (.inst c l) x)(k:∀ a d m,x=.ref a→W a=r 1→W d=r 2→h.get? a=some (eS (g.ca c) d)→AD h d m→Repoa g W h r m 0 l→G):G:=by
 cases y with | inst a b c d e=>exact k _ _ _ rfl a b c d e
theorem RepO.vE{r:Nat→Role}{v:V}{x:Value}(y:RepO g W h r (.v v) x):Rep g W h v x:=by cases y;assumption
theorem dP{prog:Program}{w:World}{A:Around}{Ex:Value→Shared→Prop}{s:Shared}{env:Env}{x y:Str}{p pos:Pos}{Q:Value→Shared→Prop}
  (h:wpAny (model prog w) A (eval (.Name x p) env) (fun o s₁=>wpAny (model prog w) A (getAttr o y true) Q Ex s₁) Ex s):wpAny (model prog w) A (eval (.Attribute (.Name x p) y pos) env) Q Ex s:=by
 show wpAny (model prog w) A (do
  let o ← attributeBase (.Name x p) y env (eval (.Name x p) env)
  standAt pos.atName
  let r ← holding [o] (getAttr o y true)
  letTemporaryGo (.Name x p) o r
  pure r) Q Ex s
 refine wpAny_bind (wpAny_mono (show wpAny (model prog w) A (attributeBase (.Name x p) y env (eval (.Name x p) env)) _ _ _ from h) (fun o s1 h1=>?_) fun _ _ e=>e)
 exact wpAny_bind (wpAny_standAt (wpAny_bind (wpAny_holding (wpAny_mono h1 (fun r s2 h2=>wpAny_bind (wpAny_letTemporaryGo (wpAny_pure h2))) fun _ _ e=>e))))
theorem dQ{a:Nat}(ha:a<17):an a∈attrNames:=by
 unfold an
 rw[List.getD_eq_getElem?_getD,List.getElem?_eq_getElem (show a<attrNames.length from ha)]
 exact List.getElem_mem _
noncomputable def frzA(i a:Nat):Role→Role
 | .slot j p=>if j=i∧p=3+a then .frz else .slot j p
 | r=>r
theorem frzA_slot(i a:Nat)(j p:Nat):frzA i a (.slot j p)=.slot j p∨frzA i a (.slot j p)=.frz:=by unfold frzA;dsimp only;split <;> simp
theorem frzA_low(i a j p:Nat)(hp:p<3):frzA i a (.slot j p)=.slot j p:=if_neg (by lia)
theorem Ok.frzAttr{env:Env}{ρ:Nat→Option Value}{fr:Fr}{k:Nat}{G:Prop}(O:Ok g h0 c env ρ W h fr){i a cc:Nat}{as:List O1}{o1:O1}{v:V}(hfr:fr[i]?=some (.inst cc as))(e1:as[a]?=some o1)(e2:o1.frz.ok=some v)
  (K:∀ b d m z W',ρ i=some (.ref b)→h.get? b=some (eS (g.ca cc) d)→AD h d m→m (an a)=some z→Ok g h0 c env ρ W' h (fr.set i (.inst cc (as.set a (.v v))))→Step k noX W h W' h→Rep g W' h v z→G):G:=
 O.heldO hfr nofun fun y hy r=>r.instE fun b d m hb b1 b2 b3 b4 b5=>by
  subst hb
  refine exE ((b5.el e1).frz (f:=frzA i a) rfl (show frzA i a (.slot i (3+a))=.frz from if_pos ⟨rfl,rfl⟩) e2) fun z hz=>?_
  have S:Step k noX W h (fun b=>frzA i a (W b)) h:=step_slot rfl rfl rfl (frzA_slot i a) fun _ _ _=>rfl
  refine K b d m z _ hy b3 b4 hz.1 ⟨O.wf.map rfl rfl,O.env.step S,O.st.mapI (f:=frzA i a) rfl (fun j p hj=>if_neg fun z=>hj z.1) (.inr ⟨_,hy,.inst ((congrArg (frzA i a) b1).trans (frzA_low i a i 1 (by decide))) ((congrArg (frzA i a) b2).trans (frzA_low i a i 2 (by decide))) b3 b4 (.mk fun j o e=>?_)⟩)⟩ S hz.2
  ·rw[List.getElem?_set] at e
   by_cases hj:a=j
   ·rw[if_pos hj] at e
    subst hj
    exact ifE e fun _ e=>by cases e;exact .v hz.1 hz.2
   ·rw[if_neg hj] at e
    exact(b5.el e).turn rfl (if_neg (by lia))
theorem Ok.atV{env:Env}{ρ:Nat→Option Value}{fr:Fr}{G:Prop}(O:Ok g h0 c env ρ W h fr){i a cc:Nat}{as:List V}{u v:V}(hfr:fr[i]?=some (.v (.inst cc as)))(e1:as[a]?=some u)(e2:u.ok=some v)
  (K:∀ b d m z,ρ i=some (.ref b)→h.get? b=some (eS (g.ca cc) d)→AD h d m→m (an a)=some z→Rep g W h v z→G):G:=
 O.heldO hfr nofun fun y hy r=>r.vE.instE fun b d m hb b1 b2 b3 b4 b5=>by
  subst hb
  exact exE (b5.get e1 e2) fun z hz=>K b d m z hy b3 b4 (Nat.zero_add a▸hz.1) hz.2
theorem ev_attr(B:bV g h0 N){x:Str}{i a:Nat}{p pos:Pos}(hx:(x,i)∈c.vars)(hd:(x==("__debug__":Str))=false)(hc:(x==("__classdict__":Str))=false)(ha:a<17):
  EvT g h0 n c (fun env=>eval (.Attribute (.Name x p) (an a) pos) env) (al R lo Φ (.attr (.var i) a)):=fun fr fr' o e=>
 bE e fun o0 hfr e=>orE e
  (fun e=>bE e fun u hp e=>bE e fun o1 e1 e=>bE e fun v e2 e=>sp e fun k W s ρ env A Q Ex Rm O q=>O.frzAttr (eO hp▸hfr) e1 e2 fun b d m z W' hy b3 b4 hz O' S' rz=>
   dP (bc O.env hx hd hc hy (eU B O.wf b3 b4 (dQ ha) hz (rz.handed (c7 e2).2) fun t=>q _ s.heap t _ O' S' (.v rz))))
  fun e=>bE e fun y hp e=>bE e fun u hu e=>bE e fun o1 e1 e=>bE e fun v e2 e=>sp e fun k W s ρ env A Q Ex Rm O q=>O.atV (vInst_ok hu▸oV_ok hp▸hfr) e1 e2 fun b d m z hy b3 b4 hz rz=>
   dP (bc O.env hx hd hc hy (eU B O.wf b3 b4 (dQ ha) hz (rz.handed (c7 e2).2) fun t=>q _ s.heap t _ O .refl (.v rz)))
theorem at_ok(B:bV g h0 N){x:Str}{i a:Nat}{p pos:Pos}(hx:(x,i)∈c.vars)(hd:(x==("__debug__":Str))=false)(hc:(x==("__classdict__":Str))=false)(ha:a<17){fr:Fr}{v:V}(e:attrOf i a fr=some v)
  {W:Wd} {s:Shared} {ρ:Nat→Option Value} {env:Env} {A:Around} {Q:Value→Shared→Prop} {Ex:Value→Shared→Prop} (O:Ok g h0 c env ρ W s.heap fr) (q:∀ z t,Vw g W s.heap v z→Q z { s with toks:=t }):
  wpAny (model g.prog g.w) A (eval (.Attribute (.Name x p) (an a) pos) env) Q Ex s:=
 bE e fun o0 hfr e=>orE e
  (fun e=>bE e fun u hp e=>bE e fun o1 e1 e2=>O.heldO (eO hp▸hfr:fr[i]?=some (.inst u.1 u.2)) nofun fun y hy r=>r.instE fun b d m hb b1 b2 b3 b4 b5=>(b5.el e1).get e2 fun z z1 z2 z3=>
   dP (bc O.env hx hd hc (hb▸hy) (eU B O.wf b3 b4 (dQ ha) z1 z3 fun t=>q _ t z2)))
  fun e=>bE e fun y hp e=>bE e fun u hu e=>bE e fun o1 e1 e2=>O.atV (vInst_ok hu▸oV_ok hp▸hfr) e1 e2 fun b d m z hy b3 b4 hz rz=>
   dP (bc O.env hx hd hc hy (eU B O.wf b3 b4 (dQ ha) hz (rz.handed (c7 e2).2) fun t=>q _ t rz.vw))
theorem Vw.map{v:V}{x:Value}(y:Vw g W h v x){f:Role→Role}(hf:f .frz=.frz):Vw g (fun a=>f (W a)) h v x:=by
 obtain ⟨r,o,e,y⟩:=y
 exact⟨_,o,e,y.map hf⟩
theorem ev_lenA(B:bV g h0 N){x:Str}{i a:Nat}{p pos p2 p3:Pos}(hx:(x,i)∈c.vars)(hd:(x==("__debug__":Str))=false)(hc:(x==("__classdict__":Str))=false)(ha:a<17)
  (hl:("len":Str)∈c.globs) (hm:N.mg "len"=none):
  EvT g h0 n c (fun env=>eval (.Call (.Name "len" p2) [.Attribute (.Name x p) (an a) pos] [] p3) env) (al R lo Φ (.len (.attr (.var i) a))):=fun fr fr' o e=>
 bE ((Option.bind_assoc ..).symm.trans e) fun u e0 e=>have e:(V.len u).bind (fun m=>some (.v (.int m),fr))=some (o,fr'):=e
 bE e fun m e3 e=>sp e fun k W s ρ env A Q Ex Rm O q=>
  d8 B O hl hm boot_len (by decide) (by decide) (.inl ⟨_,rfl⟩) rfl (at_ok B hx hd hc ha e0 O fun z t vz=>len_ok (s:={ s with toks:=t }) e3 vz fun t t'=>q W s.heap t' _ O .refl (.v (.int _ _)))
theorem ev_subA(B:bV g h0 N){x y:Str}{i a j:Nat}{p pos p2 p3:Pos}(hx:(x,i)∈c.vars)(hd:(x==("__debug__":Str))=false)(hc:(x==("__classdict__":Str))=false)(ha:a<17)
  (hx':(y,j)∈c.vars) (hd':(y==("__debug__":Str))=false) (hc':(y==("__classdict__":Str))=false) (hR:R.ev (.var j)=al R lo Φ (.var j)):
  EvT g h0 n c (fun env=>eval (.Subscript (.Attribute (.Name x p) (an a) pos) (.Name y p2) p3) env) (al R lo Φ (.sub (.attr (.var i) a) (.var j))):=fun fr fr' o e=>
 bE ((Option.bind_assoc ..).symm.trans e) fun u e0 e=>have e:(evV R (.var j) fr).bind (fun q=>(u.item q.1).bind fun r=>r.ok.bind fun r=>some (.v r,q.2))=some (o,fr'):=e
 bE2 e fun kv fr2 e2 e=>bE e fun r0 e4 e=>bE e fun r1 e5 e=>
 sp e (bE2 e2 fun o2 f2 e9 e6=>have e9:al R lo Φ (.var j) fr=some (o2,f2):=hR▸e9
 bE e9 fun o3 e7 e9=>bE e9 fun v3 e8 e9=>
  sp (P:=fun kv f=>u.item kv=some r0→EvAt g h0 n c _ fr (.v r1) f) (sp (P:=fun o f=>some (o.frz,f)=some (kv,fr2)→some (v3,fr.set j (.v v3))=some (kv,fr2)) e9 id e6) (fun e4 k W s ρ env A Q Ex Rm O q=>sub_rule (at_ok B hx hd hc ha e0 O fun z t vz=>exE (O.frzVar (k:=k) e7 e8) fun y3 f=>bc (s:={ s with toks:=t }) O.env hx' hd' hc' f.1
   (item_ok (s:={ s with toks:=t }) e4 (vz.map (f:=frzS j) rfl) f.2.2.2 fun z t' rz=>q _ s.heap t' z f.2.1 f.2.2.1 (.v ((c7 e5).1▸rz))))) e4)
end
noncomputable def c8(x:Str):Bool:=!(x==("__debug__":Str))&&!(x==("__classdict__":Str))
theorem aZ{x:Str}(e:c8 x=true):(x==("__debug__":Str))=false:=by unfold c8 at e;revert e;cases (x==("__debug__":Str)) <;> simp
theorem bj{x:Str}(e:c8 x=true):(x==("__classdict__":Str))=false:=by unfold c8 at e;revert e;cases (x==("__classdict__":Str)) <;> simp
theorem iObj_inj{C C' d d':Addr}(e:some (eS C d)=some (eS C' d')):d=d':=by
 have:=Option.some.inj e
 injection this with _ e
 injection e
inductive PlE (c:Ctx):P→Expr→Prop
 | var {x:Str} {i:Nat} {p:Pos}:(x,i)∈c.vars→c8 x=true→PlE c (.var i) (.Name x p)
 | at {x:Str} {i a:Nat} {p pos:Pos}:(x,i)∈c.vars→c8 x=true→a<17→PlE c (.at i a) (.Attribute (.Name x p) (an a) pos)
noncomputable def P.role:P→Role
 | .var i=>.slot i 0
 | .at i a=>.slot i (3+a)
noncomputable def PlIs(g:G)(W:Wd)(h:Heap)(ρ:Nat→Option Value):P→Addr→Prop
 | .var i,b=>ρ i=some (.ref b)
 | .at i a,b=>∃ c a0 d m,ρ i=some (.ref a0)∧W a0=.slot i 1∧W d=.slot i 2∧h.get? a0=some (eS (g.ca c) d)∧AD h d m∧m (an a)=some (.ref b)
section
variable {g:G} {h0:Heap} {N:aR} {n k:Nat} {c:Ctx} {R:Rec} {lo:Nat} {Φ:Nat→List Own→Option (Own×Own)} {W:Wd} {h h':Heap} {env:Env} {ρ:Nat→Option Value} {fr:Fr}
theorem AD.same{d:Addr}{m m':Str→Option Value}(x:AD h d m)(y:AD h d m')(z:Str):m z=m' z:=
 exE x fun es x=>exE x fun ep x=>exE y fun es' y=>exE y fun ep' y=>by
  have e:=Option.some.inj (x.1.symm.trans y.1)
  have e:es=es':=(Data.dict.inj (congrArg Obj.data e)).1
  rw[← x.2.2.1 z,← y.2.2.1 z,e]
theorem getVarE{i:Nat}{l:List V}{G:Prop}(e:aV (.var i) fr=some l)(k:fr[i]?=some (.list l)→G):G:=bE e fun o h1 h2=>k (oList_ok h2▸h1)
theorem getAtE{i a:Nat}{l:List V}{G:Prop}(e:aV (.at i a) fr=some l)(k:∀ cc as,fr[i]?=some (.inst cc as)→as[a]?=some (.list l)→G):G:=
 bE e fun o h1 e=>bE e fun q h2 e=>bE e fun o1 h3 h4=>k q.1 q.2 (eO h2▸h1) (o1List_ok h4▸h3)
theorem RepO.listE{r:Nat→Role}{l:List V}{x:Value}{G:Prop}(y:RepO g W h r (.list l) x)(k:∀ a xs n,x=.ref a→W a=r 0→h.get? a=some (bO xs n)→Reps g W h l xs→G):G:=by
 cases y with | list a b c=>exact k _ _ _ rfl a b c
theorem El.listE{r:Nat→Role}{m:Str→Option Value}{p:Nat}{l:List V}{G:Prop}(y:El g W h r m p (.list l))(k:∀ b xs n,m (an p)=some (.ref b)→W b=r (3+p)→h.get? b=some (bO xs n)→Reps g W h l xs→G):G:=by
 cases y with | list a b c d=>exact k _ _ _ a b c d
theorem RepO.held{i:Nat}{o:Own}(S:St g W h ρ fr)(e:fr[i]?=some o)(ne:o≠.v .undef){G:Prop}(K:∀ y,ρ i=some y→RepO g W h (fun p=>.slot i p) o y→G):G:=
 (S i o e).elim (fun z=>absurd z ne) fun z=>exE z fun y z=>K y z.1 z.2
theorem placeE{p:P}{l:List V}{G:Prop}(S:St g W h ρ fr)(e:aV p fr=some l)(k:∀ b xs n,PlIs g W h ρ p b→W b=p.role→h.get? b=some (bO xs n)→Reps g W h l xs→G):G:=by
 cases p with
 | var i=>exact getVarE e fun hi=>RepO.held S hi nofun fun y hy r=>r.listE fun a xs n hx a1 a2 a3=>k a xs n (hx▸hy:ρ i=some (.ref a)) a1 a2 a3
 | «at» i a=>exact getAtE e fun cc as hi ha=>RepO.held S hi nofun fun y hy r=>r.instE fun a0 d m hx b1 b2 b3 b4 b5=>(b5.el ha).listE fun b xs n e1 e2 e3 e4=>k b xs n ⟨cc,a0,d,m,(hx▸hy:ρ i=some (.ref a0)),b1,b2,b3,b4,e1⟩ e2 e3 e4
theorem ref_inj{x:Option Value}{a b:Addr}(e:x=some (.ref a))(e':x=some (.ref b)):a=b:=Value.ref.inj (Option.some.inj (e.symm.trans e'))
theorem PlIs.same{p:P}{b b':Addr}{W':Wd}(x:PlIs g W h ρ p b)(y:PlIs g W' h' ρ p b')(S:Step k noX W h W' h'):b=b':=by
 cases p with
 | var i=>exact ref_inj x y
 | «at» i a=>
  exact exE x fun cc x=>exE x fun a0 x=>exE x fun d x=>exE x fun m x=>exE y fun cc' y=>exE y fun a0' y=>exE y fun d' y=>exE y fun m' y=>by
   have ha:=ref_inj x.1 y.1
   have h1:=(S _ _ x.2.2.2.1 (by unfold kept;rw[x.2.1];exact⟨.inl rfl,id⟩)).2
   rw[ha] at h1
   have hd:=iObj_inj (y.2.2.2.1.symm.trans h1)
   have ad:=x.2.2.2.2.1.move fun o e=>(S _ _ e (by unfold kept;rw[x.2.2.1];exact⟨.inr rfl,id⟩)).2
   exact ref_inj x.2.2.2.2.2 ((ad.same (hd▸y.2.2.2.2.1) _).trans y.2.2.2.2.2)
theorem PlIs.later{p:P}{b:Addr}{W':Wd}{l:List V}{G:Prop}(x:PlIs g W h ρ p b)(S:Step k noX W h W' h')(st:St g W' h' ρ fr)(e:aV p fr=some l)(K:∀ xs n,PlIs g W' h' ρ p b→W' b=p.role→h'.get? b=some (bO xs n)→Reps g W' h' l xs→G):G:=
 placeE st e fun b' xs n h1 h2 h3 h4=>by
  have hb:=x.same h1 S
  subst hb
  exact K xs n h1 h2 h3 h4
theorem El.keep{r:Nat→Role}{m:Str→Option Value}{p:Nat}{o:O1}{b:Addr}(hf:cy W h W h')(hk:∀ x o,x≠b→h.get? x=some o→h'.get? x=some o)(hb:W b≠r (3+p))(x:El g W h r m p o):El g W h' r m p o:=by
 cases x with
 | none=>exact .none
 | v a c=>exact .v a (c.stay hf)
 | list a c d e=>exact .list a c (hk _ _ (fun z=>hb (z▸c)) d) (e.stay hf)
theorem eZ{i q:Nat}{b:Addr}(hq:q≠1∧q≠2)(hw:W b=.slot i q)(hk:∀ x o,x≠b→h.get? x=some o→h'.get? x=some o):Step k noX W h W h':=fun x o ho z=>⟨.inl rfl,hk x o (fun e=>by
 unfold kept at z
 rw[e,hw] at z
 exact z.1.elim hq.1 hq.2) ho⟩
theorem chg_ok{i q:Nat}{b:Addr}{ob:Obj}{o':Own}(O:Ok g h0 c env ρ W h fr)(hq:q≠1∧q≠2)(hw:W b=.slot i q)(hk:∀ x o,x≠b→h.get? x=some o→h'.get? x=some o)(hb:h'.get? b=some ob)
  (r:∃ y,ρ i=some y∧RepO g W h' (fun p=>.slot i p) o' y):Ok g h0 c env ρ W h' (fr.set i o'):=by
 have St1:Step 0 noX W h W h':=eZ hq hw hk
 have hf:=St1.stay
 refine⟨⟨fun x o ho=>⟨(O.wf.base x o ho).1,(hf x o (O.wf.base x o ho).1 (O.wf.base x o ho).2).2⟩,fun x hx=>?_⟩,O.env.step St1,fun j o e=>set_at e (fun hj ho=>?_) fun hj e=>?_⟩
 ·by_cases z:x=b
  ·exact⟨ob,z▸hb⟩
  ·exact exE (O.wf.live x hx) fun o ho=>⟨o,hk x o z ho⟩
 ·rw[hj,← ho];exact .inr r
 ·exact(O.st j o e).imp id fun z=>exE z fun y z=>⟨y,z.1,z.2.stay fun x o ex hx=>⟨rfl,hk x o (fun e=>by
   rw[e,hw] at ex
   exact ex.elim nofun fun ex=>exE ex fun q' ex=>hj (Role.slot.inj ex).1) hx⟩⟩
theorem putList_at{i a cc:Nat}{as:List O1}{l:List V}(e:fr[i]?=some (.inst cc as)):bv (.at i a) l fr=fr.set i (.inst cc (as.set a (.list l))):=by
 unfold bv
 dsimp only
 rw[e]
theorem put_ok{p:P}{l l':List V}{b:Addr}{xs xs':List Value}{m m':Nat}(O:Ok g h0 c env ρ W h fr)(e:aV p fr=some l)(hp:PlIs g W h ρ p b)(hw:W b=p.role)(hb0:h.get? b=some (bO xs m))
  (hk:∀ x o,x≠b→h.get? x=some o→h'.get? x=some o) (hb:h'.get? b=some (bO xs' m')) (r:Reps g W h l' xs'):Ok g h0 c env ρ W h' (bv p l' fr)∧Step k noX W h W h':=by
 cases p with
 | var i=>
  have S:Step k noX W h W h':=eZ ⟨by decide,by decide⟩ hw hk
  exact⟨chg_ok O ⟨by decide,by decide⟩ hw hk hb ⟨_,hp,.list hw hb (r.stay S.stay)⟩,S⟩
 | «at» i a=>
  have hq:3+a≠1∧3+a≠2:=by lia
  have S:Step k noX W h W h':=eZ hq hw hk
  refine⟨getAtE e fun cc as hi ha=>RepO.held O.st hi nofun fun y hy ry=>ry.instE fun a0 d mm hx b1 b2 b3 b4 b5=>exE hp fun cc' p=>exE p fun a0' p=>exE p fun d' p=>exE p fun mm' p=>?_,S⟩
  have ne:∀ {x p},W x=.slot i p→3+a≠p→x≠b:=fun hx hp e=>hp (Role.slot.inj (hw.symm.trans (e▸hx))).2
  have hA:a0=a0':=ref_inj (hx▸hy) p.1
  have hd:=iObj_inj (b3.symm.trans (hA▸p.2.2.2.1))
  rw[putList_at hi]
  refine chg_ok O hq hw hk hb ⟨y,hy,hx▸.inst b1 b2 (hk _ _ (ne b1 hq.1) b3) (b4.move fun o ho=>hk _ _ (ne b2 hq.2) ho) (.mk fun j o e=>?_)⟩
  rw[List.getElem?_set] at e
  by_cases hj:a=j
  ·rw[if_pos hj] at e
   exact ifE e fun _ e=>bk (P:=El g W h' _ mm j) e.symm (hj▸.list ((b4.same (hd▸p.2.2.2.2.1) _).trans p.2.2.2.2.2) hw hb (r.stay S.stay))
  ·rw[if_neg hj] at e
   exact(b5.el e).keep S.stay hk fun z=>hj (by have:=(Role.slot.inj (hw.symm.trans z)).2;lia)
theorem pl_load(B:bV g h0 N){p:P}{e:Expr}{b:Addr}{s:Shared}{A:Around}{Q:Value→Shared→Prop}{Ex:Value→Shared→Prop}(O:Ok g h0 c env ρ W s.heap fr)(he:PlE c p e)(hp:PlIs g W s.heap ρ p b)(q:∀ t,Q (.ref b) { s with toks:=t }):
  wpAny (model g.prog g.w) A (eval e env) Q Ex s:=by
 cases he with
 | var hx ok=>exact bc O.env hx (aZ ok) (bj ok) hp (q s.toks)
 | «at» hx ok ha=>exact exE hp fun cc p=>exE p fun a0 p=>exE p fun d p=>exE p fun m p=>dP (bc O.env hx (aZ ok) (bj ok) p.1 (eU B O.wf p.2.2.2.1 p.2.2.2.2.1 (dQ ha) p.2.2.2.2.2 rfl q))
theorem pl_base{p:P}{e:Expr}(he:PlE c p e)(name:Str):attributeBase e name env (eval e env)=eval e env:=by cases he <;> rfl
theorem plain_stars{pos:Pos}{args:List Expr}:(∀ x∈args,az x=true)→backTo pos (starEach args env)=args.map fun x=>(false,eval x env):=by
 induction args with
 | nil=>intro _;rfl
 | cons x l ih=>
  intro ha
  rw[bM (ha x (List.mem_cons_self ..)),List.map_cons,← ih fun y hy=>ha y (List.mem_cons_of_mem _ hy)];rfl
theorem fM{h1:Heap}{b:Addr}{f:Obj→Obj}:∀ z o,z≠b→h1.get? z=some o→(h1.update b f).get? z=some o:=fun z o hne hz=>Heap.get?_update_other h1 _ (fun w=>hne w.symm)▸hz
theorem one_plain{x:Expr}(h:az x=true):∀ y∈[x],az y=true:=fun y hy=>List.mem_singleton.mp hy▸h
theorem pl_call(B:bV g h0 N){p:P}{o:Expr}{b:Addr}{s:Shared}{A:Around}{Q:Value→Shared→Prop}{Ex:Value→Shared→Prop}{name:Str}{id:String}{apos pos:Pos}{args:List Expr}{xs:List Value}{m:Nat}(O:Ok g h0 c env ρ W s.heap fr)(he:PlE c p o)(hp:PlIs g W s.heap ρ p b)
  (hb:s.heap.get? b=some (bO xs m)) (ha:∀ x∈args,az x=true) (hl:args.length<29) (hline:(apos.endLine==pos.line)=true) (slot:Slot "list" name id) (hty:typeOf (.builtin id)=pure (.type "method_descriptor"))
  (h:∀ t,wpAny (model g.prog g.w) A (callWith pos (.builtin id) [.ref b] (args.map fun x=>(false,eval x env)) []) Q Ex { s with toks:=t }):
  wpAny (model g.prog g.w) A (eval (.Call (.Attribute o name apos) args [] pos) env) Q Ex s:=by
 have hs:=plain_stars (env:=env) (pos:=pos) ha
 refine wpAny_Call_method (T:="list") (pl_base he name) ?_ hline PySem.F.plainAttrs_list slot hty ?_
 ·rw[hs]
  exact Bool.and_eq_true_iff.mpr ⟨Bool.and_eq_true_iff.mpr ⟨List.all_eq_true.mpr fun x hx=>exE (List.mem_map.mp hx) fun y hy=>hy.2▸rfl,rfl⟩,decide_eq_true (show args.length+0+0<30 from Nat.lt_succ_of_lt hl)⟩
 ·refine pl_load B O he hp fun t=>⟨⟨_,hb,rfl⟩,fun a ea=>by cases ea;exact⟨_,hb,rfl⟩,?_⟩
  rw[hs];exact h t
theorem push_at{h1:Heap}{b:Addr}{xs ys:List Value}{f:Array Value→Array Value}(hf:f xs.toArray=ys.toArray){m:Nat}(q3:h1.get? b=some (bO xs m)):∃ m',(h1.update b (Obj.mapSeq f)).get? b=some (bO ys m'):=by
 refine⟨if (f xs.toArray).size==xs.toArray.size then m else m+1,?_⟩
 rw[Heap.get?_update_self (Obj.mapSeq f) q3 rfl]
 simp only[Obj.mapSeq,bO,hf]
theorem ev_app(B:bV g h0 N){p:P}{o x:Expr}{a:E}{apos pos:Pos}(ho:PlE c p o)(he:az x=true)(hline:(apos.endLine==pos.line)=true)(ha:EvT g h0 n c (fun env=>eval x env) (R.ev a)):
  EvT g h0 n c (fun env=>eval (.Call (.Attribute o "append" apos) [x] [] pos) env) (al R lo Φ (.app p a)):=fun fr fr' o e=>
 bE e fun l0 e0 e=>bE2 e fun v fr1 e1 e=>bE e fun l e2 e=>ifE e fun hz e=>sp e fun k W s ρ env A Q Ex Rm O q=>placeE O.st e0 fun b xs m p1 p2 p3 p4=>
  pl_call B O ho p1 p3 (one_plain he) (show 1<29 by decide) hline PySem.F.slot_list_append PySem.F.type_list_append fun t=>
  PySem.P.append_list (ha.v fr fr1 v e1 k W { s with toks:=t } ρ env A _ Ex Rm O fun W1 h1 t1 y O1 S1 r1=>p1.later S1 O1.st e2 fun xs' m' q1 q2 q3 q4=>by
   refine⟨xs'.toArray,m',by rw[List.size_toArray,q4.length];exact Nat.le_trans (Nat.le_of_lt hz) cS,q3,?_⟩
   refine exE (push_at (f:=fun z=>z.push y) (ys:=xs'++[y]) (List.push_toArray ..) q3) fun m2 hu=>?_
   have P:=put_ok (k:=k) O1 e2 q1 q2 q3 fM hu (q4.append (.cons r1 .nil))
   exact q W1 _ _ _ P.1 (S1.trans P.2) (.v .none))
theorem ev_ext(B:bV g h0 N){p:P}{o x:Expr}{a:E}{apos pos:Pos}(ho:PlE c p o)(he:az x=true)(hline:(apos.endLine==pos.line)=true)(ha:EvT g h0 n c (fun env=>eval x env) (R.ev a)):
  EvT g h0 n c (fun env=>eval (.Call (.Attribute o "extend" apos) [x] [] pos) env) (al R lo Φ (.ext p a)):=fun fr fr' o e=>
 bE e fun l0 e0 e=>bE2 e fun v fr1 e1 e=>bE e fun l e2 e=>bE e fun l2 e3 e=>ifE e fun hz e=>sp e fun k W s ρ env A Q Ex Rm O q=>placeE O.st e0 fun b xs m p1 p2 p3 p4=>
  pl_call B O ho p1 p3 (one_plain he) (show 1<29 by decide) hline PySem.F.slot_list_extend PySem.F.type_list_extend fun t=>
  PySem.P.extend_list (ha.v fr fr1 _ e1 k W { s with toks:=t } ρ env A _ Ex Rm O fun W1 h1 t1 y O1 S1 r1=>p1.later S1 O1.st e2 fun xs' m' q1 q2 q3 q4=>(bf e3▸r1:Rep g W1 h1 (.list l2) y).listE fun a2 ys m2 hy w1 w2 w3=>by
   have hl:xs'.toArray.size+ys.toArray.size≤100000:=by rw[List.size_toArray,List.size_toArray,q4.length,w3.length];exact hz
   have hs:=cS
   refine⟨a2,xs'.toArray,ys.toArray,m',m2,by lia,by lia,?_,hy,q3,w2,?_⟩
   ·simp [Builtin.List.listTooLong];intro _;simp at hl;lia
   ·refine exE (push_at (f:=fun z=>z++ys.toArray) (ys:=xs'++ys) (List.append_toArray ..) q3) fun m2 hu=>?_
    have P:=put_ok (k:=k) O1 e2 q1 q2 q3 fM hu (q4.append w3)
    exact q W1 _ _ _ P.1 (S1.trans P.2) (.v .none))
theorem Reps.erase{l:List V}{xs:List Value}(r:Reps g W h l xs)(j:Nat):Reps g W h (l.eraseIdx j) (xs.eraseIdx j):=by
 induction l generalizing xs j with
 | nil=>cases r;exact .nil
 | cons v l ih=>cases r with | cons a b=>cases j with | zero=>exact b | succ j=>exact .cons a (ih b j)
theorem erase_obj{h1:Heap}{b:Addr}{xs:List Value}{m j:Nat}(q3:h1.get? b=some (bO xs m))(hj:j<xs.length):
  ∃ m',(h1.update b (Obj.mapSeq fun z=>z.eraseIdxIfInBounds j)).get? b=some (bO (xs.eraseIdx j) m'):=push_at (by
 unfold Array.eraseIdxIfInBounds
 rw[dif_pos (by rw[List.size_toArray];exact hj)]
 simp) q3
theorem Reps.last{l:List V}{xs:List Value}(r:Reps g W h l xs):Reps g W h l.dropLast (xs.eraseIdx (xs.length - 1)):=by
 have:=r.erase (l.length - 1)
 rw[List.eraseIdx_length_sub_one] at this
 rw[r.length];exact this
theorem ev_popN(B:bV g h0 N){p:P}{o:Expr}{apos pos:Pos}(ho:PlE c p o)(hline:(apos.endLine==pos.line)=true):
  EvT g h0 n c (fun env=>eval (.Call (.Attribute o "pop" apos) [] [] pos) env) (al R lo Φ (.pop p none)):=fun fr fr' o e=>
 bE e fun l e0 e=>ifE e fun hz e=>bE e fun v e1 e=>bE e fun v' e2 e=>sp e fun k W s ρ env A Q Ex Rm O q=>placeE O.st e0 fun b xs m p1 p2 p3 p4=>by
  rw[List.getLast?_eq_getElem?] at e1
  have hlt:l.length - 1<l.length:=(List.getElem?_eq_some_iff.mp e1).1
  refine exE (p4.get e1) fun y hy=>?_
  rw[← p4.length] at hlt hy
  refine pl_call B O ho p1 p3 (fun _ h=>nomatch h) (show 0<29 by decide) hline PySem.F.slot_list_pop PySem.F.type_list_pop fun t=>?_
  refine exE (erase_obj p3 hlt) fun m' hm=>?_
  refine PySem.P.pop_list (s:={ s with toks:=t }) (n:=m) (items:=xs.toArray) (y:=y) p3 (by rw[List.size_toArray];simpa using hy.1) ?_ (by rw[List.size_toArray,p4.length];exact Nat.le_trans hz cS)
  have P:=put_ok (k:=k) O e0 p1 p2 p3 fM hm p4.last
  rw[List.size_toArray]
  exact q W _ t y P.1 P.2 (.v ((c7 e2).1▸hy.2.stay P.2.stay))
theorem ev_popI(B:bV g h0 N){p:P}{o x:Expr}{a:E}{apos pos:Pos}(ho:PlE c p o)(he:az x=true)(hline:(apos.endLine==pos.line)=true)(ha:EvT g h0 n c (fun env=>eval x env) (R.ev a)):
  EvT g h0 n c (fun env=>eval (.Call (.Attribute o "pop" apos) [x] [] pos) env) (al R lo Φ (.pop p (some a))):=fun fr fr' o e=>
 bE e fun l0 e0 e=>bE2 e fun v fr1 e1 e=>bE e fun i hi e=>bE e fun l e2 e=>bE e fun j e3 e=>bE e fun v e4 e=>bE e fun v' e5 e=>sp e fun k W s ρ env A Q Ex Rm O q=>placeE O.st e0 fun b xs m p1 p2 p3 p4=>
  pl_call B O ho p1 p3 (one_plain he) (show 1<29 by decide) hline PySem.F.slot_list_pop PySem.F.type_list_pop fun t=>
  PySem.P.pop_at_list (ha.v fr fr1 _ e1 k W { s with toks:=t } ρ env A _ Ex Rm O fun W1 h1 t1 y O1 S1 r1=>p1.later S1 O1.st e2 fun xs' m' q1 q2 q3 q4=>(aB hi▸r1:Rep g W1 h1 (.int i) y).intE fun t hy=>exE (q4.get e4) fun y hg=>by
   have z:=place_at e3
   rw[← q4.length] at z
   have z0:xs'.length≤100000:=z.1
   refine exE (erase_obj q3 z.2.1) fun m2 hm=>?_
   refine⟨xs'.toArray,m',i,_,j,y,by rw[List.size_toArray];exact Nat.le_trans z0 cS,hy,q3,?_,by rw[List.size_toArray];exact z.2.2.1,by simpa using hg.1,?_⟩
   ·unfold Builtin.List.listFitsIndex
    rw[Bool.and_eq_true,decide_eq_true_eq,decide_eq_true_eq]
    exact⟨Int.le_trans (by decide) (place_fit z0 z.2.2.2).1,Int.lt_trans (place_fit z0 z.2.2.2).2 (by decide)⟩
   ·have P:=put_ok (k:=k) O1 e2 q1 q2 q3 fM hm (q4.erase j)
    exact q W1 _ _ y P.1 (S1.trans P.2) (.v ((c7 e5).1▸hg.2.stay P.2.stay)))
end
noncomputable def rset(ρ:Nat→Option Value)(i:Nat)(y:Value):Nat→Option Value:=fun j=>if j=i then some y else ρ j
noncomputable def setF(k i:Nat):Role→Role
 | .tmp j p=>if j=k then .slot i p else .tmp j p
 | r=>r
noncomputable def Touch(env:Env)(x:Str)(a:Addr):Prop:=(env.kindOf x=some .local∧a=env.locals)∨env.cells.lookup x=some a
section
variable {g:G} {h0:Heap} {N:aR} {n k:Nat} {c:Ctx} {R:Rec} {lo la:Nat} {Φ:Nat→List Own→Option (Own×Own)} {W:Wd} {h h':Heap} {env:Env} {ρ:Nat→Option Value} {fr:Fr}
theorem EnvOK.upd(x:EnvOK W h env c ρ){nm:Str}{i:Nat}(hx:(nm,i)∈c.vars)(y:Value)(hW:∀ a o,W a=.env→h.get? a=some o→∃ o',h'.get? a=some o')
  (hl:env.kindOf nm=some .local→h'.Ns env.locals (fun z=>if z=nm then some y else (x.loc.choose) z)∧Heap.SameBut env.locals h h')
  (hc:∀ a,env.kindOf nm≠some .local→env.cells.lookup nm=some a→h'.IsCell a (some y)∧Heap.SameBut a h h'):EnvOK W h' env c (rset ρ i y):=by
 have hm:=x.loc.choose_spec
 have ij:∀ z j,(z,j)∈c.vars→((rset ρ i y) j=if z=nm then some y else ρ j):=fun z j hz=>by
  unfold rset
  by_cases e:z=nm
  ·rw[if_pos e,if_pos ((x.inj z j nm i hz hx).mp e)]
  ·rw[if_neg e,if_neg fun q=>e ((x.inj z j nm i hz hx).mpr q)]
 refine⟨x.kind,x.glob,x.bi,x.locW,?_,fun z j hz=>?_,x.gl,x.inj,x.asg,x.celln,x.cellL,x.cel⟩
 ·by_cases e:env.kindOf nm=some .local
  ·refine⟨_,(hl e).1,fun z j hz hk=>?_⟩
   rw[ij z j hz]
   show (if z=nm then some y else _)=_
   rw[hm.2 z j hz hk]
  ·rcases x.var nm i hx with q | ⟨q,a,e1,e2,e3⟩
   ·exact absurd q e
   ·refine⟨x.loc.choose,hm.1.sameBut (hc a e e1).2 (fun z=>x.cellL nm (z▸e1)),fun z j hz hk=>?_⟩
    rw[ij z j hz,if_neg (fun (z':z=nm)=>e (z'▸hk))]
    exact hm.2 z j hz hk
 ·rcases x.var z j hz with q | ⟨q,a,e1,e2,e3⟩
  ·exact .inl q
  ·refine .inr ⟨q,a,e1,e2,?_⟩
   rw[ij z j hz]
   by_cases e:env.kindOf nm=some .local
   ·have hne:z≠nm:=fun w=>by rw[w,e] at q;simp at q
    rw[if_neg hne]
    exact e3.sameBut (hl e).2 (fun w=>x.cellL z (w▸e1))
   ·rcases x.var nm i hx with q' | ⟨q',a',e1',e2',e3'⟩
    ·exact absurd q' e
    ·by_cases w:z=nm
     ·subst w;rw[if_pos rfl];rw[e1] at e1';cases e1';exact(hc a e e1).1
     ·rw[if_neg w]
      exact e3.sameBut (hc a' e e1').2 (fun v=>w (x.celln z nm a e1 (v▸e1')))
theorem eL{X:Role→Addr→Prop}{s:Shared}{A:Around}{Q:Unit→Shared→Prop}{Ex:Value→Shared→Prop}{o:Own}{y:Value}{nm:Str}{i kk:Nat}(O:Ok g h0 c env ρ W s.heap fr)(hx:(nm,i)∈c.vars)(ha:nm∈c.asg)(hk:k≤kk)
  (r:RepO g W s.heap (fun p=>.tmp kk p) o y) (hX:∀ a,Touch env nm a→X .env a)
  (q:∀ h' t',(∀ a,W a≠.env→h'.get? a=s.heap.get? a)→Ok g h0 c env (rset ρ i y) (fun a=>setF kk i (W a)) h' (fr.set i o)→Step k X W s.heap (fun a=>setF kk i (W a)) h'→Q () { s with heap:=h',toks:=t' }):
  wpAny (model g.prog g.w) A (storeName env nm y) Q Ex s:=by
 have fin:∀ h' t',(∃ b,W b=.env∧Touch env nm b∧Heap.SameBut b s.heap h'∧∃ o,h'.get? b=some o)→EnvOK W h' env c (rset ρ i y)→Q () { s with heap:=h',toks:=t' }:=by
  intro h' t' ⟨b,hb,tb,sb,ob,hob⟩ E
  have hs:∀ a,W a≠.env→h'.get? a=s.heap.get? a:=fun a ha=>sb.2 a (fun z=>ha (z▸hb))
  have hkeep:∀ a o,W a≠.env→s.heap.get? a=some o→h'.get? a=some o:=fun a o ha ho=>(hs a ha).trans ho
  have St1:Step k X W s.heap W h':=fun a o ho hq=>by
   refine⟨.inl rfl,?_⟩
   by_cases e:a=b
   ·subst e;unfold kept at hq;rw[hb] at hq;exact absurd (hX a tb) hq
   ·exact(sb.2 a e).trans ho
  have St2:Step k X W h' (fun a=>setF kk i (W a)) h':=fU fun r hr=>by
   cases r <;> first | exact .inl rfl | skip
   rename_i j p
   refine .inl ?_
   unfold setF
   dsimp only
   rw[if_neg]
   intro e;dsimp only at hr;lia
  have W1:WF h0 W h':=⟨fun a o ho=>⟨(O.wf.base a o ho).1,hkeep a o (by rw[(O.wf.base a o ho).1];simp) (O.wf.base a o ho).2⟩,fun a ha=>by
   by_cases e:a=b
   ·subst e;exact⟨_,hob⟩
   ·obtain ⟨o,ho⟩:=O.wf.live a ha;exact⟨o,(sb.2 a e).trans ho⟩⟩
  have E2:EnvOK (fun a=>setF kk i (W a)) h' env c (rset ρ i y):=E.step (k:=0) (fU fun r hr=>by
   cases r <;> first | exact .inl rfl | skip
   rename_i j p;dsimp only at hr;lia)
  refine q h' t' hs ⟨⟨fun a o ho=>⟨by show setF kk i (W a)=_;rw[(W1.base a o ho).1];rfl,(W1.base a o ho).2⟩,fun a ha=>W1.live a fun z=>ha (by show setF kk i (W a)=_;rw[z];rfl)⟩,E2,?_⟩ (St1.trans St2)
  intro j o' ho'
  rw[List.getElem?_set] at ho'
  have key:∀ (r:Nat→Role) (o:Own) (x:Value),(∀ p,r p≠.env)→RepO g W s.heap r o x→RepO g W h' r o x:=fun r o x hr rr=>rr.stay fun a o ha ho=>⟨rfl,hkeep a o (by
   rcases ha with ha | ⟨p,ha⟩ <;> rw[ha]
   ·simp
   ·exact hr p) ho⟩
  split at ho'
  ·rename_i hij;subst hij
   split at ho' <;> cases ho'
   refine .inr ⟨y,by simp [rset],?_⟩
   have:=(key _ _ _ (by simp) r).map (f:=setF kk i) rfl
   simpa [setF] using this
  ·rename_i hij
   refine(O.st j o' ho').imp id fun ⟨z,hz,rz⟩=>⟨z,by unfold rset;rw[if_neg (fun e=>hij e.symm)];exact hz,?_⟩
   exact(key _ _ _ (by simp) rz).map (f:=setF kk i) rfl
 have hm:=O.env.loc.choose_spec
 by_cases e:env.kindOf nm=some .local
 ·refine wpAny_storeName_local e hm.1 (fun h' hn hs=>fin h' _ ⟨env.locals,O.env.locW,.inl ⟨e,rfl⟩,hs,?_⟩ ?_) (by rw[O.env.kind];rfl)
  ·obtain ⟨o,es,ep,ho,_⟩:=hn;exact⟨o,ho⟩
  ·refine O.env.upd hx y (fun a o ha ho=>?_) (fun _=>⟨hn,hs⟩) (fun a ha=>absurd e ha)
   by_cases z:a=env.locals
   ·subst z;obtain ⟨o,es,ep,ho,_⟩:=hn;exact⟨o,ho⟩
   ·exact⟨o,(hs.2 a z).trans ho⟩
 ·rcases O.env.var nm i hx with q' | ⟨q',a,e1,e2,e3⟩
  ·exact absurd q' e
  ·have hk:env.kindOf nm=some .cell:=(O.env.asg nm ha).resolve_left e
   refine wpAny_storeName_cell O.env.kind hk e1 e3 fun h' hc hs=>fin h' s.toks ⟨a,e2,.inr e1,hs,?_⟩ ?_
   ·obtain ⟨o,ho,_⟩:=hc;exact⟨o,ho⟩
   ·refine O.env.upd hx y (fun b o hb ho=>?_) (fun z=>absurd z e) (fun b _ hb=>by rw[e1] at hb;cases hb;exact⟨hc,hs⟩)
    by_cases z:b=a
    ·subst z;obtain ⟨o,ho,_⟩:=hc;exact⟨o,ho⟩
    ·exact⟨o,(hs.2 b z).trans ho⟩
end
noncomputable def stX(la:Nat):Role→Addr→Prop:=fun r _=>match r with
 | .slot i _=>la≤i
 | _=>True
inductive FlR (g:G) (W:Wd) (h:Heap) (k:Nat):Fl→Flow→Prop
 | next:FlR g W h k .next .next
 | cont:FlR g W h k .cont .cont
 | brk:FlR g W h k .brk .brk
 | ret {o:Own} {x:Value}:RepO g W h (fun p=>.tmp k p) o x→FlR g W h k (.ret o) (.ret x)
noncomputable def ExAt(g:G)(h0:Heap)(n lo la:Nat)(c:Ctx)(t:Env→Sem Flow)(fr:Fr)(f:Fl)(fr':Fr):Prop:=∀ (k:Nat) (W:Wd) (s:Shared) (ρ:Nat→Option Value) (env:Env) (A:Around) (Q:Flow→Shared→Prop) (Ex:Value→Shared→Prop),
  Room A n→Ok g h0 c env ρ W s.heap fr→(∀ W' h' t' ρ' fl,Ok g h0 c env ρ' W' h' fr'→Step k (stX la) W s.heap W' h'→(∀ i,i<lo→ρ' i=ρ i)→FlR g W' h' k f fl→Q fl { s with heap:=h',toks:=t' })→wpAny (model g.prog g.w) A (t env) Q Ex s
noncomputable def ExT(g:G)(h0:Heap)(n lo la:Nat)(c:Ctx)(t:Env→Sem Flow)(ir:Fr→Option (Fl×Fr)):Prop:=
 ∀ (fr fr':Fr) (f:Fl),ir fr=some (f,fr')→ExAt g h0 n lo la c t fr f fr'
mutual
inductive TgE (c:Ctx):T→Expr→Prop
 | var {x:Str} {i:Nat} {p:Pos}:(x,i)∈c.vars→x∈c.asg→TgE c (.var i) (.Name x p)
 | tup {ts:List T} {es:List Expr} {kd:Nat} {p:Pos}:TgEs c ts es→TgE c (.tup ts) (.Tuple es kd p)
inductive TgEs (c:Ctx):List T→List Expr→Prop
 | nil:TgEs c [] []
 | cons {t:T} {e:Expr} {ts:List T} {es:List Expr}:TgE c t e→TgEs c ts es→TgEs c (t::ts) (e::es)
end
mutual
noncomputable def T.slots:T→List Nat
 | .var i=>[i]
 | .tup ts=>dp ts
noncomputable def dp:List T→List Nat
 | []=>[]
 | t::ts=>t.slots++dp ts
end
section
variable {g:G} {h0:Heap} {N:aR} {n k:Nat} {c:Ctx} {R:Rec} {lo la:Nat} {Φ:Nat→List Own→Option (Own×Own)} {W:Wd} {h h':Heap} {env:Env} {ρ:Nat→Option Value} {fr:Fr}
theorem bindT_lo{t:T}:∀ {v:V} {fr fr':Fr},cj lo t v fr=some fr'→∀ i∈t.slots,lo≤i:=
 @T.rec (fun t=>∀ {v:V} {fr fr':Fr},cj lo t v fr=some fr'→∀ i∈t.slots,lo≤i) (fun ts=>∀ {vs:List V} {fr fr':Fr},bindTs lo ts vs fr=some fr'→∀ i∈dp ts,lo≤i)
  (fun i v fr fr' e j hj=>ifE e fun h _=>List.mem_singleton.mp hj▸h.1) (fun ts ih v fr fr' e j hj=>bE e fun l _ e=>ih e j hj) (fun _ _ hj=>nomatch hj)
  (fun t ts h1 h2 vs fr fr' e j hj=>by
   cases vs with
   | nil=>cases e
   | cons v vs=>exact bE e fun fr1 e1 e2=>(List.mem_append.mp hj).elim (h1 e1 j) (h2 e2 j)) t
theorem bindTs_len{ts:List T}:∀ {l:List V} {fr fr':Fr},bindTs lo ts l fr=some fr'→ts.length=l.length:=by
 induction ts with
 | nil=>intro l fr fr' e;cases l with | nil=>rfl | cons=>cases e
 | cons t ts ih=>intro l fr fr' e;cases l with | nil=>cases e | cons v l=>exact bE e fun fr1 _ e2=>congrArg Nat.succ (ih e2)
theorem noStar_tgs{ts:List T}{es:List Expr}(h:TgEs c ts es):assignEach es env=es.map (fun e=>(false,assign e env))∧es.length=ts.length:=
 TgEs.rec (motive_1:=fun t e _=>∀ es,assignEach (e::es) env=(false,assign e env)::assignEach es env) (motive_2:=fun ts es _=>assignEach es env=es.map (fun e=>(false,assign e env))∧es.length=ts.length)
  (fun _ _ _=>rfl) (fun _ _ _=>rfl) ⟨rfl,rfl⟩ (fun _ _ h1 h2=>⟨(h1 _).trans (congrArg _ h2.1),congrArg Nat.succ h2.2⟩) h
noncomputable abbrev AsA(g:G)(h0:Heap)(c:Ctx)(env:Env)(ρ:Nat→Option Value)(X:Role→Addr→Prop)(k:Nat)(W:Wd)(s:Shared)(fr':Fr)(sl:List Nat)(Q:Unit→Shared→Prop):Prop:=
 ∀ W' h' t' ρ',Ok g h0 c env ρ' W' h' fr'→Step k X W s.heap W' h'→(∀ i,i∉sl→ρ' i=ρ i)→Q () { s with heap:=h',toks:=t' }
noncomputable def AsOk(g:G)(h0:Heap)(lo k:Nat)(c:Ctx)(env:Env)(X:Role→Addr→Prop)(t:T)(e:Expr):Prop:=∀ {v:V} {fr fr':Fr},cj lo t v fr=some fr'→∀ (W:Wd) (s:Shared) (ρ:Nat→Option Value) (A:Around) (Q:Unit→Shared→Prop) (Ex:Value→Shared→Prop) (y:Value),
 A.handled=none→Ok g h0 c env ρ W s.heap fr→Rep g W s.heap v y→AsA g h0 c env ρ X k W s fr' t.slots Q→wpAny (model g.prog g.w) A (assign e env y) Q Ex s
noncomputable def AssOk(g:G)(h0:Heap)(lo k:Nat)(c:Ctx)(env:Env)(X:Role→Addr→Prop)(ts:List T)(es:List Expr):Prop:=∀ {vs:List V} {fr fr':Fr},bindTs lo ts vs fr=some fr'→∀ (W:Wd) (s:Shared) (ρ:Nat→Option Value) (A:Around) (Q:Unit→Shared→Prop) (Ex:Value→Shared→Prop) (ys:List Value),
 A.handled=none→Ok g h0 c env ρ W s.heap fr→Reps g W s.heap vs ys→AsA g h0 c env ρ X k W s fr' (dp ts) Q→wpAny (model g.prog g.w) A (assignInOrder (es.map fun e=>assign e env) ys) Q Ex s
section
variable {X:Role→Addr→Prop} (hX:∀ nm a,nm∈c.asg→Touch env nm a→X .env a)
include hX
theorem as_var{x:Str}{i:Nat}{p:Pos}(hx:(x,i)∈c.vars)(ha:x∈c.asg):AsOk g h0 lo k c env X (.var i) (.Name x p):=fun {v fr fr'} e W s ρ A Q Ex y hh O r q=>
 ifE e fun _ e=>wpAny_assign_Name (eL (X:=X) (k:=k) (kk:=k) O hx ha (Nat.le_refl _) (.v r) (fun a=>hX x a ha) fun h' t' _ O' S'=>q _ h' t' _ (Option.some.inj e▸O') S' fun j hj=>if_neg fun z=>hj (List.mem_singleton.mpr z))
omit hX in
theorem as_tup{ts:List T}{es:List Expr}{kd:Nat}{p:Pos}(hts:TgEs c ts es)(ih:AssOk g h0 lo k c env X ts es):AsOk g h0 lo k c env X (.tup ts) (.Tuple es kd p):=fun {v fr fr'} e W s ρ A Q Ex y hh O r q=>
 bE e fun l hl e=>(cU hl▸r:Rep g W s.heap (.tup l) y).tupE fun a xs m hy b1 b2 b3=>by
  have n:=noStar_tgs (env:=env) hts
  subst hy
  refine wpAny_assign_Tuple hh (isT b2) ?_ ?_ fun h' hex=>?_
  ·rw[n.1,List.length_map,n.2,bindTs_len e,List.size_toArray,b3.length]
  ·rw[n.1];simp [List.findIdx?_eq_none_iff]
  ·have hk:∀ b o,s.heap.get? b=some o→h'.get? b=some o:=fun b o e=>hex b o (Nat.ne_of_lt (Heap.lt_size e)) e
   have Gr:=ay (W:=W) hk
   rw[n.1,List.map_map]
   exact ih e W { s with heap:=h' } ρ A Q Ex xs hh (O.grow Gr (O.wf.grow hk)) (b3.grow Gr) fun W' h' t' ρ' O' S' hr=>q W' h' t' ρ' O' (Gr.step.trans S') hr
omit hX in
theorem as_nil:AssOk g h0 lo k c env X [] []:=fun {vs fr fr'} e W s ρ A Q Ex ys hh O r q=>by
 cases vs with
 | nil=>cases r;exact wpAny_assignInOrder_none (q W s.heap s.toks ρ (Option.some.inj e▸O) .refl fun _ _=>rfl)
 | cons=>cases e
omit hX in
theorem as_cons{t:T}{e:Expr}{ts:List T}{es:List Expr}(h1:AsOk g h0 lo k c env X t e)(h2:AssOk g h0 lo k c env X ts es):AssOk g h0 lo k c env X (t::ts) (e::es):=fun {vs fr fr'} e W s ρ A Q Ex ys hh O r q=>by
 cases vs with
 | nil=>cases e
 | cons v vs=>
  exact bE e fun fr1 e1 e2=>r.consE fun y ys hy r1 r2=>by
   subst hy
   exact wpAny_assignInOrder_more (h1 e1 W s ρ A _ Ex _ hh O r1 fun W1 hp1 t1 ρ1 O1 S1 hr1=>h2 e2 W1 { s with heap:=hp1,toks:=t1 } ρ1 A Q Ex _ hh O1 (r2.stay S1.stay) fun W2 hp2 t2 ρ2 O2 S2 hr2=>
    q W2 hp2 t2 ρ2 O2 (S1.trans S2) fun i hi=>(hr2 i fun z=>hi (List.mem_append_right _ z)).trans (hr1 i fun z=>hi (List.mem_append_left _ z)))
theorem assign_ok{t:T}{e:Expr}(h:TgE c t e):AsOk g h0 lo k c env X t e:=
 TgE.rec (motive_1:=fun t e _=>AsOk g h0 lo k c env X t e) (motive_2:=fun ts es _=>AssOk g h0 lo k c env X ts es) (fun hx ha=>as_var hX hx ha) (fun hts ih=>as_tup hts ih) as_nil (fun _ _ h1 h2=>as_cons h1 h2) h
end
end
noncomputable def df(e:Expr):Bool:=e.ctorIdx != 8&&e.ctorIdx != 9&&e.ctorIdx != 10
noncomputable def notTup(e:Expr):Bool:=e.ctorIdx != 25
theorem swaps_no{e:Expr}(h:df e=true)(t:Option Expr)(l:Nat)(env:Env):swapsWith e t l env=pure false:=by cases e <;> first | rfl | cases h
theorem swaps_attr(e o:Expr)(x:Str)(p:Pos)(l:Nat)(env:Env):swapsWith e (some (.Attribute o x p)) l env=pure false:=by cases e <;> rfl
theorem swaps_tup(e:Expr)(es:List Expr)(kd:Nat)(p:Pos)(l:Nat)(env:Env):swapsWith e (some (.Tuple es kd p)) l env=pure false:=by cases e <;> rfl
theorem swaps_sub(e o i:Expr)(p:Pos)(l:Nat)(env:Env):swapsWith e (some (.Subscript o i p)) l env=pure false:=by cases e <;> rfl
theorem swapped_no{es:List Expr}{kd:Nat}{p:Pos}{e:Expr}(h:notTup e=true)(env:Env):swappedStores [.Tuple es kd p] e env=pure none:=by cases e <;> first | rfl | cases h
section
variable {g:G} {h0:Heap} {N:aR} {n k:Nat} {c:Ctx} {R:Rec} {lo la:Nat} {Φ:Nat→List Own→Option (Own×Own)} {Wf:Nat}
theorem Step.toSt{W W':Wd}{h h':Heap}(x:Step k noX W h W' h'):Step k (stX la) W h W' h':=x.mono0 (Nat.le_refl _)
theorem FlR.nextE{W:Wd}{h:Heap}{fl:Flow}(r:FlR g W h k .next fl):fl=.next:=by cases r;rfl
theorem FlR.contE{W:Wd}{h:Heap}{fl:Flow}(r:FlR g W h k .cont fl):fl=.cont:=by cases r;rfl
theorem FlR.brkE{W:Wd}{h:Heap}{fl:Flow}(r:FlR g W h k .brk fl):fl=.brk:=by cases r;rfl
theorem FlR.retE{W:Wd}{h:Heap}{fl:Flow}{o:Own}{G:Prop}(r:FlR g W h k (.ret o) fl)(K:∀ x,fl=.ret x→RepO g W h (fun p=>.tmp k p) o x→G):G:=by cases r with | ret a=>exact K _ rfl a
theorem ex_asgV{x:Str}{i:Nat}{v:Expr}{a:E}{p pos:Pos}(hx:(x,i)∈c.vars)(ha:x∈c.asg)(hv:df v=true)(he:EvT g h0 n c (fun env=>eval v env) (R.ev a)):
  ExT g h0 n lo la c (fun env=>exec (.Assign [.Name x p] v pos) env) (aY R lo la Wf (.asg (.t (.var i)) a)):=fun fr fr' f e=>
 bE2 e fun o fr1 e1 e=>ifE e fun hz e=>sp e fun k W s ρ env A Q Ex Rm O q=>wpAny_Assign_Name (he fr fr1 o e1 k W s ρ env A _ Ex Rm O fun W1 h1 t1 y O1 S1 r1=>
  eL (X:=stX la) (k:=k) (kk:=k) (s:={ s with heap:=h1,toks:=t1 }) O1 hx ha (Nat.le_refl _) r1 (fun a _=>trivial) fun h' t' _ O' S'=>
   q _ h' t' _ .next O' (S1.toSt.trans S') (fun j hj=>if_neg fun z:j=i=>Nat.not_lt.mpr hz.1 (z▸hj)) .next) (swaps_no hv _ _ _)
theorem ex_asgT{ts:List T}{es:List Expr}{v:Expr}{a:E}{kd:Nat}{p pos:Pos}(ht:TgEs c ts es)(hv:df v=true)(hv':notTup v=true)(he:EvT g h0 n c (fun env=>eval v env) (R.ev a)):
  ExT g h0 n lo la c (fun env=>exec (.Assign [.Tuple es kd p] v pos) env) (aY R lo la Wf (.asg (.t (.tup ts)) a)):=fun fr fr' f e=>
 bE2 e fun o fr1 e1 e=>bE e fun fr2 e2 e=>sp e fun k W s ρ env A Q Ex Rm O q=>wpAny_Assign_stores (he.v fr fr1 o e1 k W s ρ env A _ Ex Rm O fun W1 h1 t1 y O1 S1 r1=>
  assign_ok (k:=k) (X:=stX la) (fun _ _ _ _=>trivial) (TgE.tup (kd:=kd) (p:=p) ht) e2 W1 { s with heap:=h1,toks:=t1 } ρ A _ Ex y Rm.handled O1 r1 fun W2 h2 t2 ρ2 O2 S2 hr=>
   q _ h2 t2 ρ2 .next O2 (S1.toSt.trans S2) (fun j hj=>hr j fun hm=>Nat.not_lt.mpr (bindT_lo e2 j hm) hj) .next)
  (show swapsWith v (some (.Tuple es kd p)) pos.line env=pure false from swaps_tup ..) (swapped_no hv' env)
theorem ex_expr{v:Expr}{a:E}{pos:Pos}(hv:df v=true)(he:EvT g h0 n c (fun env=>eval v env) (R.ev a)):
  ExT g h0 n lo la c (fun env=>exec (.Expr v pos) env) (aY R lo la Wf (.expr a)):=fun fr fr' f e=>
 bE2 e fun o fr1 e1 e=>sp e fun k W s ρ env A Q Ex Rm O q=>wpAny_Expr_any (he fr fr1 o e1 k W s ρ env A _ Ex Rm O fun W1 h1 t1 y O1 S1 r1=>q _ h1 t1 ρ .next O1 S1.toSt (fun _ _=>rfl) .next)
  (by unfold interactive;rw[O.env.kind];rfl) (swaps_no hv _ _ _)
theorem ExAt.from{t:Env→Sem Flow}{fr1 fr':Fr}{f:Fl}(x:ExAt g h0 n lo la c t fr1 f fr'){W W1:Wd}{h1:Heap}{s:Shared}{t1:Nat}{ρ ρ1:Nat→Option Value}{env:Env}{A:Around}{Q:Flow→Shared→Prop}{Ex:Value→Shared→Prop}(Rm:Room A n)
  (q:∀ W' h' t' ρ' fl,Ok g h0 c env ρ' W' h' fr'→Step k (stX la) W s.heap W' h'→(∀ i,i<lo→ρ' i=ρ i)→FlR g W' h' k f fl→Q fl { s with heap:=h',toks:=t' }) (O1:Ok g h0 c env ρ1 W1 h1 fr1) (S1:Step k (stX la) W s.heap W1 h1)
  (hr:∀ i,i<lo→ρ1 i=ρ i):wpAny (model g.prog g.w) A (t env) Q Ex { s with heap:=h1,toks:=t1 }:=
 x k W1 _ ρ1 env A Q Ex Rm O1 fun W2 h2 t2 ρ2 fl O2 S2 hr2 r2=>q W2 h2 t2 ρ2 fl O2 (S1.trans S2) (fun j hj=>(hr2 j hj).trans (hr j hj)) r2
theorem exs_cons{st:Stmt}{ss:List Stmt}{S:S}{Ss:List Mine.S}(h1:ExT g h0 n lo la c (fun env=>exec st env) (R.ex S))(h2:ExT g h0 n lo la c (fun env=>execs ss env) (exs R Ss)):
  ExT g h0 n lo la c (fun env=>execs (st::ss) env) (exs R (S::Ss)):=fun fr fr' f e=>bE2 e fun f1 fr1 e1 e=>by
 have x1:=h1 fr fr1 f1 e1
 cases f1 with
 | next=>exact fun k W s ρ env A Q Ex Rm O q=>wpAny_execs_cons (x1 k W s ρ env A _ Ex Rm O fun W1 hp1 t1 ρ1 fl O1 S1 hr1 r1=>by
   rw[r1.nextE];exact(h2 fr1 fr' f e).from Rm q O1 S1 hr1)
 | cont=>exact sp e fun k W s ρ env A Q Ex Rm O q=>wpAny_execs_cons (x1 k W s ρ env A _ Ex Rm O fun W1 hp1 t1 ρ1 fl O1 S1 hr1 r1=>by
   rw[r1.contE];exact q W1 hp1 t1 ρ1 _ O1 S1 hr1 .cont)
 | brk=>exact sp e fun k W s ρ env A Q Ex Rm O q=>wpAny_execs_cons (x1 k W s ρ env A _ Ex Rm O fun W1 hp1 t1 ρ1 fl O1 S1 hr1 r1=>by
   rw[r1.brkE];exact q W1 hp1 t1 ρ1 _ O1 S1 hr1 .brk)
 | ret o=>exact sp e fun k W s ρ env A Q Ex Rm O q=>wpAny_execs_cons (x1 k W s ρ env A _ Ex Rm O fun W1 hp1 t1 ρ1 fl O1 S1 hr1 r1=>r1.retE fun x hx rr=>by
   rw[hx];exact q W1 hp1 t1 ρ1 _ O1 S1 hr1 (.ret rr))
theorem exs_ok{ss:List Stmt}:∀ {Ss:List S},ss.length=Ss.length→(∀ p∈ss.zip Ss,ExT g h0 n lo la c (fun env=>exec p.1 env) (R.ex p.2))→ExT g h0 n lo la c (fun env=>execs ss env) (exs R Ss):=by
 induction ss with
 | nil=>
  intro Ss hl _
  cases List.length_eq_zero_iff.mp hl.symm
  exact fun fr fr' f e=>sp e fun k W s ρ env A Q Ex Rm O q=>wpAny_execs_nil (q W s.heap s.toks ρ .next O .refl (fun _ _=>rfl) .next)
 | cons st ss ih=>
  intro Ss hl hp
  cases Ss with
  | nil=>cases hl
  | cons S Ss=>exact exs_cons (hp (st,S) (List.mem_cons_self ..)) (ih (Nat.succ.inj hl) fun p h=>hp p (List.mem_cons_of_mem _ h))
theorem ex_iff{x:Expr}{b1 b2:List Stmt}{a:E}{B1 B2:List S}{pos:Pos}(ha:BoT g h0 n c (fun env=>isTrue x env (eval x env)) (evB R a))(h1:ExT g h0 n lo la c (fun env=>execs b1 env) (exs R B1))(h2:ExT g h0 n lo la c (fun env=>execs b2 env) (exs R B2)):
  ExT g h0 n lo la c (fun env=>exec (.If x b1 b2 pos) env) (aY R lo la Wf (.iff a B1 B2)):=fun fr fr' f e=>bE2 e fun t fr1 e1 e=>by
 cases t with
 | true=>exact fun k W s ρ env A Q Ex Rm O q=>wpAny_If (ha fr fr1 true e1 k W s ρ env A _ Ex Rm O fun W1 hh1 t1 O1 S1=>(h1 fr1 fr' f e).from Rm q O1 S1.toSt fun _ _=>rfl)
 | false=>exact fun k W s ρ env A Q Ex Rm O q=>wpAny_If (ha fr fr1 false e1 k W s ρ env A _ Ex Rm O fun W1 hh1 t1 O1 S1=>(h2 fr1 fr' f e).from Rm q O1 S1.toSt fun _ _=>rfl)
noncomputable def WhI(g:G)(h0:Heap)(lo la:Nat)(c:Ctx)(R:Rec)(env:Env)(k:Nat)(W:Wd)(s:Shared)(ρ:Nat→Option Value)(a:E)(Bs:List S)(f:Fl)(fr':Fr)(m:Nat)(s1:Shared):Prop:=
 ∃ W1 h1 t1 ρ1 fr1,s1={ s with heap:=h1,toks:=t1 }∧Ok g h0 c env ρ1 W1 h1 fr1∧Step k (stX la) W s.heap W1 h1∧(∀ i,i<lo→ρ1 i=ρ i)∧bL R a Bs m fr1=some (f,fr')
theorem wh_flow{W:Wd}{h:Heap}{f3 f:Fl}{fl:Flow}{fr3 fr':Fr}{X:Option (Fl×Fr)}{I:Prop}{Rk:Flow→Prop}
  (em:(match f3 with | .next=>X | .cont=>X | .brk=>some (.next,fr3) | .ret o=>some (.ret o,fr3))=some (f,fr')) (r3:FlR g W h k f3 fl)
  (kN:X=some (f,fr')→I) (kF:∀ f1 fl,some (f1,fr3)=some (f,fr')→FlR g W h k f1 fl→Rk fl):(match (generalizing:=false) fl with | .next | .cont=>I | .brk=>Rk .next | .ret v=>Rk (.ret v)):=by
 cases r3 with
 | next=>exact kN em
 | cont=>exact kN em
 | brk=>exact kF _ _ em .next
 | ret rr=>exact kF _ _ em (.ret rr)
theorem wh_turn{x:Expr}{b:List Stmt}{a:E}{Bs:List S}(ha:BoT g h0 n c (fun env=>isTrue x env (eval x env)) (evB R a))(hb:ExT g h0 n lo la c (fun env=>execs b env) (exs R Bs)){W:Wd}{s:Shared}{ρ:Nat→Option Value}{env:Env}{A:Around}{E1 E2:Value→Shared→Prop}{Rk:Flow→Shared→Prop}
  {Ip:Shared→Prop} {m:Nat} {fr fr':Fr} {f:Fl} (em:bL R a Bs m fr=some (f,fr')) (Rm:Room A n) (O:Ok g h0 c env ρ W s.heap fr)
  (kN:∀ m',m'<m→∀ W3 h3 t3 ρ3 fr3,Ok g h0 c env ρ3 W3 h3 fr3→Step k (stX la) W s.heap W3 h3→(∀ i,i<lo→ρ3 i=ρ i)→bL R a Bs m' fr3=some (f,fr')→Ip { s with heap:=h3,toks:=t3 })
  (kF:∀ W' h' t' ρ' fl,Ok g h0 c env ρ' W' h' fr'→Step k (stX la) W s.heap W' h'→(∀ i,i<lo→ρ' i=ρ i)→FlR g W' h' k f fl→Rk fl { s with heap:=h',toks:=t' }):
  wpAny (model g.prog g.w) A (isTrue x env (eval x env)) (fun t s₂=>if t then wpAny (model g.prog g.w) A (execs b env) (fun fl s₃=>match fl with
   | .next | .cont=>Ip s₃
   | .brk=>Rk .next s₃
   | .ret v=>Rk (.ret v) s₃) E2 s₂ else wpAny (model g.prog g.w) A (execs [] env) (fun f s₃=>Rk f s₃) E2 s₂) E1 s:=
 by
  obtain _ | m:=m
  ·exact noE em
  refine bE2 em fun t fr2 e2 em=>?_
  refine ha fr fr2 t e2 k W s ρ env A _ _ Rm O fun W2 h2 t2 O2 S2=>?_
  cases t with
  | false=>
   exact wpAny_execs_nil (sp (P:=fun f fr'=>(∀ W' h' t' ρ' fl,Ok g h0 c env ρ' W' h' fr'→Step k (stX la) W s.heap W' h'→(∀ i,i<lo→ρ' i=ρ i)→FlR g W' h' k f fl→Rk fl { s with heap:=h',toks:=t' })→Rk .next { s with heap:=h2,toks:=t2 }) em
    (fun q=>q W2 h2 t2 ρ .next O2 S2.toSt (fun _ _=>rfl) .next) kF)
  | true=>
   refine bE2 em fun f3 fr3 e3 em=>?_
   refine hb fr2 fr3 f3 e3 k W2 _ ρ env A _ _ Rm O2 fun W3 h3 t3 ρ3 fl O3 S3 hr3 r3=>?_
   exact wh_flow (Rk:=fun fl=>Rk fl { s with heap:=h3,toks:=t3 }) em r3 (kN m (Nat.lt_succ_self m) W3 h3 t3 ρ3 fr3 O3 (S2.toSt.trans S3) hr3)
    fun f1 fl e r=>kF W3 h3 t3 ρ3 fl (sp (P:=fun _ fr'=>Ok g h0 c env ρ3 W3 h3 fr') e O3) (S2.toSt.trans S3) hr3 (sp (P:=fun f _=>FlR g W3 h3 k f fl) e r)
theorem ex_while{x:Expr}{b:List Stmt}{a:E}{Bs:List S}{pos:Pos}(ha:BoT g h0 n c (fun env=>isTrue x env (eval x env)) (evB R a))(hb:ExT g h0 n lo la c (fun env=>execs b env) (exs R Bs)):
  ExT g h0 n lo la c (fun env=>exec (.While x b [] pos) env) (aY R lo la Wf (.whil a Bs)):=fun fr fr' f e k W s ρ env A Q Ex Rm O q=>wpAny_While
 (codeAny_whileLoop (R:=fun r s'=>match r with | .ok f=>Q f s' | .error e=>cameBackBy (model g.prog g.w) A env Ex e s') (WhI g h0 lo la c R env k W s ρ a Bs f fr')
  (fun m s1 I=>exE I fun W1 I=>exE I fun h1 I=>exE I fun t1 I=>exE I fun ρ1 I=>exE I fun fr1 I=>I.1.symm▸wh_turn (k:=k) (s:={ s with heap:=h1,toks:=t1 }) (Rk:=Q) (Ip:=fun s₃=>∃ m',m'<m∧WhI g h0 lo la c R env k W s ρ a Bs f fr' m' s₃) ha hb I.2.2.2.2 Rm I.2.1
   (fun m' hm W3 h3 t3 ρ3 fr3 O3 S3 hr em=>⟨m',hm,W3,h3,t3,ρ3,fr3,rfl,O3,I.2.2.1.trans S3,fun i hi=>(hr i hi).trans (I.2.2.2.1 i hi),em⟩)
   (fun W3 h3 t3 ρ3 fl O3 S3 hr r=>q W3 h3 t3 ρ3 fl O3 (I.2.2.1.trans S3) (fun i hi=>(hr i hi).trans (I.2.2.2.1 i hi)) r)) Wf ⟨W,s.heap,s.toks,ρ,fr,rfl,O,.refl,fun _ _=>rfl,e⟩)
theorem ex_cont{pos:Pos}:ExT g h0 n lo la c (fun env=>exec (.Continue pos) env) (aY R lo la Wf .cont):=fun fr fr' f e=>sp e fun k W s ρ env A Q Ex Rm O q=>
 wpAny_Continue (q W s.heap s.toks ρ _ O .refl (fun _ _=>rfl) .cont)
theorem ex_brk{pos:Pos}:ExT g h0 n lo la c (fun env=>exec (.Break pos) env) (aY R lo la Wf .brk):=fun fr fr' f e=>sp e fun k W s ρ env A Q Ex Rm O q=>
 wpAny_Break (q W s.heap s.toks ρ _ O .refl (fun _ _=>rfl) .brk)
theorem ret_ne{a:E}(hne:cA a=none)(fr:Fr):aY R lo la Wf (.ret a) fr=(R.ev a fr).bind fun p=>some (.ret p.1,p.2):=by
 show (match cA a with | some i=>_ | none=>_:Option (Fl×Fr))=_
 rw[hne]
theorem ex_ret{v:Expr}{a:E}{pos:Pos}(hne:cA a=none)(he:EvT g h0 n c (fun env=>eval v env) (R.ev a)):
  ExT g h0 n lo la c (fun env=>exec (.Return (some v) pos) env) (aY R lo la Wf (.ret a)):=fun fr fr' f e=>bE2 ((ret_ne hne fr).symm.trans e) fun o fr1 e1 e=>sp e fun k W s ρ env A Q Ex Rm O q=>
 wpAny_Return_some (he fr fr1 o e1 k W s ρ env A _ Ex Rm O fun W1 h1 t1 y O1 S1 r1=>q _ h1 t1 ρ _ O1 S1.toSt (fun _ _=>rfl) (.ret r1))
noncomputable def outF(k i:Nat):Role→Role
 | .slot j p=>if j=i then .tmp k p else .slot j p
 | r=>r
end
section
variable {g:G} {h0:Heap} {N:aR} {n k:Nat} {c:Ctx} {R:Rec} {lo la:Nat} {Φ:Nat→List Own→Option (Own×Own)} {Wf:Nat} {W W':Wd} {h h':Heap}
theorem out_step{i:Nat}(hz:la≤i):Step k (stX la) W h (fun a=>outF k i (W a)) h:=fun a o ho hk=>⟨.inl (by
 show outF k i (W a)=W a
 unfold kept at hk
 revert hk
 cases W a with
 | slot j p=>exact fun hk=>if_neg fun z:j=i=>hk.2 (z▸hz)
 | _=>exact fun _=>rfl),ho⟩
theorem ex_retV{x:Str}{i:Nat}{p pos:Pos}(hx:(x,i)∈c.vars)(ok:c8 x=true):ExT g h0 n lo la c (fun env=>exec (.Return (some (.Name x p)) pos) env) (aY R lo la Wf (.ret (.var i))):=fun fr fr' f e=>
 bE e fun o e1 e=>bE e fun v e2 e=>ifE e fun hz e=>sp e fun k W s ρ env A Q Ex Rm O q=>O.held e1 e2 fun y hy r=>wpAny_Return_some (bc O.env hx (aZ ok) (bj ok) hy
  (q _ s.heap s.toks ρ _ ⟨O.wf.map (f:=outF k i) rfl rfl,O.env.move fun a o e ho=>⟨congrArg (outF k i) e,ho⟩,O.st.mapI (f:=outF k i) rfl (fun j p hj=>if_neg hj) (.inl rfl)⟩ (out_step hz) (fun _ _=>rfl)
   (.ret (by have:=r.map (f:=outF k i) rfl;simpa only[outF,if_pos] using this))))
theorem attrName_inj{a b:Nat}(ha:a<17)(e:an b=an a):b=a:=by
 unfold an at e
 rw[List.getD_eq_getElem?_getD,List.getD_eq_getElem?_getD] at e
 have hl:attrNames.length=17:=rfl
 rw[List.getElem?_eq_getElem (show a<attrNames.length by lia)] at e
 by_cases hb:b<17
 ·rw[List.getElem?_eq_getElem (show b<attrNames.length by lia)] at e
  simp only[Option.getD_some] at e
  exact(List.getElem_inj attr_nodup).mp e
 ·rw[List.getElem?_eq_none (by lia)] at e
  simp only[Option.getD_some,Option.getD_none] at e
  have:Str.empty∉attrNames:=by decide +kernel
  exact absurd (e▸List.getElem_mem _) this
inductive NewA (g:G) (W:Wd) (h:Heap) (rl:Role):O1→Value→Prop
 | v {v:V} {x:Value}:Rep g W h v x→NewA g W h rl (.v v) x
 | list {b:Addr} {n:Nat} {vs:List V} {xs:List Value}:W b=rl→h.get? b=some (bO xs n)→Reps g W h vs xs→NewA g W h rl (.list vs) (.ref b)
theorem Repoa.setAttr{r:Nat→Role}{m:Str→Option Value}{y:Value}{o1:O1}{a:Nat}{l:List O1}(hf:cy W h W' h')(ha:a<17)(hl:∀ b o p,3≤p→W b=r p→h.get? b=some o→W' b=W b∧h'.get? b=some o)
  (hn:NewA g W' h' (r (3+a)) o1 y) (x:Repoa g W h r m 0 l):Repoa g W' h' r (fun z=>if z=an a then some y else m z) 0 (l.set a o1):=.mk fun j o e=>by
 rw[List.getElem?_set] at e
 by_cases hj:a=j
 ·rw[if_pos hj] at e
  subst hj
  refine ifE e fun _ e=>Option.some.inj e▸?_
  cases hn with
  | v q=>exact .v (if_pos rfl) q
  | list q1 q2 q3=>exact .list (if_pos rfl) q1 q2 q3
 ·rw[if_neg hj] at e
  have ne:(if an j=an a then some y else m (an j))=m (an j):=if_neg fun z=>hj (attrName_inj ha z).symm
  cases x.el e with
  | none=>exact .none
  | v p q=>exact .v (ne.trans p) (q.stay hf)
  | list p w ho q=>
   have L:=hl _ _ _ (Nat.le_add_right ..) w ho
   exact .list (ne.trans p) (L.1.trans w) L.2 (q.stay hf)
noncomputable def f5(k i a:Nat)(l:Bool):Role→Role
 | .tmp j p=>if j=k then (if l then .slot i (3+a) else .frz) else .tmp j p
 | r=>r
theorem RepO.att{o:Own}{y:Value}{i a:Nat}(r:RepO g W h (fun p=>.tmp k p) o y):Rep g (fun b=>f5 k i a false (W b)) h o.frz y:=(r.map (f:=f5 k i a false) rfl).frz fun p=>if_pos rfl
theorem newA_of{o:Own}{y:Value}{i a:Nat}(r:RepO g W h (fun p=>.tmp k p) o y):∃ l,NewA g (fun b=>f5 k i a l (W b)) h (.slot i (3+a)) o.toO1 y:=by
 have r2:=r.att (i:=i) (a:=a)
 cases r with
 | list w ho q=>exact⟨true,.list ((congrArg (f5 k i a true) w).trans (if_pos rfl)) ho (q.stay fun _ _ e ho=>⟨congrArg (f5 k i a true) e,ho⟩)⟩
 | _=>exact⟨false,.v r2⟩
section
variable {c:Ctx} {env:Env} {ρ:Nat→Option Value} {fr:Fr}
theorem att_keep{d:Addr}{i:Nat}(b2:W d=.slot i 2)(hsb:Heap.SameBut d h h'):∀ b o,W b≠.slot i 2→h.get? b=some o→h'.get? b=some o:=fun b o hb ho=>(hsb.2 b fun z=>hb (z▸b2)).trans ho
theorem cb{x y:Role}{b:Addr}(e:W b=x)(h:x≠y):W b≠y:=e▸h
theorem att_step{i a:Nat}{l:Bool}(hk:∀ b o,W b≠.slot i 2→h.get? b=some o→h'.get? b=some o)(hz:la≤i):Step k (stX la) W h (fun b=>f5 k i a l (W b)) h':=fun b o ho hq=>by
 show Kp (W b) (f5 k i a l (W b))∧_
 unfold kept at hq
 have hk:=hk b o
 revert hq hk
 cases W b with
 | env=>exact fun hq=>absurd trivial hq
 | slot j p=>exact fun hq hk=>⟨.inl rfl,hk (fun z=>hq.2 ((Role.slot.inj z).1▸hz)) ho⟩
 | tmp j p=>exact fun hq hk=>⟨.inl (if_neg (Nat.ne_of_lt hq)),hk nofun ho⟩
 | _=>exact fun _ hk=>⟨.inl rfl,hk nofun ho⟩
theorem att_ok{i a cc:Nat}{as:List O1}{o:Own}{y:Value}{a0 d:Addr}{m:Str→Option Value}(O:Ok g h0 c env ρ W h fr)(hi:fr[i]?=some (.inst cc as))(hy:ρ i=some (.ref a0))(b1:W a0=.slot i 1)(b2:W d=.slot i 2)(b3:h.get? a0=some (eS (g.ca cc) d))
  (b5:Repoa g W h (fun p=>.slot i p) m 0 as) (ha:a<17) (hz:la≤i) (r:RepO g W h (fun p=>.tmp k p) o y) (had:AD h' d fun z=>if z=an a then some y else m z) (hsb:Heap.SameBut d h h'):
  ∃ W',Ok g h0 c env ρ W' h' (fr.set i (.inst cc (as.set a o.toO1)))∧Step k (stX la) W h W' h':=by
 have hk:=att_keep b2 hsb
 have Sg:StayR (fun p=>.tmp k p) W h W h':=fun b o eb ho=>⟨rfl,hk b o (eb.elim (fun e=>cb e nofun) fun e=>exE e fun p e=>cb e nofun) ho⟩
 refine exE (newA_of (i:=i) (a:=a) (r.stay Sg)) fun l hn=>?_
 have Sf:cy W h (fun b=>f5 k i a l (W b)) h':=fun b o eb ho=>⟨congrArg (f5 k i a l) eb,hk b o (cb eb nofun) ho⟩
 refine⟨_,⟨⟨fun b o ho=>⟨congrArg (f5 k i a l) (O.wf.base b o ho).1,hk b o (cb (O.wf.base b o ho).1 nofun) (O.wf.base b o ho).2⟩,fun b hb=>?_⟩,
  O.env.move fun b o e ho=>⟨congrArg (f5 k i a l) e,hk b o (cb e nofun) ho⟩,fun j o' ho'=>set_at ho' (fun hj e=>?_) fun hj e=>?_⟩,att_step (l:=l) hk hz⟩
 ·by_cases z:b=d
  ·exact exE had fun es p=>exE p fun ep p=>⟨_,z▸p.1⟩
  ·exact exE (O.wf.live b fun z=>hb (congrArg (f5 k i a l) z)) fun o ho=>⟨o,(hsb.2 b z).trans ho⟩
 ·rw[hj,← e]
  exact .inr ⟨_,hy,.inst (congrArg (f5 k i a l) b1) (congrArg (f5 k i a l) b2) (hk _ _ (cb b1 nofun) b3) had (b5.setAttr Sf ha (fun b o p hp eb ho=>⟨(congrArg (f5 k i a l) eb).trans eb.symm,hk b o (cb eb fun z=>by have:=(Role.slot.inj z).2;lia) ho⟩) hn)⟩
 ·refine(O.st j o' e).imp id fun z=>exE z fun z p=>⟨z,p.1,p.2.stay fun b o eb ho=>?_⟩
  exact eb.elim (fun e=>⟨(congrArg (f5 k i a l) e).trans e.symm,hk b o (cb e nofun) ho⟩) fun e=>exE e fun p e=>⟨(congrArg (f5 k i a l) e).trans e.symm,hk b o (cb e fun z=>hj (Role.slot.inj z).1.symm) ho⟩
end
theorem ex_asgA(B:bV g h0 N){x:Str}{i a:Nat}{v:Expr}{e0:E}{p p2 pos:Pos}(hx:(x,i)∈c.vars)(ok:c8 x=true)(ha:a<17)(hv:notTup v=true)(he:EvT g h0 n c (fun env=>eval v env) (R.ev e0)):
  ExT g h0 n lo la c (fun env=>exec (.Assign [.Attribute (.Name x p) (an a) p2] v pos) env) (aY R lo la Wf (.asg (.attr i a) e0)):=fun fr fr' f e=>
 bE2 e fun o fr1 e1 e=>bE e fun o2 hi e=>bE e fun u hu e=>ifE e fun hz e=>sp e fun k W s ρ env A Q Ex Rm O q=>by
  have hi:fr1[i]?=some (.inst u.1 u.2):=eO hu▸hi
  refine wpAny_Assign_stores (he fr fr1 o e1 k W s ρ env A _ Ex Rm O fun W1 h1 t1 y O1 S1 r1=>?_) (show swapsWith v (some (.Attribute (.Name x p) (an a) p2)) pos.line env=pure false from swaps_attr ..) rfl
  show wpAny _ _ (do
   let ov ← holding [y] (eval (.Name x p) env)
   standAt p2.atName
   holding [y,ov] (setAttr ov (an a) y)
   release [y,ov] []) _ _ _
  refine O1.heldO hi nofun fun a0v hy ri=>ri.instE fun a0 d m hx0 b1 b2 b3 b4 b5=>?_
  refine wpAny_bind (wpAny_holding (bc O1.env hx (aZ ok) (bj ok) (hx0▸hy) (wpAny_bind (wpAny_standAt (wpAny_bind (wpAny_holding ?_))))))
  exact set_attr B (s:={ s with heap:=h1,toks:=t1 }) O1.wf b3 b4 (dQ ha) y fun h' t had hsb=>wpAny_release (exE (att_ok O1 hi (hx0▸hy) b1 b2 b3 b5 ha hz.1 r1 had hsb) fun W' P=>q W' h' t ρ .next P.1 (S1.toSt.trans P.2) (fun _ _=>rfl) .next)
end
section
variable {g:G} {h0:Heap} {N:aR} {n k:Nat} {c:Ctx} {R:Rec} {lo la:Nat} {Φ:Nat→List Own→Option (Own×Own)} {Wf:Nat} {W W':Wd} {h h':Heap} {env:Env} {ρ:Nat→Option Value} {fr:Fr}
theorem Repd.any(q:Int){l:List (Int×V)}:∀ {kvs:List (Int×Value)},Repd g W h l kvs→kvs.any (fun kv=>decide (kv.1=q))=l.any fun p=>p.1==q:=by
 induction l with
 | nil=>intro kvs r;cases r;rfl
 | cons p l ih=>intro kvs r;cases r with | cons a b=>rw[List.any_cons,List.any_cons,ih b];rfl
theorem Repd.map(q:Int){v:V}{y:Value}(ry:Rep g W h v y){l:List (Int×V)}:∀ {kvs:List (Int×Value)},Repd g W h l kvs→Repd g W h (l.map fun p=>if p.1==q then (p.1,v) else p) (kvs.map fun kv=>if kv.1=q then (kv.1,y) else kv):=by
 induction l with
 | nil=>intro kvs r;cases r;exact .nil
 | cons p l ih=>
  intro kvs r
  cases r with
  | @cons k v' x l xs a b=>
   rw[List.map_cons,List.map_cons]
   by_cases e:k=q
   ·rw[if_pos (beq_iff_eq.mpr e),if_pos e];exact .cons ry (ih b)
   ·rw[if_neg fun z=>e (eq_of_beq z),if_neg e];exact .cons a (ih b)
theorem Repd.app(q:Int){v:V}{y:Value}(ry:Rep g W h v y){l:List (Int×V)}:∀ {kvs:List (Int×Value)},Repd g W h l kvs→Repd g W h (l++[(q,v)]) (kvs++[(q,y)]):=by
 induction l with
 | nil=>intro kvs r;cases r;exact .cons ry .nil
 | cons p l ih=>intro kvs r;cases r with | cons a b=>exact .cons a (ih b)
theorem Repd.dset{l:List (Int×V)}{kvs:List (Int×Value)}(r:Repd g W h l kvs)(q:Int){v:V}{y:Value}(ry:Rep g W h v y):Repd g W h (Mine.dset l q v) (PySem.stored kvs q y):=by
 unfold Mine.dset PySem.stored
 rw[r.any q]
 cases l.any fun p=>p.1==q with
 | true=>exact r.map q ry
 | false=>exact r.app q ry
theorem Repsd.any(q:List Nat){l:List (List Nat×V)}:∀ {kvs:List (Str×Value)},Repsd g W h l kvs→kvs.any (fun kv=>decide (kv.1=strOf q))=l.any fun p=>p.1==q:=by
 induction l with
 | nil=>intro kvs r;cases r;rfl
 | cons p l ih=>
  intro kvs r
  cases r with
  | @cons k v' x l xs a b=>
   rw[List.any_cons,List.any_cons,ih b]
   by_cases e:k=q
   ·rw[decide_eq_true (congrArg strOf e),beq_iff_eq.mpr e]
   ·rw[decide_eq_false fun z=>e (strOf_inj z),beq_eq_false_iff_ne.mpr e]
theorem Repsd.map(q:List Nat){v:V}{y:Value}(ry:Rep g W h v y){l:List (List Nat×V)}:∀ {kvs:List (Str×Value)},Repsd g W h l kvs→Repsd g W h (l.map fun p=>if p.1==q then (p.1,v) else p) (kvs.map fun kv=>if kv.1=strOf q then (kv.1,y) else kv):=by
 induction l with
 | nil=>intro kvs r;cases r;exact .nil
 | cons p l ih=>
  intro kvs r
  cases r with
  | @cons k v' x l xs a b=>
   rw[List.map_cons,List.map_cons]
   by_cases e:k=q
   ·rw[if_pos (beq_iff_eq.mpr e),if_pos (congrArg strOf e)];exact .cons ry (ih b)
   ·rw[if_neg fun z=>e (eq_of_beq z),if_neg fun z=>e (strOf_inj z)];exact .cons a (ih b)
theorem Repsd.app(q:List Nat){v:V}{y:Value}(ry:Rep g W h v y){l:List (List Nat×V)}:∀ {kvs:List (Str×Value)},Repsd g W h l kvs→Repsd g W h (l++[(q,v)]) (kvs++[(strOf q,y)]):=by
 induction l with
 | nil=>intro kvs r;cases r;exact .cons ry .nil
 | cons p l ih=>intro kvs r;cases r with | cons a b=>exact .cons a (ih b)
theorem Repsd.dset{l:List (List Nat×V)}{kvs:List (Str×Value)}(r:Repsd g W h l kvs)(q:List Nat){v:V}{y:Value}(ry:Rep g W h v y):Repsd g W h (Mine.dset l q v) (PySem.stored kvs (strOf q) y):=by
 unfold Mine.dset PySem.stored
 rw[r.any q]
 cases l.any fun p=>p.1==q with
 | true=>exact r.map q ry
 | false=>exact r.app q ry
theorem Repsd.len{l:List (List Nat×V)}:∀ {kvs:List (Str×Value)},Repsd g W h l kvs→kvs.length=l.length:=by
 induction l with
 | nil=>intro kvs c;cases c;rfl
 | cons p l ih=>intro kvs c;cases c with | cons a b=>exact congrArg Nat.succ (ih b)
theorem Reps.set{l:List V}{xs:List Value}(r:Reps g W h l xs){v:V}{y:Value}(ry:Rep g W h v y)(j:Nat):Reps g W h (l.set j v) (xs.set j y):=by
 induction l generalizing xs j with
 | nil=>cases r;exact .nil
 | cons u l ih=>cases r with | cons a b=>cases j with | zero=>exact .cons ry b | succ j=>exact .cons a (ih b j)
theorem dn{prog:Program}{w:World}{A:Around}{E:Value→Shared→Prop}{s:Shared}{l:Addr}{xs:List Value}{m:Nat}{k:Int}{t:Tok}{v:Value}{Q:Unit→Shared→Prop}(ho:s.heap.get? l=some (bO xs m))
  (h0:0≤k) (hfit:k<2 ^ 63) (hn:k<xs.length)
  (hQ:∀ h' m',h'.get? l=some (bO (xs.set k.toNat v) m')→Heap.SameBut l s.heap h'→Q () { s with heap:=h' }):
  wpAny (model prog w) A (setItem (.ref l) (.int k t) v) Q E s:=by
 have hl:=isL ho
 unfold setItem
 try with_reducible refine wpAny_holding ?_
 first | refine wpAny_bind (wpAny_pure ?_) | skip
 refine wpAny_bind (wpAny_sequenceKey hl.typeIs (by decide) ?_)
 refine wpAny_bind (wpAny_callSpecial?_slot (name:=Str.ofString "__setitem__") hl.typeIs slot_list_setitem
  (wpAny_call_entry slot_list_setitem hl.typeIs entry_list_setitem ?_ (args_list_setitem _ _ _)))
 show wpAny _ _ (Builtin.List.listSubscript? (.int k t) >>= _) _ _ s
 refine wpAny_bind (wpAny_listSubscript_int (fitsIndex_of h0 hfit) ?_)
 clear hfit
 obtain ⟨j,rfl⟩:=Int.eq_ofNat_of_zero_le h0
 have hj:j<xs.toArray.size:=by rw[List.size_toArray];lia
 have hx':xs.toArray[j]?=some xs.toArray[j]:=Array.getElem?_eq_getElem hj
 show wpAny _ _ ((seqItemAt l j >>= fun r=>pure (r.map (j,·))) >>= _) _ _ s
 refine wpAny_bind (wpAny_bind (wpAny_seqItemAt ho rfl (wpAny_pure ?_)))
 rw[hx']
 show wpAny _ _ (setSeqItemAt l j v >>= _) _ _ s
 have hu:=Heap.get?_update_self (Obj.mapSeq (·.setIfInBounds j v)) ho rfl
 have hfin:(s.heap.update l (Obj.mapSeq (·.setIfInBounds j v))).get? l=some (bO (xs.set j v) (if (xs.toArray.setIfInBounds j v).size==xs.toArray.size then m else m+1)):=by
  rw[hu];simp [Obj.mapSeq,bO]
 refine wpAny_bind (wpAny_setSeqItemAt ho rfl ?_)
 first
  | exact wpAny_bind (wpAny_pure (wpAny_pure ⟨.none,rfl,wpAny_pure (hQ _ _ hfin (Heap.SameBut.update ..))⟩))
  | exact wpAny_pure ⟨.none,rfl,wpAny_pure (hQ _ _ hfin (Heap.SameBut.update ..))⟩
theorem assign_sub(o sl:Expr)(p:Pos)(env:Env)(y:Value):∃ vs:Value→Value→List Value,assign (.Subscript o sl p) env y=(do
   let ov ← holding [y] (eval o env)
   let iv ← holding [y,ov] (eval sl env)
   standAt p
   holding [y,ov,iv] (setItem ov iv y)
   release (vs ov iv) []):=⟨_,rfl⟩
theorem swapped_sub(o sl v:Expr)(p:Pos)(env:Env):swappedStores [.Subscript o sl p] v env=pure none:=by
 rfl
theorem fb{b:Addr}(hs:Heap.SameBut b h h'):∀ x o,x≠b→h.get? x=some o→h'.get? x=some o:=fun x o hne ho=>(hs.2 x hne).trans ho
theorem RepO.dictE{r:Nat→Role}{l:List (Int×V)}{x:Value}{G:Prop}(y:RepO g W h r (.dict l) x)(k:∀ a kvs,x=.ref a→(a==sysModules)=false→W a=r 0→h.DictOf (intKind g.prog g.w) a kvs→Repd g W h l kvs→G):G:=by
 cases y with | dict z a b c=>exact k _ _ rfl z a b c
theorem RepO.sdictE{r:Nat→Role}{l:List (List Nat×V)}{x:Value}{G:Prop}(y:RepO g W h r (.sdict l) x)(k:∀ a kvs,x=.ref a→(a==sysModules)=false→W a=r 0→h.DictOf (strKind g.prog g.w) a kvs→Repsd g W h l kvs→G):G:=by
 cases y with | sdict z a b c=>exact k _ _ rfl z a b c
theorem asgDE{i:Nat}{k v:V}{o:Own}{fr fr3:Fr}{G:Prop}(e:asgD i k v fr o=some fr3)(k1:∀ l q,o=.dict l→k=.int q→l.length≤cap→fr.set i (.dict (dset l q v))=fr3→G)
  (k2:∀ l q,o=.sdict l→k=.str q→l.length≤cap→fr.set i (.sdict (dset l q v))=fr3→G):G:=by
 cases o with
 | dict l=>exact bE e fun q h1 e=>ifE e fun hz e=>k1 l q rfl (aB h1) hz (Option.some.inj e)
 | sdict l=>exact bE e fun q h1 e=>ifE e fun hz e=>k2 l q rfl (cV h1) hz (Option.some.inj e)
 | _=>cases e
theorem set_dict{s:Shared}{A:Around}{Q:Unit→Shared→Prop}{Ex:Value→Shared→Prop}{i:Nat}{l:List (Int×V)}{qk:Int}{u:V}{y0 y z:Value}(O:Ok g h0 c env ρ W s.heap fr)(hi:fr[i]?=some (.dict l))(hz:l.length≤cap)(hy:ρ i=some y0)(r:Rep g W s.heap u y)
  (rk:Rep g W s.heap (.int qk) z) (K:∀ h' t',Ok g h0 c env ρ W h' (fr.set i (.dict (dset l qk u)))→Step k noX W s.heap W h'→Q () { s with heap:=h',toks:=t' }):wpAny (model g.prog g.w) A (setItem y0 z y) Q Ex s:=
 O.heldO hi nofun fun y' hy' ri=>ri.dictE fun b kvs hb ns w0 hd rd=>rk.intE fun t hz'=>by
  have hy0:y0=.ref b:=(Option.some.inj (hy.symm.trans hy')).trans hb
  rw[hy0] at hy
  rw[hz',hy0]
  refine wpAny_setItem_pairs (knd:=intKind g.prog g.w) (k:=qk) (intKind_is _ _ _ _) hd (fun h' hd' hs'=>?_) (by rw[rd.length];exact Nat.le_trans hz cS)
  have hk:=fb hs'
  have S:Step k noX W s.heap W h':=eZ ⟨by decide,by decide⟩ w0 hk
  exact K h' _ (exE hd' fun ob ho=>exE ho fun es ho=>exE ho fun ep ho=>chg_ok O ⟨by decide,by decide⟩ w0 hk ho.1 ⟨_,hy,.dict ns w0 hd' ((rd.dset qk r).stay S.stay)⟩) S
theorem set_sdict{s:Shared}{A:Around}{Q:Unit→Shared→Prop}{Ex:Value→Shared→Prop}{i:Nat}{l:List (List Nat×V)}{qk:List Nat}{u:V}{y0 y z:Value}(O:Ok g h0 c env ρ W s.heap fr)(hi:fr[i]?=some (.sdict l))(hz:l.length≤cap)(hy:ρ i=some y0)(r:Rep g W s.heap u y)
  (rk:Rep g W s.heap (.str qk) z) (K:∀ h' t',Ok g h0 c env ρ W h' (fr.set i (.sdict (dset l qk u)))→Step k noX W s.heap W h'→Q () { s with heap:=h',toks:=t' }):wpAny (model g.prog g.w) A (setItem y0 z y) Q Ex s:=
 O.heldO hi nofun fun y' hy' ri=>ri.sdictE fun b kvs hb ns w0 hd rd=>rk.strE fun t hz'=>by
  have hy0:y0=.ref b:=(Option.some.inj (hy.symm.trans hy')).trans hb
  rw[hy0] at hy
  rw[hz',hy0]
  refine wpAny_setItem_pairs (knd:=strKind g.prog g.w) (k:=strOf qk) (strKind_is _ _ _ _) hd (fun h' hd' hs'=>?_) (by rw[rd.len];exact Nat.le_trans hz cS)
  have hk:=fb hs'
  have S:Step k noX W s.heap W h':=eZ ⟨by decide,by decide⟩ w0 hk
  exact K h' _ (exE hd' fun ob ho=>exE ho fun es ho=>exE ho fun ep ho=>chg_ok O ⟨by decide,by decide⟩ w0 hk ho.1 ⟨_,hy,.sdict ns w0 hd' ((rd.dset qk r).stay S.stay)⟩) S
theorem set_ok{s:Shared}{A:Around}{Q:Unit→Shared→Prop}{Ex:Value→Shared→Prop}{i:Nat}{fr3:Fr}{u kv:V}{y0 y z:Value}(e:asgP (.var i) kv u fr=some fr3)(O:Ok g h0 c env ρ W s.heap fr)(hy:ρ i=some y0)(r:Rep g W s.heap u y)(rk:Rep g W s.heap kv z)
  (K:∀ h' t',Ok g h0 c env ρ W h' fr3→Step k noX W s.heap W h'→Q () { s with heap:=h',toks:=t' }):wpAny (model g.prog g.w) A (setItem y0 z y) Q Ex s:=
 bE e fun o hi e=>asgDE e (fun l q ho hk hz he=>set_dict (k:=k) O (ho▸hi) hz hy r (hk▸rk) (he▸K)) fun l q ho hk hz he=>set_sdict (k:=k) O (ho▸hi) hz hy r (hk▸rk) (he▸K)
theorem set_okAt{s:Shared}{A:Around}{Q:Unit→Shared→Prop}{Ex:Value→Shared→Prop}{i a:Nat}{fr3:Fr}{u kv:V}{b:Addr}{y z:Value}(e:asgP (.at i a) kv u fr=some fr3)(O:Ok g h0 c env ρ W s.heap fr)(hp:∀ {G:Prop} {l:List V},aV (.at i a) fr=some l→(∀ xs n,PlIs g W s.heap ρ (.at i a) b→W b=P.role (.at i a)→s.heap.get? b=some (bO xs n)→Reps g W s.heap l xs→G)→G)
  (r:Rep g W s.heap u y) (rk:Rep g W s.heap kv z) (K:∀ h' t',Ok g h0 c env ρ W h' fr3→Step k noX W s.heap W h'→Q () { s with heap:=h',toks:=t' }):wpAny (model g.prog g.w) A (setItem (.ref b) z y) Q Ex s:=
 bE e fun kq hq e=>bE e fun l e6 e=>ifE e fun hz e=>(aB hq▸rk:Rep g W s.heap (.int kq) z).intE fun t ht=>hp e6 fun xs2 m2 q1 q2 q3 q4=>by
  rw[ht]
  refine dn q3 hz.1 (Int.lt_trans hz.2.1 (cap63 hz.2.2)) (by rw[q4.length];exact hz.2.1) fun h' m3 hl hs'=>?_
  have P:=put_ok (k:=k) O e6 q1 q2 q3 (fb hs') hl (q4.set r kq.toNat)
  exact K h' _ (Option.some.inj e▸P.1) P.2
theorem ex_asgS(B:bV g h0 N){P0:P}{o sl v:Expr}{a b:E}{p pos:Pos}(ho:PlE c P0 o)(he:EvT g h0 n c (fun env=>eval v env) (R.ev a))(hs:EvT g h0 n c (fun env=>eval sl env) (R.ev b)):
  ExT g h0 n lo la c (fun env=>exec (.Assign [.Subscript o sl p] v pos) env) (aY R lo la Wf (.asg (.sub P0 b) a)):=fun fr fr' f e=>
 bE2 e fun u fr1 e1 e=>bE e fun _ e2 e=>bE2 e fun kv fr2 e3 e=>bE e fun fr3 e4 e=>sp e fun k W s ρ env A Q Ex Rm O q=>by
  refine wpAny_Assign_stores (he.v fr fr1 u e1 k W s ρ env A _ Ex Rm O fun W1 h1 t1 y O1 S1 r1=>?_) (show swapsWith v (some (.Subscript o sl p)) pos.line env=pure false from swaps_sub ..) (swapped_sub o sl v p env)
  refine exE (assign_sub o sl p env y) fun vs key=>?_
  show wpAny _ _ (assign (.Subscript o sl p) env y) _ _ _
  rw[key]
  cases ho with
  | var hx ok=>
   refine bE e2 fun o hi e2=>ifE e2 fun hd _=>O1.heldO hi (fun z=>by rw[z] at hd;cases hd) fun y0 hy _=>?_
   exact wpAny_bind (wpAny_holding (bc O1.env hx (aZ ok) (bj ok) hy (wpAny_bind (wpAny_holding (hs.v fr1 fr2 kv e3 k W1 { s with heap:=h1,toks:=t1 } ρ env A _ Ex Rm O1 fun W2 h2 t2 z O2 S2 r2=>wpAny_bind (wpAny_standAt (wpAny_bind (wpAny_holding
    (set_ok (k:=k) (s:={ s with heap:=h2,toks:=t2 }) e4 O2 hy (r1.stay S2.stay) r2 fun h' t3 O3 S3=>wpAny_release (q W2 h' _ ρ .next O3 (S1.toSt.trans (S2.toSt.trans S3.toSt)) (fun _ _=>rfl) .next))))))))))
  | «at» hx ok ha=>
   obtain ⟨l0,e5,-⟩:=Option.map_eq_some_iff.mp e2
   refine placeE O1.st e5 fun b1 xs1 m1 p1 p2 p3 p4=>?_
   exact wpAny_bind (wpAny_holding (pl_load B (s:={ s with heap:=h1,toks:=t1 }) O1 (.at hx ok ha) p1 fun t=>wpAny_bind (wpAny_holding (hs.v fr1 fr2 kv e3 k W1 { s with heap:=h1,toks:=t } ρ env A _ Ex Rm O1 fun W2 h2 t2 z O2 S2 r2=>wpAny_bind (wpAny_standAt (wpAny_bind (wpAny_holding
    (set_okAt (k:=k) (s:={ s with heap:=h2,toks:=t2 }) e4 O2 (p1.later S2 O2.st) (r1.stay S2.stay) r2 fun h' t3 O3 S3=>wpAny_release (q W2 h' _ ρ .next O3 (S1.toSt.trans (S2.toSt.trans S3.toSt)) (fun _ _=>rfl) .next)))))))))
end
section
variable {g:G} {h0:Heap} {N:aR} {n k:Nat} {c:Ctx} {R:Rec} {lo la:Nat} {Φ:Nat→List Own→Option (Own×Own)} {Wf:Nat} {W W1 W2 W':Wd} {h h' h1 h2:Heap} {env:Env} {ρ:Nat→Option Value} {fr:Fr}
theorem Repoa.conv{r r':Nat→Role}{m:Str→Option Value}(hf:cy W h W' h')(hr:∀ a o p,W a=r p→h.get? a=some o→W' a=r' p∧h'.get? a=some o){k:Nat}{l:List O1}(x:Repoa g W h r m k l):Repoa g W' h' r' m k l:=by
 induction x with
 | nil=>exact .nil
 | none _ ih=>exact .none ih
 | cons e a _ ih=>exact .cons e (a.stay hf) ih
 | list e w o a _ ih=>exact .list e (hr _ _ _ w o).1 (hr _ _ _ w o).2 (a.stay hf) ih
theorem RepO.conv{r r':Nat→Role}(hf:cy W h W' h')(hr:∀ a o p,W a=r p→h.get? a=some o→W' a=r' p∧h'.get? a=some o){o:Own}{x:Value}(y:RepO g W h r o x):RepO g W' h' r' o x:=by
 cases y with
 | v a=>exact .v (a.stay hf)
 | list a b c=>exact .list (hr _ _ _ a b).1 (hr _ _ _ a b).2 (c.stay hf)
 | dict z a b c=>
  obtain ⟨o,ho⟩:=DictOf.some b
  exact .dict z (hr _ _ _ a ho).1 (DictOf.move b fun o e=>(hr _ _ _ a e).2) (c.stay hf)
 | sdict z a b c=>
  obtain ⟨o,ho⟩:=DictOf.some b
  exact .sdict z (hr _ _ _ a ho).1 (DictOf.move b fun o e=>(hr _ _ _ a e).2) (c.stay hf)
 | inst a b c d e=>
  obtain ⟨o,ho⟩:=AD.ex d
  exact .inst (hr _ _ _ a c).1 (hr _ _ _ b ho).1 (hr _ _ _ a c).2 (AD.move d fun o e=>(hr _ _ _ b e).2) (e.conv hf hr)
noncomputable def bD(ri:Option Nat):Role→Role
 | .fgn=>.fgn
 | .frz=>.frz
 | .slot j p=>if ri=some j then .slot 0 p else .fgn
 | _=>.fgn
noncomputable def backF(ri:Option Nat)(k:Nat):Role→Role
 | .frz=>.frz
 | .tmp 0 p=>.tmp k p
 | .slot 0 p=>match ri with | some i=>.slot i p | none=>.fgn
 | _=>.fgn
noncomputable def bN(ri:Option Nat)(k:Nat)(r1 r2:Role):Role:=match r1 with
 | .fgn=>backF ri k r2
 | .frz=>.frz
 | .slot j p=>if ri=some j then backF ri k r2 else .slot j p
 | r=>r
noncomputable def FunC(g:G)(h0:Heap)(n la:Nat)(f:Nat)(ir:List Own→Option (Own×Own)):Prop:=
 ∀ (args:List Own) (r:Own×Own),ir args=some r→∀ (W:Wd) (s:Shared) (xs:List Value) (A:Around) (Rz:Result→Shared→Prop),
  RoomF A n→WF h0 W s.heap→xs.length=args.length→St g W s.heap (fun i=>xs[i]?) args→(∀ W' h' t' y,WF h0 W' h'→Step 0 (stX la) W s.heap W' h'→RepO g W' h' (fun p=>.tmp 0 p) r.1 y→
   (r.2=.v .undef∨∃ x0,xs[0]?=some x0∧RepO g W' h' (fun p=>.slot 0 p) r.2 x0)→Rz (.ok (.ret y)) { s with heap:=h',toks:=t' })→codeAny (model g.prog g.w) A (.call (.ref (g.fa f)) ⟨xs,[]⟩) Rz s
noncomputable def FunT(g:G)(h0:Heap)(n la:Nat)(f:Nat)(ir:List Own→Option (Own×Own)):Prop:=
 ∀ (args:List Own) (r:Own×Own),ir args=some r→∀ (W:Wd) (s:Shared) (xs:List Value) (A:Around) (Q:Value→Shared→Prop) (Ex:Value→Shared→Prop),
  Room A n→WF h0 W s.heap→xs.length=args.length→St g W s.heap (fun i=>xs[i]?) args→(∀ W' h' t' y,WF h0 W' h'→Step 0 (stX la) W s.heap W' h'→RepO g W' h' (fun p=>.tmp 0 p) r.1 y→
   (r.2=.v .undef∨∃ x0,xs[0]?=some x0∧RepO g W' h' (fun p=>.slot 0 p) r.2 x0)→Q y { s with heap:=h',toks:=t' })→wpAny (model g.prog g.w) A (call (.ref (g.fa f)) xs) Q Ex s
theorem FunC.t{f:Nat}{ir:List Own→Option (Own×Own)}(x:FunC g h0 n la f ir):FunT g h0 n la f ir:=
 fun args r e W s xs A Q Ex Rm w hl st q=>wpAny_call (x args r e W s xs A _ Rm.f w hl st fun W' h' t' y w' S r1 r2=>q W' h' t' y w' S r1 r2)
theorem hide_wf(w:WF h0 W h)(ri:Option Nat):WF h0 (fun a=>bD ri (W a)) h:=w.map rfl rfl
theorem hide_cls(ri:Option Nat)(r:Role):r=.frz∨bD ri r=.fgn∨∃ i p,ri=some i∧r=.slot i p:=by
 cases r with
 | frz=>exact .inl rfl
 | slot j p=>
  by_cases h:ri=some j
  ·exact .inr (.inr ⟨j,p,h,rfl⟩)
  ·exact .inr (.inl (if_neg h))
 | _=>exact .inr (.inl rfl)
theorem mr_fgn{ri:Option Nat}{r:Role}(h:bD ri r=.fgn):bN ri k r .fgn=r:=by
 cases r with
 | slot j p=>
  by_cases hj:ri=some j
  ·exact absurd ((if_pos hj).symm.trans h) nofun
  ·exact if_neg hj
 | _=>rfl
theorem mr_slot{ri:Option Nat}{i p:Nat}{r:Role}(h:ri=some i):bN ri k (.slot i p) r=backF ri k r:=if_pos h
section
variable {ri:Option Nat} {la:Nat} (hla:∀ i,ri=some i→1≤la) (w1:WF h0 W1 h1) (w2:WF h0 W2 h2) (S:Step 0 (stX la) (fun a=>bD ri (W1 a)) h1 W2 h2)
include S
theorem mr_keep{a:Addr}{o:Obj}(ho:h1.get? a=some o)(hn:∀ i p,ri=some i→W1 a≠.slot i p):bN ri k (W1 a) (W2 a)=W1 a∧h2.get? a=some o:=
 (hide_cls ri (W1 a)).elim (fun e=>⟨by rw[e];rfl,(S.stay a o (congrArg (bD ri) e) ho).2⟩) fun z=>z.elim (fun e=>by rw[(S.fgn e ho).1];exact⟨mr_fgn e,(S.fgn e ho).2⟩) fun z=>exE z fun i z=>exE z fun p z=>absurd z.2 (hn i p z.1)
include w1
theorem mr_back{a:Addr}(ha:W2 a≠.fgn):bN ri k (W1 a) (W2 a)=backF ri k (W2 a)∨(W1 a=.frz∧W2 a=.frz):=by
 by_cases e:W1 a=.fgn
 ·rw[e];exact .inl rfl
 refine exE (w1.live a e) fun o ho=>(hide_cls ri (W1 a)).elim (fun e=>.inr ⟨e,(S.stay a o (congrArg (bD ri) e) ho).1⟩) fun z=>z.elim (fun e=>absurd (S.fgn e ho).1 ha) fun z=>exE z fun i z=>exE z fun p z=>?_
 rw[z.2];exact .inl (mr_slot z.1)
include hla w2
omit w1 w2 in
theorem mr_step{a:Addr}{o:Obj}(ho:h1.get? a=some o)(hk:kept k noX W1 a):Kp (W1 a) (bN ri k (W1 a) (W2 a))∧h2.get? a=some o:=by
 by_cases hs:∀ i p,ri=some i→W1 a≠.slot i p
 ·have q:=mr_keep (k:=k) S ho hs;exact⟨.inl q.1,q.2⟩
 ·obtain ⟨i,p,e1,e2⟩:∃ i p,ri=some i∧W1 a=.slot i p:=Classical.byContradiction fun hc=>hs fun i p h1 h2=>hc ⟨i,p,h1,h2⟩
  unfold kept at hk
  rw[e2] at hk
  have hh:bD ri (W1 a)=.slot 0 p:=by rw[e2];exact if_pos e1
  have q:=S a o ho (by unfold kept;dsimp only;rw[hh];exact⟨hk.1,fun z=>Nat.not_le.mpr (hla i e1) z⟩)
  refine⟨?_,q.2⟩
  dsimp only at q
  rw[hh] at q
  rw[e2,mr_slot e1]
  exact q.1.elim (fun q=>by rw[q,e1];exact .inl rfl) fun q=>by rw[q.2];exact .inr ⟨⟨i,p,rfl⟩,rfl⟩
theorem merge_wf:WF h0 (fun a=>bN ri k (W1 a) (W2 a)) h2:=⟨fun a o ho=>⟨congrArg (fun r=>bN ri k r (W2 a)) (w1.base a o ho).1,(w2.base a o ho).2⟩,fun a ha=>by
 by_cases e:W2 a=.fgn
 ·rw[e] at ha
  have e1:W1 a≠.fgn:=fun z=>ha (by rw[z];rfl)
  refine exE (w1.live a e1) fun o ho=>⟨o,(mr_keep (k:=k) S ho fun i p h1 h2=>ha ?_).2⟩
  rw[h2,mr_slot h1];rfl
 ·exact w2.live a e⟩
theorem merge_ok:
  WF h0 (fun a=>bN ri k (W1 a) (W2 a)) h2∧(∀ a o,h1.get? a=some o→(∀ i p,ri=some i→W1 a≠.slot i p)→bN ri k (W1 a) (W2 a)=W1 a∧h2.get? a=some o)∧
  Step k noX W1 h1 (fun a=>bN ri k (W1 a) (W2 a)) h2∧cy W2 h2 (fun a=>bN ri k (W1 a) (W2 a)) h2∧
  (∀ a p,W2 a=.tmp 0 p→bN ri k (W1 a) (W2 a)=.tmp k p)∧(∀ i,ri=some i→∀ a p,W2 a=.slot 0 p→bN ri k (W1 a) (W2 a)=.slot i p):=
 have M:∀ a r,W2 a=r→r≠.fgn→r≠.frz→bN ri k (W1 a) (W2 a)=backF ri k r:=fun a r e n1 n2=>(mr_back (k:=k) w1 S (a:=a) (e▸n1)).elim (fun m=>m.trans (congrArg _ e)) fun m=>absurd (e.symm.trans m.2) n2
 ⟨merge_wf hla w1 w2 S,fun a o ho hn=>mr_keep S ho hn,fun a o ho hk=>mr_step hla S ho hk,
  fun a o e ho=>⟨(mr_back (k:=k) w1 S (a:=a) (e▸nofun)).elim (fun m=>m.trans (by rw[e];rfl)) fun m=>by show bN ri k (W1 a) (W2 a)=_;rw[m.1];rfl,ho⟩,
  fun a p e=>M a _ e nofun nofun,fun i hi a p e=>(M a _ e nofun nofun).trans (by rw[hi];rfl)⟩
end
theorem frzs_at{r:Nat→Role}{vs:List V}{xs:List Value}(rx:Reps g W h vs xs){j:Nat}{o:Own}(e:(vs.map Own.v)[j]?=some o):∃ x,xs[j]?=some x∧RepO g W h r o x:=by
 rw[List.getElem?_map] at e
 obtain ⟨v,e1,rfl⟩:=Option.map_eq_some_iff.mp e
 exact exE (rx.get e1) fun x z=>⟨x,z.1,.v z.2⟩
theorem St.frzs{vs:List V}{xs:List Value}(r:Reps g W h vs xs):St g W h (fun i=>xs[i]?) (vs.map .v):=fun i o e=>.inr (frzs_at r e)
theorem St.recv{ow:Own}{x0:Value}{vs:List V}{xs:List Value}(r0:RepO g W h (fun p=>.slot 0 p) ow x0)(r:Reps g W h vs xs):St g W h (fun i=>(x0::xs)[i]?) (ow::vs.map .v):=fun i o e=>by
 cases i with
 | zero=>exact .inr ⟨x0,rfl,Option.some.inj e▸r0⟩
 | succ i=>exact .inr (frzs_at r e)
theorem call_plain{f:Nat}{vs:List V}{xs:List Value}{r:Own×Own}{s:Shared}{A:Around}{Q:Value→Shared→Prop}{Ex:Value→Shared→Prop}(F:FunT g h0 n la f (Φ f))(Rm:Room A n)(O:Ok g h0 c env ρ W s.heap fr)(e:Φ f (vs.map .v)=some r)(rx:Reps g W s.heap vs xs)
  (q:∀ W' h' t' y,Ok g h0 c env ρ W' h' fr→Step k noX W s.heap W' h'→RepO g W' h' (fun p=>.tmp k p) r.1 y→Q y { s with heap:=h',toks:=t' }):wpAny (model g.prog g.w) A (call (.ref (g.fa f)) xs) Q Ex s:=by
 have hs:cy W s.heap (fun a=>bD none (W a)) s.heap:=fun a o e ho=>⟨by simp only[e,bD],ho⟩
 refine F (vs.map .v) r e (fun a=>bD none (W a)) s xs A Q Ex Rm (hide_wf O.wf none) (by rw[rx.length];simp) (St.frzs (rx.stay hs)) fun W2 h2 t2 y w2 S2 r2 _=>?_
 have M:=merge_ok (k:=k) (ri:=none) (fun i z=>nomatch z) O.wf w2 S2
 have Gr:Grow W s.heap (fun a=>bN none k (W a) (W2 a)) h2:=fun a o ho=>M.2.1 a o ho fun i p z=>nomatch z
 exact q _ h2 t2 y (O.grow Gr M.1) M.2.2.1 (r2.conv M.2.2.2.1 fun a o p e ho=>⟨M.2.2.2.2.1 a p e,ho⟩)
theorem call_meth{f i:Nat}{ow:Own}{vs:List V}{xs:List Value}{x0:Value}{r:Own×Own}{s:Shared}{A:Around}{Q:Value→Shared→Prop}{Ex:Value→Shared→Prop}(F:FunT g h0 n la f (Φ f))(hla:1≤la)(Rm:Room A n)(O:Ok g h0 c env ρ W s.heap fr)(e:Φ f (ow::vs.map .v)=some r)
  (ei:fr[i]?=some ow) (e0:ρ i=some x0) (hnu:ow≠.v .undef) (rx:Reps g W s.heap vs xs)
  (q:∀ W' h' t' y,Ok g h0 c env ρ W' h' (fr.set i r.2)→Step k noX W s.heap W' h'→RepO g W' h' (fun p=>.tmp k p) r.1 y→Q y { s with heap:=h',toks:=t' }):wpAny (model g.prog g.w) A (call (.ref (g.fa f)) (x0::xs)) Q Ex s:=by
 have hs:cy W s.heap (fun a=>bD (some i) (W a)) s.heap:=fun a o e ho=>⟨congrArg (bD (some i)) e,ho⟩
 have r0:RepO g (fun a=>bD (some i) (W a)) s.heap (fun p=>.slot 0 p) ow x0:=O.heldO ei hnu fun y hy ry=>Option.some.inj (hy.symm.trans e0)▸ry.conv (r':=fun p=>.slot 0 p) hs fun a o p e ho=>⟨(congrArg (bD (some i)) e).trans (show bD (some i) (.slot i p)=.slot 0 p from if_pos rfl),ho⟩
 refine F (ow::vs.map .v) r e (fun a=>bD (some i) (W a)) s (x0::xs) A Q Ex Rm (hide_wf O.wf _) (congrArg Nat.succ (rx.length.trans (List.length_map ..).symm)) (St.recv r0 (rx.stay hs)) fun W2 h2 t2 y w2 S2 r2 r3=>?_
 have M:=merge_ok (k:=k) (ri:=some i) (fun _ _=>hla) O.wf w2 S2
 refine q _ h2 t2 y ⟨M.1,O.env.step (k:=k) M.2.2.1,fun j o ej=>set_at ej (fun hj ho=>?_) fun hj ej=>?_⟩ M.2.2.1 (r2.conv M.2.2.2.1 fun a o p e ho=>⟨M.2.2.2.2.1 a p e,ho⟩)
 ·rw[hj,← ho]
  exact r3.imp id fun z=>exE z fun z p=>⟨z,e0.trans p.1,p.2.conv M.2.2.2.1 fun a o p e ho=>⟨M.2.2.2.2.2 i rfl a p e,ho⟩⟩
 ·exact(O.st j o ej).imp id fun z=>exE z fun z p=>⟨z,p.1,p.2.stay fun a ob ha ho=>M.2.1 a ob ho fun i' p e1 e2=>by
   rw[e2] at ha
   exact ha.elim nofun fun ha=>exE ha fun p' ha=>hj ((Option.some.inj e1).trans (Role.slot.inj ha).1)⟩
end
structure FnOK (g:G) (h0:Heap) (f:Nat) (fn:Fn) (fd:FuncData) (o:Obj) (body:List Stmt) (nm gl cel:List Str):Prop where
 at_:h0.get? (g.fa f)=some o
 data:o.data=.func fd
 co:fd.scope.isCoroutine=false
 gen:fd.scope.isGenerator=false
 body:fd.body=.stmts body
 code:h0.CodeRec fd.code fd.qualname
 glob:fd.globals=mainGlobals
 bi:fd.builtins=builtinsNs
 clo:fd.closure=[]
 kind:fd.scope.kind=.function
 bind:∀ s:Shared,(∀ a o,h0.get? a=some o→s.heap.get? a=some o)→∀ vs:List Value,vs.length=fn.np→BindsTo s fd ⟨vs,[]⟩ ((nm.take fn.np).zip vs)
 np:fn.np≤nm.length
 nodup:nm.Nodup
 vars:∀ x∈nm,fd.scope.names.lookup x=some .local∨fd.scope.names.lookup x=some .cell
 globs:∀ x∈gl,fd.scope.names.lookup x=some .globalImplicit
 cel:∀ x∈cel,fd.scope.names.lookup x=some .cell
noncomputable def ctxOf(nm gl cel:List Str):Ctx:=⟨nm.zipIdx,gl,nm,cel⟩
theorem bindL_out{kindOf:Str→Option NameKind}{x:Str}{ns:List Str}:∀ {xs:List Value} {m:Str→Option Value},x∉ns→bindL kindOf (ns.zip xs) m x=m x:=by
 induction ns with
 | nil=>intro xs m _;rfl
 | cons n ns ih=>
  intro xs m h
  cases xs with
  | nil=>rfl
  | cons v xs=>
   refine(ih fun z=>h (List.mem_cons_of_mem _ z)).trans ?_
   by_cases c:kindOf n=some .local
   ·rw[if_pos c];exact if_neg fun z:x=n=>h (z▸List.mem_cons_self ..)
   ·rw[if_neg c]
theorem bindL_in{kindOf:Str→Option NameKind}{x:Str}(hx:kindOf x=some .local){ns:List Str}:∀ {xs:List Value} {m:Str→Option Value} {j:Nat},ns.Nodup→ns.length=xs.length→ns[j]?=some x→bindL kindOf (ns.zip xs) m x=xs[j]?:=by
 induction ns with
 | nil=>intro xs m j _ _ e;cases e
 | cons n ns ih=>
  intro xs m j nd hl e
  cases xs with
  | nil=>cases hl
  | cons v xs=>
   cases j with
   | zero=>
    cases e
    refine(bindL_out (List.nodup_cons.mp nd).1).trans ?_
    rw[if_pos hx];exact if_pos rfl
   | succ j=>exact ih (List.nodup_cons.mp nd).2 (Nat.succ.inj hl) e
theorem bindC_out{kindOf:Str→Option NameKind}{x:Str}{ns:List Str}:∀ {xs:List Value} {m:Str→Option Value},x∉ns→bindC kindOf (ns.zip xs) m x=m x:=by
 induction ns with
 | nil=>intro xs m _;rfl
 | cons n ns ih=>
  intro xs m h
  cases xs with
  | nil=>rfl
  | cons v xs=>
   refine(ih fun z=>h (List.mem_cons_of_mem _ z)).trans ?_
   by_cases c:kindOf n=some .local
   ·rw[if_pos c]
   ·rw[if_neg c];exact if_neg fun z:x=n=>h (z▸List.mem_cons_self ..)
theorem bindC_in{kindOf:Str→Option NameKind}{x:Str}(hx:kindOf x≠some .local){ns:List Str}:∀ {xs:List Value} {m:Str→Option Value} {j:Nat},ns.Nodup→ns.length=xs.length→ns[j]?=some x→bindC kindOf (ns.zip xs) m x=xs[j]?:=by
 induction ns with
 | nil=>intro xs m j _ _ e;cases e
 | cons n ns ih=>
  intro xs m j nd hl e
  cases xs with
  | nil=>cases hl
  | cons v xs=>
   cases j with
   | zero=>
    cases e
    refine(bindC_out (List.nodup_cons.mp nd).1).trans ?_
    rw[if_neg hx];exact if_pos rfl
   | succ j=>exact ih (List.nodup_cons.mp nd).2 (Nat.succ.inj hl) e
theorem lookup_here{x:Str}{a:Addr}{acc:List (Str×Addr)}:(((x,a)::acc).lookup x).isSome=true:=by rw[List.lookup_cons,beq_self_eq_true];rfl
theorem lookup_more{x y:Str}{a:Addr}{acc:List (Str×Addr)}(h:(acc.lookup x).isSome=true):(((y,a)::acc).lookup x).isSome=true:=by
 rw[List.lookup_cons]
 cases x==y with
 | true=>rfl
 | false=>exact h
theorem cells_some{x:Str}{l:List (Str×NameKind)}:∀ {n:Nat} {acc:List (Str×Addr)},(x,NameKind.cell)∈l∨(acc.lookup x).isSome=true→((cellsFrom n l acc).lookup x).isSome=true:=by
 induction l with
 | nil=>intro n acc h;exact h.elim nofun id
 | cons p l ih=>
  intro n acc h
  unfold cellsFrom
  by_cases hk:(p.2==NameKind.cell)=true
  ·rw[if_pos hk]
   exact ih (h.elim (fun h=>(List.mem_cons.mp h).elim (fun e=>by rw[← e];exact .inr lookup_here) .inl) fun h=>.inr (lookup_more h))
  ·rw[if_neg hk]
   exact ih (h.imp (fun h=>(List.mem_cons.mp h).elim (fun e=>absurd (by rw[← e];rfl) hk) id) id)
theorem bA{α β:Type} [BEq α] [LawfulBEq α] {l:List (α×β)} {a:α} {b:β}:l.lookup a=some b→(a,b)∈l:=by
 induction l with
 | nil=>intro e;cases e
 | cons p l ih=>
  intro e
  rw[List.lookup_cons] at e
  by_cases h:a=p.1
  ·rw[h,beq_self_eq_true] at e
   rw[h,← Option.some.inj e];exact List.mem_cons_self ..
  ·rw[beq_false_of_ne h] at e;exact List.mem_cons_of_mem _ (ih e)
theorem pair_inj{l:List (Str×Addr)}(h:l.Pairwise fun x y=>x.2≠y.2){x y:Str}{a:Addr}(hx:(x,a)∈l)(hy:(y,a)∈l):x=y:=by
 induction l with
 | nil=>cases hx
 | cons p l ih=>
  rw[List.pairwise_cons] at h
  rcases List.mem_cons.mp hx with e | hx
  ·rcases List.mem_cons.mp hy with e' | hy
   ·exact congrArg Prod.fst (e.trans e'.symm)
   ·exact absurd (by rw[← e]) (h.1 _ hy)
  ·rcases List.mem_cons.mp hy with e' | hy
   ·exact absurd (by rw[← e']) (h.1 _ hx)
   ·exact ih h.2 hx hy
theorem d4{α:Type}{l:List α}{x:α}{i:Nat}(h:(x,i)∈l.zipIdx):l[i]?=some x:=by
 have:=List.mem_zipIdx_iff_getElem?.mp h
 simpa using this
theorem nodup_get{l:List Str}(h:l.Nodup){i j:Nat}{x:Str}(hi:l[i]?=some x)(hj:l[j]?=some x):i=j:=by
 obtain ⟨h1,e1⟩:=List.getElem?_eq_some_iff.mp hi
 obtain ⟨h2,e2⟩:=List.getElem?_eq_some_iff.mp hj
 exact(List.getElem_inj h).mp (e1.trans e2.symm)
section
variable {g:G} {h0:Heap} {N:aR} {n k:Nat}
noncomputable def Own1(env:Env)(a:Addr):Prop:=a=env.locals∨∃ x,env.cells.lookup x=some a
open Classical in
noncomputable def envW(env:Env)(W:Wd):Wd:=fun a=>if Own1 env a then .env else W a
theorem envW_e{env:Env}{W:Wd}{a:Addr}(h:Own1 env a):envW env W a=.env:=if_pos h
theorem envW_n{env:Env}{W:Wd}{a:Addr}(h:¬ Own1 env a):envW env W a=W a:=if_neg h
section
variable {f:Nat} {fn:Fn} {fd:FuncData} {o:Obj} {body:List Stmt} {nm gl cel:List Str} {W:Wd} {s s':Shared} {env:Env} {xs:List Value}
theorem param_at(F:FnOK g h0 f fn fd o body nm gl cel)(hlen:xs.length=fn.np){x:Str}{i:Nat}(h:nm[i]?=some x){b:List Str→Option Value}(h1:∀ j:Nat,(nm.take fn.np)[j]?=some x→b (nm.take fn.np)=xs[j]?)(h2:x∉nm.take fn.np→b (nm.take fn.np)=none):b (nm.take fn.np)=xs[i]?:=by
 by_cases hi:i<fn.np
 ·exact h1 i ((List.getElem?_take_of_lt hi).trans h)
 ·rw[h2 fun hm=>?_,List.getElem?_eq_none (hlen▸Nat.not_lt.mp hi)]
  refine exE (List.getElem?_of_mem hm) fun j hj=>?_
  have hj':j<fn.np:=Nat.lt_of_lt_of_le (List.getElem?_eq_some_iff.mp hj).1 (List.length_take_le ..)
  rw[List.getElem?_take_of_lt hj'] at hj
  exact hi (nodup_get F.nodup h hj▸hj')
theorem env_new(F:FnOK g h0 f fn fd o body nm gl cel)(w:WF h0 W s.heap)(hlen:xs.length=fn.np){m:Nat}(hsc:env.scope=fd.scope)(hcl:env.cells=cellsFrom m fd.scope.names [])(hgl:env.globals=fd.globals)(hbi:env.builtins=fd.builtins)
  (ic:InCallC s env.locals (bindL env.kindOf ((nm.take fn.np).zip xs) fun _=>none) env.cells (bindC env.kindOf ((nm.take fn.np).zip xs) fun _=>none) s'):
  Grow W s.heap (envW env W) s'.heap∧WF h0 (envW env W) s'.heap∧EnvOK (envW env W) s'.heap env (ctxOf nm gl cel) (fun i=>xs[i]?):=by
 have hkd:∀ x,env.kindOf x=fd.scope.names.lookup x:=fun x=>by rw[← hsc];rfl
 have nt:(nm.take fn.np).Nodup:=F.nodup.sublist (List.take_sublist ..)
 have lt:(nm.take fn.np).length=xs.length:=by rw[List.length_take,hlen];exact Nat.min_eq_left F.np
 have above:∀ x a,env.cells.lookup x=some a→env.locals<a:=fun x a h=>ic.above x a (bA h)
 have Enone:∀ a,Own1 env a→s.heap.get? a=none:=fun a h=>h.elim (fun e=>e▸Heap.get?_none_of_le ic.toInCall.fresh) fun h=>exE h fun x hx=>Heap.get?_none_of_le (Nat.le_trans ic.toInCall.fresh (Nat.le_of_lt (above x a hx)))
 have Gr:Grow W s.heap (envW env W) s'.heap:=fun a ob hob=>⟨envW_n fun h=>(nomatch (Enone a h).symm.trans hob),ic.toInCall.keep a ob hob⟩
 refine⟨Gr,Gr.wf w fun a ha=>?_,⟨hsc▸F.kind,hgl.trans F.glob,hbi.trans F.bi,envW_e (.inl rfl),⟨_,ic.toInCall.ns,fun x i hxi hk=>?_⟩,fun x i hxi=>?_,fun x hx=>(hkd x).trans (F.globs x hx),fun x i y j h1 h2=>?_,fun x hx=>by rw[hkd];exact F.vars x hx,
  fun x y a h1 h2=>pair_inj ic.apart (bA h1) (bA h2),fun x hx=>Nat.lt_irrefl _ (above x _ hx),fun x hx=>.inl ((hkd x).trans (F.cel x hx))⟩⟩
 ·by_cases h:Own1 env a
  ·exact .inr (h.elim (fun e=>exE ic.toInCall.ns fun ob z=>exE z fun _ z=>exE z fun _ z=>⟨ob,e▸z.1⟩) fun h=>exE h fun x hx=>exE (ic.cell x a hx) fun ob z=>⟨ob,z.1⟩)
  ·rw[envW_n h] at ha;exact .inl (w.live a ha)
 ·exact param_at F hlen (d4 hxi) (b:=fun l=>bindL env.kindOf (l.zip xs) (fun _=>none) x) (fun j hj=>bindL_in hk nt lt hj) bindL_out
 ·refine(F.vars x (List.mem_of_getElem? (d4 hxi))).elim (fun h=>.inl ((hkd x).trans h)) fun h=>.inr ⟨.inl ((hkd x).trans h),?_⟩
  refine exE (Option.isSome_iff_exists.mp (hcl▸cells_some (.inl (bA h)):(env.cells.lookup x).isSome=true)) fun a ha=>⟨a,ha,envW_e (.inr ⟨x,ha⟩),?_⟩
  have hc:=ic.cell x a ha
  rw[param_at F hlen (d4 hxi) (b:=fun l=>bindC env.kindOf (l.zip xs) (fun _=>none) x) (fun j hj=>bindC_in (by rw[hkd,h];nofun) nt lt hj) bindC_out] at hc
  exact hc
 ·have g1:=d4 h1
  have g2:=d4 h2
  exact⟨fun e=>nodup_get F.nodup g1 (e▸g2),fun e=>Option.some.inj (g1.symm.trans (e▸g2))⟩
end
theorem St.more{W:Wd}{h:Heap}{ρ:Nat→Option Value}{fr:Fr}{m:Nat}(x:St g W h ρ fr):St g W h ρ (fr++List.replicate m (.v .undef)):=fun i o e=>by
 by_cases hi:i<fr.length
 ·rw[List.getElem?_append_left hi] at e;exact x i o e
 ·rw[List.getElem?_append_right (Nat.not_lt.mp hi)] at e
  exact .inl (List.mem_replicate.mp (List.mem_of_getElem? e)).2
theorem self_ok{W:Wd}{h:Heap}{ρ:Nat→Option Value}{fr:Fr}{lo:Nat}{x0:Option Value}(st:St g W h ρ fr)(hr:∀ i,i<lo→ρ i=if i=0 then x0 else ρ i):
  (if lo==0 then (.v .undef:Own) else fr.getD 0 (.v .undef))=.v .undef∨∃ x,x0=some x∧RepO g W h (fun p=>.slot 0 p) (if lo==0 then (.v .undef:Own) else fr.getD 0 (.v .undef)) x:=by
 cases lo with
 | zero=>exact .inl rfl
 | succ lo=>
  show fr.getD 0 (.v .undef)=.v .undef∨∃ x,x0=some x∧RepO g W h (fun p=>.slot 0 p) (fr.getD 0 (.v .undef)) x
  have e:=hr 0 (Nat.succ_pos _)
  rw[if_pos rfl] at e
  rw[List.getD_eq_getElem?_getD,← e]
  cases h0:fr[0]? with
  | none=>exact .inl rfl
  | some ow=>exact st 0 ow h0
theorem run_end{g:G}{W:Wd}{h:Heap}{k:Nat}{lo:Nat}{fl:Fl}{fr':Fr}{r:Own×Own}{fl2:Flow}(e:(match fl with
   | .ret o=>some (o,if lo==0 then .v .undef else fr'.getD 0 (.v .undef))
   | .next=>some (.v .none,if lo==0 then .v .undef else fr'.getD 0 (.v .undef))
   | _=>none:Option (Own×Own))=some r) (r2:FlR g W h k fl fl2) {G:Prop} (K:∀ y,(fl2=.ret y∨fl2=.next∧y=.none)→RepO g W h (fun p=>.tmp k p) r.1 y→r.2=(if lo==0 then .v .undef else fr'.getD 0 (.v .undef))→G):G:=by
 cases r2 with
 | next=>cases e;exact K .none (.inr ⟨rfl,rfl⟩) (.v .none) rfl
 | ret rr=>cases e;exact K _ (.inl rfl) rr rfl
 | cont=>cases e
 | brk=>cases e
theorem RoomF.body2{A:Around}{n:Nat}(x:RoomF A (n+1))(env:Env):Room (A.deeper env) n:=⟨x.handled,by have:=x.depth;show A.depth+1+6*n+3≤900;lia,by have:=x.units;show A.units+3+20*n+10≤9000;lia⟩
theorem fun_ok{f:Nat}{fn:Fn}{fd:FuncData}{o:Obj}{body:List Stmt}{nm gl cel:List Str}{la Wf D:Nat}{Φ:Nat→List Own→Option (Own×Own)}(F:FnOK g h0 f fn fd o body nm gl cel)(hn:h0.NoLimit)
  (hb:ExT g h0 n fn.lo la (ctxOf nm gl cel) (fun env=>execs body env) (exs (sem Φ fn.lo la Wf D) fn.body)):FunC g h0 (n+1) la f (runFn Φ Wf D la fn):=by
 intro args r e W s xs A Rz Rm w hl st q
 refine ifE e fun hz e=>bE2 e fun fl fr' e1 e2=>?_
 have hlen:xs.length=fn.np:=hl.trans (eq_of_beq hz)
 have ho:s.heap.get? (g.fa f)=some o:=(w.base _ _ F.at_).2
 have hcode:s.heap.CodeRec fd.code fd.qualname:=exE F.code fun c z=>exE z fun o z=>exE z fun vs z=>exE z fun t z=>⟨c,o,vs,t,z.1,(w.base _ _ z.2.1).2,z.2.2.1,z.2.2.2⟩
 have hd:A.depth<recursionLimit:=Nat.lt_of_le_of_lt (Nat.le_trans (Nat.le_add_right ..) Rm.depth) (by decide)
 refine codeAny_call_function hd ho F.data F.co F.gen F.body hcode ?_
 refine F.bind s (fun a o ho=>(w.base a o ho).2) xs hlen _ _ _ _ ?_
 rw[F.clo]
 refine wpAny_newFunctionEnv_cells F.kind (fun p hp=>(F.vars _ (List.mem_of_mem_take (List.of_mem_zip hp).1)).imp id fun h=>⟨h,cells_some (.inl (bA h))⟩) fun env he s' ic=>?_
 refine exE ic.toInCall.same fun hh z=>exE z fun tk hs'=>?_
 have E:=env_new F w hlen (by rw[he];rfl) (by rw[he];rfl) (by rw[he];rfl) (by rw[he];rfl) ic
 refine⟨hn.keeps fun a ob hob=>ic.toInCall.keep a ob (w.base a ob hob).2,codeAny_func ?_⟩
 refine hb _ fr' fl e1 0 (envW env W) s' _ env _ _ _ (Rm.body2 env) ⟨E.2.1,E.2.2,(st.grow E.1).more⟩ fun W2 h2 t2 ρ2 fl2 O2 S2 hr r2=>?_
 refine run_end e2 r2 fun y hy ry hr2=>?_
 have fin:=q W2 h2 t2 y O2.wf (E.1.step.trans S2) ry (hr2▸self_ok O2.st fun i hi=>by
  by_cases h:i=0
  ·rw[if_pos h,hr i hi,h]
  ·rw[if_neg h])
 rw[hs']
 refine hy.elim (fun h=>?_) fun h=>?_
 ·rw[h];exact fin
 ·rw[h.1];rw[h.2] at fin;exact fin
end
section
variable {g:G} {h0:Heap} {N:aR} {n k:Nat} {c:Ctx} {R:Rec} {lo la:Nat} {Φ:Nat→List Own→Option (Own×Own)} {Wf:Nat}
structure Funs (g:G) (h0:Heap) (n:Nat) (Φ:Nat→List Own→Option (Own×Own)):Prop where
 fn:∀ f args r,Φ f args=some r→∃ o fd,h0.get? (g.fa f)=some o∧o.data=.func fd
 ok:∀ f,FunC g h0 n (if f<2 then 0 else 1) f (Φ f)
theorem eV{pos:Pos}{f:Value}:∀ {es:List Expr} {Es:List E},es.length=Es.length→(∀ p∈es.zip Es,az p.1=true∧EvT g h0 n c (fun env=>eval p.1 env) (R.ev p.2))→
  ∀ (fr fr':Fr) (vs:List V),evs R Es fr=some (vs,fr')→∀ (k:Nat) (W:Wd) (s:Shared) (ρ:Nat→Option Value) (env:Env) (A:Around) (Q:Args→Shared→Prop) (Ex:Value→Shared→Prop),
  Room A n→Ok g h0 c env ρ W s.heap fr→(∀ W' h' t' xs,Ok g h0 c env ρ W' h' fr'→Step k noX W s.heap W' h'→Reps g W' h' vs xs→Q ⟨xs,[]⟩ { s with heap:=h',toks:=t' })→wpAny (model g.prog g.w) A (evalArgs f true (backTo pos (starEach es env)) []) Q Ex s:=by
 intro es Es hl hp fr fr' vs e k W s ρ env A Q Ex Rm O q
 have x:=evs_ok (pos:=pos) (n:=n) (c:=c) hl hp fr fr' vs e k W s ρ env A (fun vs s'=>Q ⟨vs,[]⟩ s') Ex Rm O q
 cases es with
 | nil=>
  cases List.length_eq_zero_iff.mp hl.symm
  exact PyProof.Rows.evalArgs_nil3 (sp (P:=fun vs fr'=>(∀ W' h' t' xs,Ok g h0 c env ρ W' h' fr'→Step k noX W s.heap W' h'→Reps g W' h' vs xs→Q ⟨xs,[]⟩ { s with heap:=h',toks:=t' })→Q ⟨[],[]⟩ s) e (fun q=>q W s.heap s.toks [] O .refl .nil) q)
 | cons y es=>
  cases Es with
  | nil=>cases hl
  | cons E Es=>
   have h1:=(hp (y,E) (List.mem_cons_self ..)).1
   dsimp only at x
   rw[bM h1] at x ⊢
   exact Calls.evalArgs_plain x
theorem call_with(FF:Funs g h0 n Φ){f:Nat}{es:List Expr}{Es:List E}{pos:Pos}(hl:es.length=Es.length)(hp:∀ p∈es.zip Es,az p.1=true∧EvT g h0 n c (fun env=>eval p.1 env) (R.ev p.2)){fr fr1:Fr}{vs:List V}{r:Own×Own}(e1:evs R Es fr=some (vs,fr1))(e2:Φ f (vs.map .v)=some r)
  {k:Nat} {W:Wd} {s:Shared} {ρ:Nat→Option Value} {env:Env} {A:Around} {Q:Value→Shared→Prop} {Ex:Value→Shared→Prop} (Rm:Room A n) (O:Ok g h0 c env ρ W s.heap fr) (q:After g h0 c env ρ k W s fr1 (fun W' h' x=>RepO g W' h' (fun p=>.tmp k p) r.1 x) Q):
  wpAny (model g.prog g.w) A (callWith pos (.ref (g.fa f)) [] (backTo pos (starEach es env)) []) Q Ex s:=
 exE (FF.fn f _ r e2) fun ob z=>exE z fun fd z=>Calls.callWith_function (o:=ob) (fd:=fd) (eV hl hp fr fr1 vs e1 k W s ρ env A _ Ex Rm O fun W1 h1 t1 xs O1 S1 r1=>⟨⟨(O1.wf.base _ _ z.1).2,z.2⟩,
  call_plain (s:={ s with heap:=h1,toks:=t1 }) (k:=k) (FF.ok f).t Rm O1 e2 r1 fun W2 h2 t2 y O2 S2 r2=>q W2 h2 t2 y O2 (S1.trans S2) r2⟩)
theorem ev_call(B:bV g h0 N)(FF:Funs g h0 n Φ){f:Nat}{x:Str}{es:List Expr}{Es:List E}{p pos:Pos}(hx:x∈c.globs)(hv:(x,.fn f)∈N.gt)(hd:(x==("__debug__":Str))=false)
  (hl:es.length=Es.length) (hp:∀ p∈es.zip Es,az p.1=true∧EvT g h0 n c (fun env=>eval p.1 env) (R.ev p.2)) (hns:∀ env,(backTo pos (starEach es env)).any (·.1)=false):
  EvT g h0 n c (fun env=>eval (.Call (.Name x p) es [] pos) env) (al R lo Φ (.call f Es)):=fun fr fr' o e=>
 bE2 e fun vs fr1 e1 e=>bE e fun r e2 e=>sp e fun k W s ρ env A Q Ex Rm O q=>exE (B.rep x _ hv) fun y z=>by
  refine wpAny_Call_NameR (Calls.Name_function_global O.env.kind (O.env.gl x hx) ?_ hd)
  unfold loadGlobal
  refine wpAny_bind (wpAny_nsGet (ok_glob B O) ?_)
  rw[z.1,z.2.fnE]
  exact wpAny_pure (call_with FF hl hp e1 e2 Rm O q)
theorem ev_callv(B:bV g h0 N)(FF:Funs g h0 n Φ){x:Str}{i:Nat}{es:List Expr}{Es:List E}{p pos:Pos}(hx:(x,i)∈c.vars)(ok:c8 x=true)
  (hl:es.length=Es.length) (hp:∀ p∈es.zip Es,az p.1=true∧EvT g h0 n c (fun env=>eval p.1 env) (R.ev p.2)):
  EvT g h0 n c (fun env=>eval (.Call (.Name x p) es [] pos) env) (al R lo Φ (.callv i Es)):=fun fr fr' o e=>
 bE e fun f hf e=>bE2 e fun vs fr1 e1 e=>bE e fun r e2 e=>bE hf fun o1 hi hf=>bE hf fun v h1 h2=>sp e fun k W s ρ env A Q Ex Rm O q=>
  O.heldO (vFn_ok h2▸oV_ok h1▸hi:fr[i]?=some (.v (.fn f))) nofun fun y hy ry=>wpAny_Call_NameR (bc O.env hx (aZ ok) (bj ok) hy (by rw[ry.vE.fnE];exact call_with FF hl hp e1 e2 Rm O q))
theorem AD.other{h:Heap}{d:Addr}{m:Str→Option Value}(x:AD h d m){y:Str}(hy:y∉attrNames):m y=none:=by
 obtain ⟨_,_,_,_,_,_,z⟩:=x;exact z y hy
theorem get_method(B:bV g h0 N){W:Wd}{s:Shared}{A:Around}{Q:Value×List Value→Shared→Prop}{Ex:Value→Shared→Prop}{pl:Sem Bool}(w:WF h0 W s.heap){cc f:Nat}{m:Str}(hm:(cc,m,f)∈N.ms)(hn:m∉attrNames){a d:Addr}{md:Str→Option Value}(ho:s.heap.get? a=some (eS (g.ca cc) d))(x:AD s.heap d md)
  (q:Q (.ref (g.fa f),[.ref a]) s):wpAny (model g.prog g.w) A (getMethod (.ref a) m pl) Q Ex s:=by
 obtain ⟨od,I,_,hl⟩:=inst_at ho x m
 have K:=B.cls cc
 obtain ⟨m1,m2⟩:=K.meth m f hm
 exact PySem.W.method_fn (kin_at B w) I K.hga K.hk m1 m2 (by unfold PySem.W.shadowIn;dsimp only;rw[hl,x.other hn];rfl) q
theorem instAt{i:Nat}{fr:Fr}{W:Wd}{h:Heap}{env:Env}{ρ:Nat→Option Value}(O:Ok g h0 c env ρ W h fr){u:Unit}(e:isInst i fr=some u):∃ a d md,ρ i=some (.ref a)∧h.get? a=some (eS (g.ca 0) d)∧AD h d md:=
 bE e fun o hi e=>orE e (fun e=>bE e fun p hp e=>ifE e fun hz _=>O.heldO (eO hp▸hi:fr[i]?=some (.inst p.1 p.2)) nofun fun y hy ry=>ry.instE fun a d m hx b1 b2 b3 b4 b5=>⟨a,d,m,hx▸hy,hz▸b3,b4⟩)
  fun e=>bE e fun v hv e=>bE e fun p hp e=>ifE e fun hz _=>O.heldO (vInst_ok hp▸oV_ok hv▸hi:fr[i]?=some (.v (.inst p.1 p.2))) nofun fun y hy ry=>ry.vE.instE fun a d m hx b1 b2 b3 b4 b5=>⟨a,d,m,hx▸hy,hz▸b3,b4⟩
theorem zip_left{α β:Type}{P:α→Prop}{l:List α}:∀ {m:List β},l.length=m.length→(∀ p∈l.zip m,P p.1)→∀ x∈l,P x:=by
 induction l with
 | nil=>intro m _ _ x hx;cases hx
 | cons a l ih=>
  intro m hl h x hx
  cases m with
  | nil=>cases hl
  | cons b m=>exact(List.mem_cons.mp hx).elim (fun e=>e▸h (a,b) (List.mem_cons_self ..)) fun hx=>ih (Nat.succ.inj hl) (fun p hp=>h p (List.mem_cons_of_mem _ hp)) x hx
theorem ev_meth(B:bV g h0 N)(FF:Funs g h0 n Φ){f i:Nat}{x m:Str}{es:List Expr}{Es:List E}{p apos pos:Pos}(hf:2≤f)(hx:(x,i)∈c.vars)(ok:c8 x=true)(hm:(0,m,f)∈N.ms)(hn:m∉attrNames)
  (hline:(apos.endLine==pos.line)=true) (hl:es.length=Es.length) (hlt:es.length<29) (hp:∀ p∈es.zip Es,az p.1=true∧EvT g h0 n c (fun env=>eval p.1 env) (R.ev p.2)):
  EvT g h0 n c (fun env=>eval (.Call (.Attribute (.Name x p) m apos) es [] pos) env) (al R lo Φ (.meth f i Es)):=fun fr fr' o e=>
 bE e fun _ e0 e=>bE2 e fun vs fr1 e1 e=>bE e fun ow e2 e=>bE e fun vo e3 e=>bE e fun r e4 e=>sp e fun k W s ρ env A Q Ex Rm O q=>exE (instAt O e0) fun a z=>exE z fun d z=>exE z fun md z=>by
  have hform:methodCallForm (es.length+([]:List Keyword).length) (backTo pos (starEach es env)) (backToKw pos (keywordEach [] env))=true:=by
   rw[plain_stars (zip_left hl fun p h=>(hp p h).1)]
   exact Bool.and_eq_true_iff.mpr ⟨Bool.and_eq_true_iff.mpr ⟨List.all_eq_true.mpr fun x hx=>exE (List.mem_map.mp hx) fun y hy=>hy.2▸rfl,rfl⟩,decide_eq_true (show es.length+0+0<30 from Nat.lt_succ_of_lt hlt)⟩
  have hpos:methodCallPos true (.Name x p) env apos pos=pure pos:=by unfold methodCallPos;simp [hline]
  show wpAny _ _ (eval (.Call (.Attribute (.Name x p) m apos) es [] pos) env) _ _ _
  rw[arm_eval_Call]
  refine wpAny_bind (m:=eval (.Name x p) env) (bc O.env hx (aZ ok) (bj ok) z.1 (wpAny_bind (wpAny_standAt ?_)))
  unfold methodCall
  rw[hform]
  refine wpAny_bind (wpAny_holding (show wpAny _ _ (getMethod (.ref a) m _) _ _ _ from get_method B O.wf hm hn z.2.1 z.2.2 ?_))
  refine wpAny_bind (wpAny_of_eq hpos ?_)
  have hF:=(FF.ok f).t
  rw[if_neg (Nat.not_lt.mpr hf)] at hF
  exact exE (FF.fn f _ r e4) fun ob y=>exE y fun fd y=>Calls.callWith_function (o:=ob) (fd:=fd) (eV hl hp fr fr1 vs e1 k W s ρ env A _ Ex Rm O fun W1 h1 t1 xs O1 S1 r1=>⟨⟨(O1.wf.base _ _ y.1).2,y.2⟩,
   call_meth (s:={ s with heap:=h1,toks:=t1 }) (k:=k) hF (Nat.le_refl _) Rm O1 e4 e2 z.1 (fun z=>by rw[z] at e3;cases e3) r1 fun W2 h2 t2 y O2 S2 r2=>q W2 h2 t2 y O2 (S1.trans S2) r2⟩)
end
theorem tc_weight(a:Args):(Code.builtin "type.__call__" a).weight≤3∧(Code.builtin "type.__call__" a).cUnits≤10:=by
 have h1:(Code.builtin "type.__call__" a).frames=0:=by kernel_rfl
 have h2:(Code.builtin "type.__call__" a).isCaller=false:=by kernel_rfl
 constructor
 ·unfold Code.weight
  rw[h1,h2]
  simp only[Bool.false_eq_true,if_false]
  split <;> split <;> lia
 ·unfold Code.cUnits
  dsimp only
  rw[h1];lia
noncomputable def bU:Nat→Str
 | 0=>"Code"
 | _=>"Unit"
section
variable {g:G} {h0:Heap} {N:aR} {n k:Nat} {c:Ctx} {R:Rec} {lo la:Nat} {Φ:Nat→List Own→Option (Own×Own)} {Wf:Nat}
theorem repoa_undef{W:Wd}{h:Heap}{r:Nat→Role}{m:Str→Option Value}:∀ (j k:Nat),Repoa g W h r m k (List.replicate j (.v .undef))
 | 0,k=>.nil
 | j+1,k=>.none (repoa_undef j (k+1))
noncomputable def newF:Role→Role
 | .slot 0 p=>.tmp 0 p
 | .frz=>.frz
 | _=>.fgn
theorem isNoneO_ok{o:Own}(h:isNoneO o=true):o=.v .none:=by
 cases o with
 | v x=>cases x <;> first | rfl | cases h
 | _=>cases h
noncomputable def newW(W:Wd)(m:Nat):Wd:=put (put (fun a=>bD none (W a)) m (.slot 0 2)) (m+1) (.slot 0 1)
noncomputable def newH(ca:Addr)(h:Heap):Heap:=(h.push PySem.W.emptyDict).push (PySem.W.instObj ca h.objs.size)
section
variable {W:Wd} {h:Heap} {ca:Addr}
theorem new_at1:(newH ca h).get? (h.objs.size+1)=some (PySem.W.instObj ca h.objs.size):=(Heap.size_push h PySem.W.emptyDict)▸Heap.get?_push_size _ rfl
theorem new_at0:(newH ca h).get? h.objs.size=some PySem.W.emptyDict:=Heap.get?_push_of_some _ (Heap.get?_push_size _ rfl)
theorem g8(a:Addr)(ob:Obj)(e:h.get? a=some ob):(newH ca h).get? a=some ob:=Heap.get?_push_of_some _ (Heap.get?_push_of_some _ e)
theorem newW_1:newW W h.objs.size (h.objs.size+1)=.slot 0 1:=bh
theorem newW_0:newW W h.objs.size h.objs.size=.slot 0 2:=(aU (Nat.ne_of_lt (Nat.lt_succ_self _))).trans bh
theorem newW_old{a:Addr}{ob:Obj}(e:h.get? a=some ob):newW W h.objs.size a=bD none (W a):=(aU (Nat.ne_of_lt (Nat.lt_succ_of_lt (Heap.lt_size e)))).trans (aU (Nat.ne_of_lt (Heap.lt_size e)))
theorem new_wf(w:WF h0 W h):WF h0 (newW W h.objs.size) (newH ca h):=⟨fun a ob ho=>have q:=w.base a ob ho;⟨(newW_old q.2).trans (congrArg (bD none) q.1),g8 a ob q.2⟩,fun a ha=>by
 by_cases z:a=h.objs.size+1
 ·exact⟨_,z▸new_at1⟩
 by_cases y:a=h.objs.size
 ·exact⟨_,y▸new_at0⟩
 have e:newW W h.objs.size a=bD none (W a):=(aU z).trans (aU y)
 exact exE (w.live a fun z=>ha (by rw[e,z];rfl)) fun o ho=>⟨o,g8 a o ho⟩⟩
theorem new_ad:AD (newH ca h) h.objs.size (fun _=>none):=⟨#[],0,new_at0,fun _ he=>by simp at he,fun _=>rfl,(Nat.zero_add _).symm▸(List.length_filter_le _ attrNames:_≤17),fun _ _=>rfl⟩
theorem new_inst(cc:Nat):RepO g (newW W h.objs.size) (newH (g.ca cc) h) (fun p=>.slot 0 p) (.inst cc (List.replicate 17 (.v .undef))) (.ref (h.objs.size+1)):=
 .inst newW_1 newW_0 new_at1 new_ad (repoa_undef 17 0)
theorem hide_two(r:Role):bD none r=.fgn∨bD none r=.frz:=by
 cases r with
 | frz=>exact .inr rfl
 | slot j p=>exact .inl (show (if none=some j then Role.slot 0 p else .fgn)=.fgn from if_neg nofun)
 | _=>exact .inl rfl
theorem new_step{W2:Wd}{h3:Heap}{X:Role→Addr→Prop}(S2:Step 0 X (newW W h.objs.size) (newH ca h) W2 h3):Step 0 (stX 1) (fun a=>bD none (W a)) h (fun a=>newF (W2 a)) h3:=fun a ob ho _=>by
 have q:=newW_old (W:=W) ho
 have k:=g8 (ca:=ca) a ob ho
 show Kp (bD none (W a)) (newF (W2 a))∧_
 rw[← q]
 refine(hide_two (W a)).elim (fun e=>?_) fun e=>?_
 ·have z:=S2.fgn (q.trans e) k
  exact⟨.inl (by rw[z.1,q,e];rfl),z.2⟩
 ·have z:=S2.stay a ob (q.trans e) k
  exact⟨.inl (by rw[z.1,q,e];rfl),z.2⟩
end
theorem ev_new(B:bV g h0 N)(FF:Funs g h0 n Φ){cc:Nat}{es:List Expr}{Es:List E}{p pos:Pos}(hcc:cc<2)(hx:bU cc∈c.globs)(hv:N.mg (bU cc)=some (.ref (g.ca cc)))(hk:PySem.W.keepIn N.K (.ref (g.ca cc))=true)(hd:(bU cc==("__debug__":Str))=false)
  (hl:es.length=Es.length) (hp:∀ p∈es.zip Es,az p.1=true∧EvT g h0 n c (fun env=>eval p.1 env) (R.ev p.2)) (hns:∀ env,(backTo pos (starEach es env)).any (·.1)=false):
  EvT g h0 n c (fun env=>eval (.Call (.Name (bU cc) p) es [] pos) env) (al R lo Φ (.new cc Es)):=fun fr fr' o e=>
 bE2 e fun vs fr1 e1 e=>bE e fun r e2 e=>ifE e fun er e=>sp e fun k W s ρ env A Q Ex Rm O q=>by
  refine wpAny_Call_NameR (Calls.Name_function_global O.env.kind (O.env.gl _ hx) ?_ hd)
  unfold loadGlobal
  refine wpAny_bind (wpAny_nsGet (ok_glob B O) ?_)
  rw[hv]
  refine wpAny_pure ?_
  refine PySem.W.callWith_of (by rw[hns];rfl) (PySem.W.keeps_K hk) (eV hl hp fr fr1 vs e1 k W s ρ env A _ Ex Rm O fun W1 h1 t1 xs O1 S1 r1=>⟨kin_at B O1.wf,?_⟩)
  have X:=kin_at B O1.wf
  have I:=B.init cc hcc
  refine wpAny_call ?_
  refine PySem.W.make_core (PySem.W.makes_of X (B.cls cc).makes) (PySem.W.looks_findIn X I.1) (fun self=>PySem.W.bind_fn X self I.2) (.inl rfl) ?_
  have hF:=FF.ok cc
  rw[if_pos hcc] at hF
  have S01:cy W1 h1 (newW W1 h1.objs.size) (newH (g.ca cc) h1):=fun a ob ew ho=>⟨(newW_old ho).trans (congrArg (bD none) ew),g8 a ob ho⟩
  refine hF _ r e2 (newW W1 h1.objs.size) ⟨newH (g.ca cc) h1,s.gens,s.drawn,t1,s.os⟩ (.ref (h1.objs.size+1)::xs) _ _ ⟨Rm.handled,?_,?_⟩ (new_wf O1.wf) (congrArg Nat.succ (r1.length.trans (List.length_map ..).symm)) (St.recv (new_inst cc) (r1.stay S01)) fun W2 h3 t2 y w2 S2 r2 r3=>?_
  ·exact Nat.le_trans (Nat.add_le_add_right (Nat.add_le_add_left (tc_weight _).1 A.depth) _) (by have:=Rm.depth;lia)
  ·exact Nat.le_trans (Nat.add_le_add_right (Nat.add_le_add_left (tc_weight _).2 A.units) _) (by have:=Rm.units;lia)
  ·rw[isNoneO_ok er] at r2
   refine⟨r2.vE.noneE,?_⟩
   have M:=merge_ok (k:=k) (ri:=none) (fun i z=>nomatch z) O1.wf (w2.map (f:=newF) rfl rfl) (new_step S2)
   have Gr:Grow W1 h1 (fun a=>bN none k (W1 a) (newF (W2 a))) h3:=fun a o ho=>M.2.1 a o ho fun i p z=>nomatch z
   have rr:RepO g (fun a=>newF (W2 a)) h3 (fun p=>.tmp 0 p) r.2 (.ref (h1.objs.size+1)):=r3.elim (fun e=>e▸.v (.undef _)) fun z=>exE z fun x0 z=>Option.some.inj z.1▸
    z.2.conv (fun a ob e ho=>⟨congrArg newF e,ho⟩) fun a ob p e ho=>⟨congrArg newF e,ho⟩
   exact q _ h3 t2 _ (O1.grow Gr M.1) (S1.trans M.2.2.1) (rr.conv M.2.2.2.1 fun a ob p e ho=>⟨M.2.2.2.2.1 a p e,ho⟩)
end
section
variable {g:G} {h0:Heap} {N:aR} {n k:Nat} {c:Ctx} {R:Rec} {lo la:Nat} {Φ:Nat→List Own→Option (Own×Own)} {Wf:Nat}
theorem Ok.wr{env:Env}{ρ:Nat→Option Value}{W:Wd}{h h':Heap}{fr:Fr}{wr:List Addr}(O:Ok g h0 c env ρ W h fr)(hw:∀ b∈wr,W b=.fgn)(hk:∀ b o,b∉wr→h.get? b=some o→h'.get? b=some o):Ok g h0 c env ρ W h' fr:=by
 have K:∀ {a o r},W a=r→r≠.fgn→h.get? a=some o→h'.get? a=some o:=fun e n ho=>hk _ _ (fun hm=>n (e.symm.trans (hw _ hm))) ho
 exact⟨⟨fun a o ho=>⟨(O.wf.base a o ho).1,K (O.wf.base a o ho).1 nofun (O.wf.base a o ho).2⟩,fun a ha=>exE (O.wf.live a ha) fun o ho=>⟨o,K rfl ha ho⟩⟩,O.env.move fun a o e ho=>⟨e,K e nofun ho⟩,
  fun i o e=>(O.st i o e).imp id fun z=>exE z fun z p=>⟨z,p.1,RepO.stay (r:=fun p=>.slot i p) (fun a ob ha ho=>⟨rfl,ha.elim (fun e=>K e nofun ho) fun e=>exE e fun p e=>K e nofun ho⟩) p.2⟩⟩
theorem Step.wr{X:Role→Addr→Prop}{W W1:Wd}{h h1 h2:Heap}{wr:List Addr}(S:Step k X W h W1 h1)(hn:∀ b∈wr,∀ o,h.get? b=some o→¬ kept k X W b)(hk:∀ b o,b∉wr→h1.get? b=some o→h2.get? b=some o):Step k X W h W1 h2:=fun a o ho q=>
 ⟨(S a o ho q).1,hk a o (fun hm=>hn a hm o ho q) (S a o ho q).2⟩
structure FI (g:G) (h0:Heap) (lo la:Nat) (c:Ctx) (env:Env) (k:Nat) (W:Wd) (h:Heap) (ρ:Nat→Option Value) (W1:Wd) (h1:Heap) (fp wr:List Addr) (Sx:Nat→Heap→Prop) (i:Nat) (W2:Wd) (h2:Heap) (ρ2:Nat→Option Value) (fr2:Fr):Prop where
 ok:Ok g h0 c env ρ2 W2 h2 fr2
 st:Step k (stX la) W h W2 h2
 rho:∀ j,j<lo→ρ2 j=ρ j
 sx:Sx i h2
 fpr:∀ x∈fp,W2 x=.fgn∨W2 x=.frz
 wrr:∀ x∈wr,W2 x=.fgn
 stay:cy W1 h1 W2 h2
section
variable {env:Env} {W W1 W2 W5:Wd} {h h1 h2 h5:Heap} {ρ ρ2 ρ5:Nat→Option Value} {fp wr:List Addr} {Sx:Nat→Heap→Prop} {i j:Nat} {fr2 fr5:Fr}
theorem FI.moved(I:FI g h0 lo la c env k W h ρ W1 h1 fp wr Sx i W2 h2 ρ2 fr2)(hn:∀ b∈wr,∀ o,h.get? b=some o→¬ kept k (stX la) W b)(hk:∀ b o,b∉wr→h2.get? b=some o→h5.get? b=some o)(hx:Sx j h5):FI g h0 lo la c env k W h ρ W1 h1 fp wr Sx j W2 h5 ρ2 fr2:=
 ⟨I.ok.wr I.wrr hk,I.st.wr hn hk,I.rho,hx,I.fpr,I.wrr,fun a o ea ho=>have q:=I.stay a o ea ho;⟨q.1,hk a o (fun hm=>nomatch q.1.symm.trans (I.wrr a hm)) q.2⟩⟩
theorem FI.ran(I:FI g h0 lo la c env k W h ρ W1 h1 fp wr Sx i W2 h2 ρ2 fr2)(hex:∀ i h,Sx i h→∀ x∈fp,∃ o,h.get? x=some o)(hfr:∀ i h h',Sx i h→(∀ b∈fp,∀ o,h.get? b=some o→h'.get? b=some o)→Sx i h')(hsub:∀ b∈wr,b∈fp)
  (O5:Ok g h0 c env ρ5 W5 h5 fr5) (S:Step k (stX la) W2 h2 W5 h5) (hr:∀ j,j<lo→ρ5 j=ρ2 j):FI g h0 lo la c env k W h ρ W1 h1 fp wr Sx i W5 h5 ρ5 fr5:=
 ⟨O5,I.st.trans S,fun j hj=>(hr j hj).trans (I.rho j hj),hfr i h2 h5 I.sx fun b hb o ho=>(I.fpr b hb).elim (fun e=>(S.fgn e ho).2) fun e=>(S.stay b o e ho).2,
  fun x hx=>exE (hex i h2 I.sx x hx) fun o ho=>(I.fpr x hx).imp (fun e=>(S.fgn e ho).1) fun e=>(S.stay x o e ho).1,fun x hx=>exE (hex i h2 I.sx x (hsub x hx)) fun o ho=>(S.fgn (I.wrr x hx) ho).1,fun a o ea ho=>have q:=I.stay a o ea ho;S.stay a o q.1 q.2⟩
end
noncomputable def ForI(g:G)(h0:Heap)(lo la:Nat)(c:Ctx)(R:Rec)(env:Env)(k:Nat)(W:Wd)(s:Shared)(ρ:Nat→Option Value)(W1:Wd)(h1:Heap)(fp wr:List Addr)(Sx:Nat→Heap→Prop)(t:T)(Bs:List S)(vs:List V)(f:Fl)(fr':Fr)(m:Nat)(s2:Shared):Prop:=
 ∃ i W2 h2 t2 ρ2 fr2,m=vs.length - i∧i≤vs.length∧s2={ s with heap:=h2,toks:=t2 }∧FI g h0 lo la c env k W s.heap ρ W1 h1 fp wr Sx i W2 h2 ρ2 fr2∧cF R lo t Bs (vs.drop i) fr2=some (f,fr')
theorem for_turn{t:T}{e:Expr}{b:List Stmt}{Bs:List S}{A:Around}(ht:TgE c t e)(hb:ExT g h0 n lo la c (fun env=>execs b env) (exs R Bs)){vs:List V}{v:V}{x:Value}{fr fr':Fr}{f:Fl}(em:cF R lo t Bs (v::vs) fr=some (f,fr')){W:Wd}{s:Shared}{ρ:Nat→Option Value}{env:Env}
  {E1 E2:Value→Shared→Prop} {Rk:Flow→Shared→Prop} {Ip:Shared→Prop} (Rm:Room A n) (O:Ok g h0 c env ρ W s.heap fr) (rx:Rep g W s.heap v x)
  (kN:∀ W3 h3 t3 ρ3 fr3,Ok g h0 c env ρ3 W3 h3 fr3→Step k (stX la) W s.heap W3 h3→(∀ i,i<lo→ρ3 i=ρ i)→cF R lo t Bs vs fr3=some (f,fr')→Ip { s with heap:=h3,toks:=t3 })
  (kF:∀ W' h' t' ρ' fl,Ok g h0 c env ρ' W' h' fr'→Step k (stX la) W s.heap W' h'→(∀ i,i<lo→ρ' i=ρ i)→FlR g W' h' k f fl→Rk fl { s with heap:=h',toks:=t' }):
  wpAny (model g.prog g.w) A (assign e env x) (fun _ s₂=>wpAny (model g.prog g.w) A (execs b env) (fun fl s₃=>match fl with
   | .next | .cont=>Ip s₃
   | .brk=>Rk .next s₃
   | .ret v=>Rk (.ret v) s₃) E2 s₂) E1 s:=by
 refine bE em fun fr3 e3 em=>bE2 em fun f4 fr4 e4 em=>?_
 refine assign_ok (k:=k) (X:=stX la) (fun _ _ _ _=>trivial) ht e3 W s ρ A _ _ x Rm.handled O rx fun W4 h4 t4 ρ4 O4 S4 hr4=>?_
 refine hb fr3 fr4 f4 e4 k W4 _ ρ4 env A _ _ Rm O4 fun W5 h5 t5 ρ5 fl O5 S5 hr5 r5=>?_
 have hr:∀ j,j<lo→ρ5 j=ρ j:=fun j hj=>(hr5 j hj).trans (hr4 j fun hm=>Nat.not_lt.mpr (bindT_lo e3 j hm) hj)
 exact wh_flow (Rk:=fun fl=>Rk fl { s with heap:=h5,toks:=t5 }) em r5 (kN W5 h5 t5 ρ5 fr4 O5 (S4.trans S5) hr)
  fun f1 fl e r=>kF W5 h5 t5 ρ5 fl (sp (P:=fun _ fr'=>Ok g h0 c env ρ5 W5 h5 fr') e O5) (S4.trans S5) hr (sp (P:=fun f _=>FlR g W5 h5 k f fl) e r)
theorem for_walk{t:T}{e:Expr}{b:List Stmt}{Bs:List S}{fp wr:List Addr}{I:Addr}{P:Nat→Value→Prop}{Sx:Nat→Heap→Prop}{vs:List V}{A:Around}(ht:TgE c t e)
  (hb:ExT g h0 n lo la c (fun env=>execs b env) (exs R Bs)) (WK:Walks g.prog g.w A I fp wr vs.length P Sx) {fr fr':Fr} {f:Fl} (e1:cF R lo t Bs vs fr=some (f,fr')) {W:Wd} {s s1:Shared} {ρ:Nat→Option Value} {env:Env} {Rz:Result→Shared→Prop}
  (Rm:Room A n) {W1:Wd} (hs1:s1={ s with heap:=s1.heap,toks:=s1.toks }) (O:Ok g h0 c env ρ W1 s1.heap fr) (S1:Step k (stX la) W s.heap W1 s1.heap) (hst:Sx 0 s1.heap) (hfp:∀ x∈fp,W1 x=.fgn∨W1 x=.frz) (hex:∀ i h,Sx i h→∀ x∈fp,∃ o,h.get? x=some o) (hwr:∀ x∈wr,W1 x=.fgn∧∀ o,s.heap.get? x=some o→¬ kept k (stX la) W x)
  (hP:∀ (i:Nat) (v:V) (x:Value) (W':Wd) (h':Heap),cy W1 s1.heap W' h'→vs[i]?=some v→P i x→Rep g W' h' v x)
  (hlo:∀ (v:Value) (i:Nat) (s2:Shared) (Q:Unit→Shared→Prop) (Ex:Value→Shared→Prop),Sx i s2.heap→Q () s2→wpAny (model g.prog g.w) A (PySem.letOwnedTupleGo e (.ref I) v) Q Ex s2)
  (q:∀ W' h' t' ρ' fl,Ok g h0 c env ρ' W' h' fr'→Step k (stX la) W s.heap W' h'→(∀ i,i<lo→ρ' i=ρ i)→FlR g W' h' k f fl→Rz (.ok fl) { s with heap:=h',toks:=t' }):
  codeAny (model g.prog g.w) A (.forLoop e (.ref I) b [] env) Rz s1:=by
 have hn:∀ b∈wr,∀ o,s.heap.get? b=some o→¬ kept k (stX la) W b:=fun b hb=>(hwr b hb).2
 refine codeAny_forLoop_any (ForI g h0 lo la c R env k W s ρ W1 s1.heap fp wr Sx t Bs vs f fr') ?_ _ ⟨0,W1,s1.heap,s1.toks,ρ,fr,rfl,Nat.zero_le _,hs1,⟨O,S1,fun _ _=>rfl,hst,hfp,fun x hx=>(hwr x hx).1,fun _ _ e ho=>⟨e,ho⟩⟩,e1⟩
 refine fun m s2 J=>exE J fun i J=>exE J fun W2 J=>exE J fun h2 J=>exE J fun t2 J=>exE J fun ρ2 J=>exE J fun fr2 J=>?_
 have em:=J.2.2.2.2
 have F:=J.2.2.2.1
 rw[J.2.2.1]
 by_cases hlt:i<vs.length
 ·refine WK.item i _ _ _ hlt F.sx fun v h' tk hPv hx' hk=>?_
  rw[List.drop_eq_getElem_cons hlt] at em
  have F3:=F.moved hn hk hx'
  refine hlo v (i+1) _ _ _ hx' (for_turn (k:=k) (s:={ s with heap:=h',toks:=tk }) (Rk:=fun f s'=>Rz (.ok f) s') (Ip:=fun s₃=>∃ m',m'<m∧ForI g h0 lo la c R env k W s ρ W1 s1.heap fp wr Sx t Bs vs f fr' m' s₃) ht hb em Rm F3.ok (hP i _ v W2 h' F3.stay (List.getElem?_eq_getElem hlt) hPv)
   (fun W5 h5 t5 ρ5 fr5 O5 S5 hr5 em=>⟨_,J.1▸Nat.sub_succ_lt_self vs.length i hlt,i+1,W5,h5,t5,ρ5,fr5,rfl,hlt,rfl,F3.ran hex WK.frame WK.sub O5 S5 hr5,em⟩)
   (fun W5 h5 t5 ρ5 fl O5 S5 hr5 r=>q W5 h5 t5 ρ5 fl O5 (F3.st.trans S5) (fun j hj=>(hr5 j hj).trans (F3.rho j hj)) r))
 ·have hi:i=vs.length:=Nat.le_antisymm J.2.1 (Nat.not_lt.mp hlt)
  rw[hi,List.drop_length] at em
  refine WK.done _ _ _ (hi▸F.sx) fun h' tk hk=>wpAny_execs_nil ?_
  exact sp (P:=fun f fr'=>(∀ W' h' t' ρ' fl,Ok g h0 c env ρ' W' h' fr'→Step k (stX la) W s.heap W' h'→(∀ i,i<lo→ρ' i=ρ i)→FlR g W' h' k f fl→Rz (.ok fl) { s with heap:=h',toks:=t' })→Rz (.ok .next) { s with heap:=h',toks:=tk }) em
   (fun q=>q W2 h' tk ρ2 .next (F.ok.wr F.wrr hk) (F.st.wr hn hk) F.rho .next) q
end
section
variable {g:G} {h0:Heap} {N:aR} {n k:Nat} {c:Ctx} {R:Rec} {lo la:Nat} {Φ:Nat→List Own→Option (Own×Own)} {Wf:Nat}
structure Iter (g:G) (A:Around) (k:Nat) (W:Wd) (s:Shared) (vs:List V) (W1:Wd) (s1:Shared) (I:Addr) (fp wr:List Addr) (P:Nat→Value→Prop) (Sx:Nat→Heap→Prop):Prop where
 wk:Walks g.prog g.w A I fp wr vs.length P Sx
 st:Sx 0 s1.heap
 roles:∀ x∈fp,W1 x=.fgn∨W1 x=.frz
 ex:∀ i h,Sx i h→∀ x∈fp,∃ o,h.get? x=some o
 own:∀ x∈wr,W1 x=.fgn∧∀ o,s.heap.get? x=some o→¬ kept k noX W x
 vals:∀ (i:Nat) (v:V) (x:Value) (W':Wd) (h':Heap),cy W1 s1.heap W' h'→vs[i]?=some v→P i x→Rep g W' h' v x
 lets:∀ (e:Expr) (v:Value) (i:Nat) (s2:Shared) (Q:Unit→Shared→Prop) (Ex:Value→Shared→Prop),Sx i s2.heap→Q () s2→wpAny (model g.prog g.w) A (PySem.letOwnedTupleGo e (.ref I) v) Q Ex s2
noncomputable abbrev ItQ(g:G)(h0:Heap)(c:Ctx)(A:Around)(env:Env)(ρ:Nat→Option Value)(k:Nat)(W:Wd)(s:Shared)(vs:List V)(fr':Fr)(Q:Value→Shared→Prop):Prop:=
 ∀ W1 s1 I fp wr P Sx,s1={ s with heap:=s1.heap,toks:=s1.toks }→Ok g h0 c env ρ W1 s1.heap fr'→Step k noX W s.heap W1 s1.heap→Iter g A k W s vs W1 s1 I fp wr P Sx→Q (.ref I) s1
noncomputable def ItAt(g:G)(h0:Heap)(n:Nat)(c:Ctx)(iter:Expr)(fr:Fr)(vs:List V)(fr':Fr):Prop:=∀ (k:Nat) (W:Wd) (s:Shared) (ρ:Nat→Option Value) (env:Env) (A:Around) (Q:Value→Shared→Prop) (Ex:Value→Shared→Prop),
  Room A n→Ok g h0 c env ρ W s.heap fr→ItQ g h0 c A env ρ k W s vs fr' Q→
  wpAny (model g.prog g.w) A (eval iter env) (fun x s'=>wpAny (model g.prog g.w) A (pyIter x) Q Ex s') Ex s
noncomputable def ItT(g:G)(h0:Heap)(n:Nat)(c:Ctx)(iter:Expr)(ir:Fr→Option (List V×Fr)):Prop:=
 ∀ (fr fr':Fr) (vs:List V),ir fr=some (vs,fr')→ItAt g h0 n c iter fr vs fr'
theorem lo_ok{prog:Program}{w:World}{A:Around}{I:Addr}{nm:String}{vs:Array Value}{o:Obj}(hn:(["enumerate","zip","dict_itemiterator","dict_reverseitemiterator","odict_iterator","itertools.zip_longest","itertools.pairwise"].contains nm)=false)(e:Expr)(v:Value)
  {s2:Shared} {Q:Unit→Shared→Prop} {Ex:Value→Shared→Prop} (ho:s2.heap.get? I=some o) (hc:o.cls=.type nm) (hd:o.data=.fields vs) (q:Q () s2):wpAny (model prog w) A (PySem.letOwnedTupleGo e (.ref I) v) Q Ex s2:=by
 have key:wpAny (model prog w) A (PySem.letOwnedTupleGo (.List [] default) (.ref I) v) Q Ex s2:=by
  unfold PySem.letOwnedTupleGo
  cases v with
  | ref a=>
   refine wpAny_bind (wpAny_load ho ?_)
   rw[hc,hd]
   dsimp only
   rw[hn]
   exact wpAny_pure q
  | _=>exact wpAny_pure q
 cases e with
 | Tuple a b d=>exact key
 | List a b=>exact key
 | _=>exact wpAny_pure q
theorem Iter.new{W W1:Wd}{s s1:Shared}{h1:Heap}{env:Env}{ρ:Nat→Option Value}{A:Around}{fr1:Fr}{vs:List V}{rest:List Addr}{P:Nat→Value→Prop}{Sx:Nat→Heap→Prop}{nm:String}(O1:Ok g h0 c env ρ W1 h1 fr1)(S1:Step k noX W s.heap W1 h1)
  (hn:(["enumerate","zip","dict_itemiterator","dict_reverseitemiterator","odict_iterator","itertools.zip_longest","itertools.pairwise"].contains nm)=false) (hr:∀ x∈rest,W1 x=.frz) (hR:∀ i h,Sx i h→∀ x∈rest,∃ o,h.get? x=some o)
  (hI:∀ i h,Sx i h→∃ o a,h.get? h1.objs.size=some o∧o.cls=.type nm∧o.data=.fields a) (wk:Walks g.prog g.w A h1.objs.size (h1.objs.size::rest) [h1.objs.size] vs.length P Sx) (st:Sx 0 s1.heap)
  (vals:∀ (i:Nat) (v:V) (x:Value) (W':Wd) (h':Heap),cy W1 s1.heap W' h'→vs[i]?=some v→P i x→Rep g W' h' v x):Iter g A k W s vs W1 s1 h1.objs.size (h1.objs.size::rest) [h1.objs.size] P Sx:=
 have fresh:W1 h1.objs.size=.fgn:=O1.wf.fresh (c3 _)
 ⟨wk,st,fun x hx=>(List.mem_cons.mp hx).elim (fun e=>.inl (e▸fresh)) fun e=>.inr (hr x e),fun i h hh x hx=>(List.mem_cons.mp hx).elim (fun e=>exE (hI i h hh) fun o z=>exE z fun a z=>⟨o,e▸z.1⟩) fun e=>hR i h hh x e,
  fun x hx=>by rw[List.mem_singleton.mp hx];exact⟨fresh,fun o hz hw=>absurd (Heap.lt_size (S1 _ _ hz hw).2) (Nat.lt_irrefl _)⟩,vals,fun e v i s2 Q Ex hh q=>exE (hI i _ hh) fun o z=>exE z fun a z=>lo_ok hn e v z.1 z.2.1 z.2.2 q⟩
theorem aA(h:Heap)(ob:Obj):∀ b o,h.get? b=some o→(h.push ob).get? b=some o:=fun b o z=>Heap.get?_push_of_some _ z
theorem Ok.push{W:Wd}{h:Heap}{env:Env}{ρ:Nat→Option Value}{fr:Fr}(O:Ok g h0 c env ρ W h fr)(ob:Obj):Ok g h0 c env ρ W (h.push ob) fr:=O.grow (ay (aA h ob)) (O.wf.grow (aA h ob))
theorem item_val{W W':Wd}{h h':Heap}{vs:List V}{xs:List Value}{i:Nat}{v:V}{x:Value}(r:Reps g W h vs xs)(S:cy W h W' h')(hv:vs[i]?=some v)(hP:xs.toArray[i]?=some x):Rep g W' h' v x:=
 exE (r.get hv) fun y z=>by
  rw[List.getElem?_toArray] at hP
  exact(Option.some.inj (z.1.symm.trans hP)▸z.2).stay S
section
variable {W W1:Wd} {s:Shared} {h1:Heap} {t1:Nat} {env:Env} {ρ:Nat→Option Value} {A:Around} {Q:Value→Shared→Prop} {Ex:Value→Shared→Prop} {fr1:Fr} {l:List V} {y:Value}
theorem it_list(Rm:Room A n)(O1:Ok g h0 c env ρ W1 h1 fr1)(S1:Step k noX W s.heap W1 h1)(r:Rep g W1 h1 (.list l) y)(q:ItQ g h0 c A env ρ k W s l fr1 Q):wpAny (model g.prog g.w) A (pyIter y) Q Ex { s with heap:=h1,toks:=t1 }:=
 r.listE fun ax xs m hy b1 b2 b3=>by
  rw[hy]
  refine iter_list (isL b2) fun s2 hs2 st _ hne=>?_
  rw[hs2] at st ⊢
  have wk:=Walks.list (prog:=g.prog) (w:=g.w) Rm.handled h1.objs.size ax hne xs.toArray
  rw[show xs.toArray.size=l.length from List.size_toArray.trans b3.length] at wk
  exact q W1 _ h1.objs.size _ _ _ _ rfl (O1.push _) (S1.trans (ay (aA _ _)).step) (.new (nm:="list_iterator") O1 S1 (by decide) (fun x hx=>List.mem_singleton.mp hx▸b1) (fun i h hh x hx=>exE hh.2 fun o z=>⟨o,List.mem_singleton.mp hx▸z.1⟩)
   (fun i h hh=>exE hh.1 fun o z=>⟨o,_,z⟩) wk st fun i v x W' h' st' hv hP=>item_val (b3.grow (ay (aA _ _))) st' hv hP)
theorem it_tup(Rm:Room A n)(O1:Ok g h0 c env ρ W1 h1 fr1)(S1:Step k noX W s.heap W1 h1)(r:Rep g W1 h1 (.tup l) y)(q:ItQ g h0 c A env ρ k W s l fr1 Q):wpAny (model g.prog g.w) A (pyIter y) Q Ex { s with heap:=h1,toks:=t1 }:=
 r.tupE fun ax xs m hy b1 b2 b3=>by
  rw[hy]
  refine wpAny_pyIter_tuple (isT b2) ?_
  have wk:=Walks.tuple (prog:=g.prog) (w:=g.w) Rm.handled h1.objs.size ax (Nat.ne_of_lt (Heap.lt_size b2)) xs.toArray
  rw[show xs.toArray.size=l.length from List.size_toArray.trans b3.length] at wk
  exact q W1 ⟨_,s.gens,s.drawn,t1,s.os⟩ h1.objs.size _ _ _ _ rfl (O1.push { cls:=.type "tuple_iterator",data:=.fields #[.ref ax,.int 0 0] }) (S1.trans (ay (aA _ _)).step) (.new (nm:="tuple_iterator") O1 S1 (by decide) (fun x hx=>List.mem_singleton.mp hx▸b1) (fun i h hh x hx=>exE hh.2 fun o z=>⟨o,List.mem_singleton.mp hx▸z.1⟩)
   (fun i h hh=>exE hh.1 fun o z=>⟨o,_,z⟩) wk ⟨⟨_,Heap.get?_push_size _ rfl,rfl,rfl⟩,(isT b2).push _⟩ fun i v x W' h' st' hv hP=>item_val (b3.grow (ay (aA _ _))) st' hv hP)
end
theorem it_val{x:Expr}{a:E}(ha:EvT g h0 n c (fun env=>eval x env) (R.ev a)):ItT g h0 n c x (bZ R (.val a)):=fun fr fr' vs e=>
 bE2 e fun u fr1 e1 e=>bE e fun l hl e=>sp e fun k W s ρ env A Q Ex Rm O q=>ha.v fr fr1 u e1 k W s ρ env A _ Ex Rm O fun W1 h1 t1 y O1 S1 r1=>
  (vSeq_ok hl).elim (fun h=>it_list Rm O1 S1 (h▸r1) q) fun h=>it_tup Rm O1 S1 (h▸r1) q
end
section
variable {g:G} {h0:Heap} {N:aR} {n k:Nat} {c:Ctx} {R:Rec} {lo la:Nat} {Φ:Nat→List Own→Option (Own×Own)} {Wf:Nat}
theorem kept_st{la:Nat}{W:Wd}{a:Addr}:kept k (stX la) W a→kept k noX W a:=by
 unfold kept
 cases W a with
 | env=>exact fun x=>absurd trivial x
 | slot i p=>exact fun x=>⟨x.1,id⟩
 | _=>exact id
noncomputable def fC(e:Expr):Bool:=e.ctorIdx != 7
theorem folded_no{e:Expr}(h:fC e=true)(env:Env)(x:Value):foldedSetIterable e env x=pure x:=by cases e <;> first | rfl | cases h
theorem ex_for{t:T}{e iter:Expr}{b:List Stmt}{Bs:List S}{it:It}{pos:Pos}(ht:TgE c t e)(hs:fC iter=true)(hi:ItT g h0 n c iter (bZ R it))(hb:ExT g h0 n lo la c (fun env=>execs b env) (exs R Bs)):
  ExT g h0 n lo la c (fun env=>exec (.For e iter b [] pos) env) (aY R lo la Wf (.forr t it Bs)):=fun fr fr' f er=>bE2 er fun vs fr1 e1 e2 k W s ρ env A Q Ex Rm O q=>
 wpAny_For (hi fr fr1 vs e1 k W s ρ env A _ Ex Rm O fun W1 s1 I fp wr P Sx hs1 O1 S1 X=>
  for_walk (Rz:=fun r s'=>match r with | .ok f=>Q f s' | .error e=>cameBackBy (model g.prog g.w) A env Ex e s') ht hb X.wk e2 Rm hs1 O1 S1.toSt X.st X.roles X.ex (fun x hx=>⟨(X.own x hx).1,fun o ho hk=>(X.own x hx).2 o ho (kept_st hk)⟩) X.vals (fun v i s2 Q Ex=>X.lets e v i s2 Q Ex) q) (folded_no hs env)
theorem range_tail{W W1:Wd}{s:Shared}{ρ:Nat→Option Value}{env:Env}{A:Around}{Q:Value→Shared→Prop}{Ex:Value→Shared→Prop}{fr1:Fr}{h1:Heap}{t1:Nat}{lw hi:Int}{r:Addr}{t u v:Tok}(Rm:Room A n)(ok:cp lw hi=true)(O1:Ok g h0 c env ρ W1 h1 fr1)(S1:Step k noX W s.heap W1 h1)
  (hr:IsRange h1 r lw hi 1 t u v) (q:ItQ g h0 c A env ρ k W s (b9 lw hi) fr1 Q):wpAny (model g.prog g.w) A (pyIter (.ref r)) Q Ex { s with heap:=h1,toks:=t1 }:=by
 have ok:=of_decide_eq_true ok
 refine wpAny_pyIter_range hr (small_one (by lia) (by lia) (by lia) (by lia)) ?_
 have wk:=Walks.range (prog:=g.prog) (w:=g.w) Rm.handled h1.objs.size lw 1 (hi - lw).toNat
 rw[← fB] at wk
 exact q W1 ⟨_,s.gens,s.drawn,t1,s.os⟩ h1.objs.size _ _ _ _ rfl (O1.push { cls:=.type "range_iterator",data:=.fields #[rawInt lw,rawInt (Builtin.Range.rangeSize lw hi 1),rawInt 1] }) (S1.trans (ay (aA _ _)).step)
  (.new (rest:=[]) (nm:="range_iterator") O1 S1 (by decide) (fun x hx=>nomatch hx) (fun i h hh x hx=>nomatch hx) (fun i h hh=>⟨_,_,hh,rfl,rfl⟩) wk (by
   show (h1.push _).get? h1.objs.size=_
   rw[Heap.get?_push_size _ rfl,PyProof.Rows.rangeSize_nat,fB]
   simp) fun i v x W' h' st' hv hP=>exE hP fun t hx=>by
   rw[hx,rangeL_get hv,Int.mul_one]
   exact .int _ _)
theorem it_range1(B:bV g h0 N){v:Expr}{a:E}{p2 p3:Pos}(hx:("range":Str)∈c.globs)(hm:N.mg "range"=none)(he:az v=true)(ha:EvT g h0 n c (fun env=>eval v env) (R.ev a)):
  ItT g h0 n c (.Call (.Name "range" p2) [v] [] p3) (bZ R (.range none a)):=fun fr fr' vs e=>
 bE2 e fun u fr1 e1 e=>bE e fun m hm1 e=>ifE e fun hz e=>sp e fun k W s ρ env A Q Ex Rm O q=>d8 B O hx hm boot_range (by decide) (by decide) (.inr ⟨_,rfl⟩) he
  (ha.v fr fr1 u e1 k W s ρ env A _ Ex Rm O fun W1 h1 t1 y O1 S1 r1=>(aB hm1▸r1:Rep g W1 h1 (.int m) y).intE fun t hy=>by
   rw[hy]
   exact call_range_1 (range_tail (s:=s) (k:=k) Rm hz (O1.push _) (S1.trans (ay (aA _ _)).step) (IsRange.new ..) q))
theorem it_range2(B:bV g h0 N){v v2:Expr}{a a2:E}{p2 p3:Pos}(hx:("range":Str)∈c.globs)(hm:N.mg "range"=none)(he:az v=true)(he2:az v2=true)(ha:EvT g h0 n c (fun env=>eval v env) (R.ev a))(ha2:EvT g h0 n c (fun env=>eval v2 env) (R.ev a2)):
  ItT g h0 n c (.Call (.Name "range" p2) [v,v2] [] p3) (bZ R (.range (some a) a2)):=fun fr fr' vs e=>
 bE2 e fun u fr1 e1 e=>bE2 e fun u2 fr2 e2 e=>bE e fun l hl e=>bE e fun hh hh1 e=>ifE e fun hz e=>sp e fun k W s ρ env A Q Ex Rm O q=>call_bi2 B O hx hm boot_range (by decide) (by decide) (.inr ⟨_,rfl⟩) he he2
  (ha.v fr fr1 u e1 k W s ρ env A _ Ex Rm O fun W1 h1 t1 y O1 S1 r1=>ha2.v fr1 fr2 u2 e2 k W1 _ ρ env A _ Ex Rm O1 fun W2 h2 t2 y2 O2 S2 r2=>(aB hl▸r1:Rep g W1 h1 (.int l) y).intE fun t hy=>(aB hh1▸r2:Rep g W2 h2 (.int hh) y2).intE fun t' hy2=>by
   rw[hy,hy2]
   exact call_range_2 (range_tail (s:=s) (k:=k) Rm hz (O2.push _) ((S1.trans S2).trans (ay (aA _ _)).step) (IsRange.new ..) q))
end
section
variable {g:G} {h0:Heap} {N:aR} {n k:Nat} {c:Ctx} {R:Rec} {lo la:Nat} {Φ:Nat→List Own→Option (Own×Own)} {Wf:Nat}
theorem new_dict{K:Type} [DecidableEq K] {prog:Program} {w:World} {knd:KeyKind prog w K} (h:Heap):(h.push { cls:=.type "dict",data:=.dict #[] }).DictOf knd h.objs.size []:=
 ⟨_,#[],0,Heap.get?_push_size _ rfl,⟨rfl,rfl,rfl⟩,rfl,fun _ he=>by simp at he,.nil,List.nodup_nil⟩
theorem not_sys{W:Wd}{h:Heap}{env:Env}{ρ:Nat→Option Value}{fr:Fr}(hsm:(h0.get? sysModules).isSome=true)(O:Ok g h0 c env ρ W h fr):(h.objs.size==sysModules)=false:=
 exE (Option.isSome_iff_exists.mp hsm) fun o ho=>beq_eq_false_iff_ne.mpr (Nat.ne_of_lt (Heap.lt_size (O.wf.base _ _ ho).2)).symm
theorem ev_dict0{b:Bool}{pos:Pos}(hsm:sysModules∈([]:List Addr)∨(h0.get? sysModules).isSome=true):EvT g h0 n c (fun env=>eval (.Dict [] [] pos) env) (al R lo Φ (.dict b [])):=fun fr fr' o e=>by
 have hs:=hsm.resolve_left nofun
 cases b with
 | false=>
  have e:some (Own.dict [],fr)=some (o,fr'):=e
  exact sp e fun k W s ρ env A Q Ex Rm O q=>wpAny_Dict_empty (VAfter.put (s:=s) (q.grow O .refl s.toks) O.wf (.tmp k 0) (c3 _) (aA _ _) (Heap.get?_push_size _ rfl) (fun S=>.dict (not_sys hs O) bh (new_dict _) .nil) s.toks)
 | true=>
  have e:some (Own.sdict [],fr)=some (o,fr'):=e
  exact sp e fun k W s ρ env A Q Ex Rm O q=>wpAny_Dict_empty (VAfter.put (s:=s) (q.grow O .refl s.toks) O.wf (.tmp k 0) (c3 _) (aA _ _) (Heap.get?_push_size _ rfl) (fun S=>.sdict (not_sys hs O) bh (new_dict _) .nil) s.toks)
end
section
variable {g:G} {h0:Heap} {N:aR} {n k:Nat} {c:Ctx} {R:Rec} {lo la:Nat} {Φ:Nat→List Own→Option (Own×Own)} {Wf:Nat}
theorem Ok.adopt{env:Env}{ρ:Nat→Option Value}{W:Wd}{h:Heap}{fr:Fr}{a:Addr}{o:Obj}(r0:Role)(O:Ok g h0 c env ρ W h fr)(hw:W a=.fgn)(ho:h.get? a=some o):Ok g h0 c env ρ (put W a r0) h fr:=by
 have ne:∀ {b r},W b=r→r≠.fgn→put W a r0 b=r:=fun {b r} e n=>(aU fun z:b=a=>n (e.symm.trans (z.symm▸hw))).trans e
 exact⟨⟨fun b ob hob=>⟨ne (O.wf.base b ob hob).1 nofun,(O.wf.base b ob hob).2⟩,fun b hb=>by
   by_cases z:b=a
   ·exact⟨o,z▸ho⟩
   ·rw[aU z] at hb;exact O.wf.live b hb⟩,O.env.move fun b o e ho=>⟨ne e nofun,ho⟩,
  fun i o' e=>(O.st i o' e).imp id fun z=>exE z fun z p=>⟨z,p.1,RepO.stay (r:=fun p=>.slot i p) (fun b ob hb hob=>⟨hb.elim (fun e=>(ne e nofun).trans e.symm) fun e=>exE e fun p e=>(ne e nofun).trans e.symm,hob⟩) p.2⟩⟩
theorem enumL_get{l:List V}{i:Nat}{v:V}(e:l[i]?=some v):(di l)[i]?=some (.tup [.int (i:Int),v]):=by
 unfold di
 rw[List.getElem?_map,List.getElem?_zipIdx,e]
 simp
theorem dJ(l:List V):(di l).length=l.length:=by simp [di]
theorem enumL_drop{l:List V}{i:Nat}(hlt:i<l.length):(di l).drop i=(.tup [.int (i:Int),l[i]])::(di l).drop (i+1):=by
 have h5:i<(di l).length:=(dJ l).symm▸hlt
 have:=enumL_get (List.getElem?_eq_getElem hlt)
 rw[List.getElem?_eq_getElem h5] at this
 rw[List.drop_eq_getElem_cons h5,Option.some.inj this]
theorem FI.item{env:Env}{W W1 W2:Wd}{h h1 h2 h5:Heap}{ρ ρ2:Nat→Option Value}{fp wr:List Addr}{Sx:Nat→Heap→Prop}{i j:Nat}{fr2:Fr}{a:Addr}{ob:Obj}(I:FI g h0 lo la c env k W h ρ W1 h1 fp wr Sx i W2 h2 ρ2 fr2)(hn:∀ b∈wr,∀ o,h.get? b=some o→¬ kept k (stX la) W b)
  (hex:∀ i h,Sx i h→∀ x∈fp,∃ o,h.get? x=some o) (hsub:∀ b∈wr,b∈fp) (hk:∀ b o,b∉wr→h2.get? b=some o→h5.get? b=some o) (hx:Sx j h5) (ha:h2.get? a=none) (ho:h5.get? a=some ob):FI g h0 lo la c env k W h ρ W1 h1 fp wr Sx j (put W2 a .frz) h5 ρ2 fr2:=by
 have M:=I.moved hn hk hx
 have ne:∀ {b o},h2.get? b=some o→b≠a:=fun {b o} e (z:b=a)=>nomatch ha.symm.trans (z▸e:h2.get? a=some o)
 exact⟨M.ok.adopt .frz (I.ok.wf.fresh ha) ho,fun b o hb hq=>by rw[aU (ne (I.st b o hb hq).2)];exact M.st b o hb hq,I.rho,hx,fun x hx=>by
   refine exE (hex i h2 I.sx x hx) fun o e=>?_
   rw[aU (ne e)];exact I.fpr x hx,fun x hx=>exE (hex i h2 I.sx x (hsub x hx)) fun o e=>(aU (ne e)).trans (I.wrr x hx),fun b o eb hob=>by rw[aU (ne (I.stay b o eb hob).2)];exact M.stay b o eb hob⟩
noncomputable def EnS(I1 I0 ax:Addr)(i:Nat)(h:Heap):Prop:=(∃ old,IsEnum h I1 I0 (i:Nat) old)∧h.IsListIter I0 ax i
theorem two_mem{a b x:Addr}{P:Prop}(h:x∈[a,b])(h1:x=a→P)(h2:x=b→P):P:=(List.mem_cons.mp h).elim h1 fun h=>h2 (List.mem_singleton.mp h)
theorem EnS.ex{I1 I0 ax:Addr}(i:Nat)(h:Heap)(S:EnS I1 I0 ax i h)(x:Addr)(hx:x∈[I1,I0]):∃ o,h.get? x=some o:=two_mem hx (fun e=>exE S.1 fun old z=>⟨_,e▸z⟩) fun e=>exE S.2 fun o z=>⟨o,e▸z.1⟩
theorem EnS.frame{I1 I0 ax:Addr}(i:Nat)(h h':Heap)(S:EnS I1 I0 ax i h)(f:∀ b∈[I1,I0],∀ o,h.get? b=some o→h'.get? b=some o):EnS I1 I0 ax i h':=
 ⟨exE S.1 fun old z=>⟨old,f I1 (List.mem_cons_self ..) _ z⟩,exE S.2 fun o z=>⟨o,f I0 (List.mem_cons_of_mem _ (List.mem_singleton.mpr rfl)) _ z.1,z.2⟩⟩
theorem enum_walk{ts:List T}{es:List Expr}{kd:Nat}{tp:Pos}{b:List Stmt}{Bs:List S}{A:Around}(ht:TgEs c ts es)(hb:ExT g h0 n lo la c (fun env=>execs b env) (exs R Bs)){l:List V}{xs:List Value}{m0:Nat}{fr1 fr':Fr}{f:Fl}(e2:cF R lo (.tup ts) Bs (di l) fr1=some (f,fr')){W:Wd}{s:Shared}{t2:Nat}{ρ:Nat→Option Value}{env:Env}{Rz:Result→Shared→Prop}
  (Rm:Room A n) {W1:Wd} {h2:Heap} {I1 I0 ax:Addr} (hne:I1≠I0) (O2:Ok g h0 c env ρ W1 h2 fr1) (S2:Step k (stX la) W s.heap W1 h2) (hs:EnS I1 I0 ax 0 h2) (f1:W1 I1=.fgn) (f0:W1 I0=.fgn) (hn:∀ b∈[I1,I0],∀ o,s.heap.get? b=some o→¬ kept k (stX la) W b)
  (bx:W1 ax=.frz) (bo:h2.get? ax=some (bO xs m0)) (b3:Reps g W1 h2 l xs)
  (q:∀ W' h' t' ρ' fl,Ok g h0 c env ρ' W' h' fr'→Step k (stX la) W s.heap W' h'→(∀ i,i<lo→ρ' i=ρ i)→FlR g W' h' k f fl→Rz (.ok fl) { s with heap:=h',toks:=t' }):
  codeAny (model g.prog g.w) A (.forLoop (.Tuple es kd tp) (.ref I1) b [] env) Rz { s with heap:=h2,toks:=t2 }:=by
 have wr0:∀ x∈[I1,I0],W1 x=.fgn:=fun x hx=>two_mem hx (fun e=>e▸f1) fun e=>e▸f0
 refine codeAny_forLoop_any (ForI g h0 lo la c R env k W s ρ W1 h2 [I1,I0] [I1,I0] (EnS I1 I0 ax) (.tup ts) Bs (di l) f fr') ?_ _ ⟨0,W1,h2,t2,ρ,fr1,rfl,Nat.zero_le _,rfl,⟨O2,S2,fun _ _=>rfl,hs,fun x hx=>.inl (wr0 x hx),wr0,fun _ _ e ho=>⟨e,ho⟩⟩,e2⟩
 refine fun m s2 J=>exE J fun i J=>exE J fun W2 J=>exE J fun h3 J=>exE J fun t3 J=>exE J fun ρ2 J=>exE J fun fr2 J=>?_
 have em:=J.2.2.2.2
 have F:=J.2.2.2.1
 have hl:=isL (F.stay ax _ bx bo).2
 rw[J.2.2.1]
 refine exE F.sx.1 fun old he=>?_
 by_cases hlt:i<l.length
 ·rw[enumL_drop hlt] at em
  refine exE (b3.get (List.getElem?_eq_getElem hlt)) fun y hy=>?_
  refine wpAny_pyNext_enum_item he F.sx.2 hl (x:=y) (by simpa using hy.1) hne fun h4 ho4 hi4 htup hsz4 hk4=>?_
  dsimp only
  refine wpAny_letOwnedTupleGo_enum (s:={ s with heap:=h4,toks:=t3+1 }) ho4 fun h5 he5 hs5=>?_
  have ha:h3.get? h3.objs.size=none:=c3 _
  have ha1:h3.objs.size≠I1:=fun z=>nomatch (z▸ha).symm.trans he
  have F3:=F.item (a:=h3.objs.size) (h5:=h5) (j:=i+1) hn EnS.ex (fun _ h=>h) (fun b o hb ho=>(hs5.2 b fun z=>hb (z▸List.mem_cons_self ..)).trans (hk4 b o (fun z=>hb (z▸List.mem_cons_self ..)) (fun z=>hb (z▸List.mem_cons_of_mem _ (List.mem_singleton.mpr rfl))) ho))
   ⟨⟨y,he5⟩,exE hi4 fun o z=>⟨o,(hs5.2 I0 hne.symm).trans z.1,z.2⟩⟩ ha ((hs5.2 _ ha1).trans htup)
  refine for_turn (k:=k) (s:={ s with heap:=h5,toks:=t3+1 }) (Rk:=fun f s'=>Rz (.ok f) s') (Ip:=fun s₃=>∃ m',m'<m∧ForI g h0 lo la c R env k W s ρ W1 h2 [I1,I0] [I1,I0] (EnS I1 I0 ax) (.tup ts) Bs (di l) f fr' m' s₃) (TgE.tup (kd:=kd) (p:=tp) ht) hb em Rm F3.ok
   (.tup bh ((hs5.2 _ ha1).trans htup) (.cons (.int _ _) (.cons (hy.2.stay F3.stay) .nil)))
   (fun W5 h6 t5 ρ5 fr5 O5 S5 hr5 em=>⟨_,J.1▸Nat.sub_succ_lt_self (di l).length i ((dJ l).symm▸hlt),i+1,W5,h6,t5,ρ5,fr5,rfl,(dJ l).symm▸hlt,rfl,F3.ran EnS.ex EnS.frame (fun _ h=>h) O5 S5 hr5,em⟩)
   (fun W5 h6 t5 ρ5 fl O5 S5 hr5 r=>q W5 h6 t5 ρ5 fl O5 (F3.st.trans S5) (fun j hj=>(hr5 j hj).trans (F3.rho j hj)) r)
 ·have hi:i=l.length:=Nat.le_antisymm ((dJ l)▸J.2.1) (Nat.not_lt.mp hlt)
  rw[List.drop_of_length_le (by rw[dJ,hi];exact Nat.le_refl _)] at em
  refine wpAny_pyNext_enum_end Rm.handled he F.sx.2 hl (by simp [b3.length,hi]) fun h4 hx4=>wpAny_execs_nil ?_
  have hk:∀ b o,b∉[I1,I0]→h3.get? b=some o→h4.get? b=some o:=fun b o hb ho=>hx4 b o (by simpa using fun z:b=I0=>hb (z▸List.mem_cons_of_mem _ (List.mem_singleton.mpr rfl))) ho
  exact sp (P:=fun f fr'=>(∀ W' h' t' ρ' fl,Ok g h0 c env ρ' W' h' fr'→Step k (stX la) W s.heap W' h'→(∀ i,i<lo→ρ' i=ρ i)→FlR g W' h' k f fl→Rz (.ok fl) { s with heap:=h',toks:=t' })→Rz (.ok .next) { s with heap:=h4,toks:=_ }) em
   (fun q=>q W2 h4 _ ρ2 .next (F.ok.wr F.wrr hk) (F.st.wr hn hk) F.rho .next) q
theorem ex_forEnum(B:bV g h0 N){ts:List T}{es:List Expr}{kd:Nat}{tp p2 p3 pos:Pos}{v:Expr}{a:E}{b:List Stmt}{Bs:List S}(hx:("enumerate":Str)∈c.globs)(hm:N.mg "enumerate"=none)(he:az v=true)(ht:TgEs c ts es)
  (ha:EvT g h0 n c (fun env=>eval v env) (R.ev a)) (hb:ExT g h0 n lo la c (fun env=>execs b env) (exs R Bs)):
  ExT g h0 n lo la c (fun env=>exec (.For (.Tuple es kd tp) (.Call (.Name "enumerate" p2) [v] [] p3) b [] pos) env) (aY R lo la Wf (.forr (.tup ts) (.enum a) Bs)):=fun fr fr' f er=>
 bE ((Option.bind_assoc ..).symm.trans er) fun u e0 er=>bE ((Option.bind_assoc ..).symm.trans er) fun l hl e2 k W s ρ env A Q Ex Rm O q=>by
  refine wpAny_For (d8 B O hx hm boot_enum (by decide) (by decide) (.inr ⟨_,rfl⟩) he ?_) (fun _=>rfl)
  refine ha.v fr u.2 u.1 e0 k W s ρ env A _ Ex Rm O fun W1 h1 t1 y O1 S1 r1=>(bf hl▸r1:Rep g W1 h1 (.list l) y).listE fun ax xs m hy b1 b2 b3=>?_
  rw[hy]
  refine call_enumerate_1 b2 fun h2 hen hit hsz keep=>wpAny_pyIter_enum hen ?_
  have old:∀ x,h1.get? x=none→∀ o,s.heap.get? x=some o→¬ kept k (stX la) W x:=fun x hx o hz hk=>nomatch hx.symm.trans (S1 x o hz (kept_st hk)).2
  have n1:h1.get? (h1.objs.size+1)=none:=Heap.get?_none_of_le (Nat.le_succ _)
  exact enum_walk (k:=k) (s:=s) (Rz:=fun r s'=>match r with | .ok f=>Q f s' | .error e=>cameBackBy (model g.prog g.w) A env Ex e s') ht hb e2 Rm (Nat.succ_ne_self _) (O1.grow (ay keep) (O1.wf.grow keep)) (S1.trans (ay keep).step).toSt ⟨⟨_,hen⟩,hit⟩
   (O1.wf.fresh n1) (O1.wf.fresh (c3 _)) (fun b hb=>two_mem hb (fun e=>e▸old _ n1) fun e=>e▸old _ (c3 _)) b1 (keep _ _ b2) (b3.grow (ay keep)) q
end
inductive RepP (g:G) (W:Wd) (h:Heap):List (V×V)→List (Value×Value)→Prop
 | nil:RepP g W h [] []
 | cons {k v:V} {x y:Value} {l:List (V×V)} {m:List (Value×Value)}:Rep g W h k x→Rep g W h v y→RepP g W h l m→RepP g W h ((k,v)::l) ((x,y)::m)
section
variable {g:G} {h0:Heap} {N:aR} {n k:Nat} {c:Ctx} {R:Rec} {lo la:Nat} {Φ:Nat→List Own→Option (Own×Own)} {Wf:Nat}
noncomputable def PairsAt(g:G)(h0:Heap)(n:Nat)(c:Ctx)(t:Env→Sem (List (Value×Value)))(fr:Fr)(ps:List (V×V))(fr':Fr):Prop:=∀ (k:Nat) (W:Wd) (s:Shared) (ρ:Nat→Option Value) (env:Env) (A:Around) (Q:List (Value×Value)→Shared→Prop) (Ex:Value→Shared→Prop),
 Room A n→Ok g h0 c env ρ W s.heap fr→(∀ W' h' t' qs,Ok g h0 c env ρ W' h' fr'→Step k noX W s.heap W' h'→RepP g W' h' ps qs→Q qs { s with heap:=h',toks:=t' })→wpAny (model g.prog g.w) A (t env) Q Ex s
noncomputable def PairsT(g:G)(h0:Heap)(n:Nat)(c:Ctx)(t:Env→Sem (List (Value×Value)))(ir:Fr→Option (List (V×V)×Fr)):Prop:=∀ fr fr' ps,ir fr=some (ps,fr')→PairsAt g h0 n c t fr ps fr'
theorem pairs_cons{pos:Pos}{x y:Expr}{ks vs:List Expr}{E:Mine.E×Mine.E}{Es:List (Mine.E×Mine.E)}(p1:EvT g h0 n c (fun env=>eval x env) (R.ev E.1))(p2:EvT g h0 n c (fun env=>eval y env) (R.ev E.2))(ih:PairsT g h0 n c (fun env=>evalPairs (pairTrees (ks.map some) vs env pos)) (dh R Es)):
  PairsT g h0 n c (fun env=>evalPairs (pairTrees ((x::ks).map some) (y::vs) env pos)) (dh R (E::Es)):=fun fr fr' ps e=>
 bE2 e fun u fr1 e1 e=>bE2 e fun v fr2 e2 e=>bE2 e fun qs fr3 e3 e=>sp e fun k W s ρ env A Q Ex Rm O q=>
  evalPairs_cons (p1.v fr fr1 u e1 k W s ρ env A _ Ex Rm O fun W1 h1' t1 a O1 S1 r1=>wpAny_bind (p2.v fr1 fr2 v e2 k W1 _ ρ env A _ Ex Rm O1 fun W2 h2' t2 b O2 S2 r2=>wpAny_bind (wpAny_standAt (wpAny_pure
   (ih fr2 fr3 qs e3 k W2 _ ρ env A _ Ex Rm O2 fun W3 h3' t3 cs O3 S3 r3=>q W3 h3' t3 _ O3 ((S1.trans S2).trans S3) (.cons (r1.stay (S2.trans S3).stay) (r2.stay S3.stay) r3))))))
theorem pairs_ok{pos:Pos}{ks:List Expr}:∀ {vs:List Expr} {Es:List (E×E)},ks.length=Es.length→vs.length=Es.length→(∀ p∈(ks.zip vs).zip Es,EvT g h0 n c (fun env=>eval p.1.1 env) (R.ev p.2.1)∧EvT g h0 n c (fun env=>eval p.1.2 env) (R.ev p.2.2))→
  PairsT g h0 n c (fun env=>evalPairs (pairTrees (ks.map some) vs env pos)) (dh R Es):=by
 induction ks with
 | nil=>
  intro vs Es h1 h2 _
  cases List.length_eq_zero_iff.mp h1.symm
  cases List.length_eq_zero_iff.mp h2
  exact fun fr fr' ps e=>sp e fun k W s ρ env A Q Ex Rm O q=>evalPairs_nil (q W s.heap s.toks [] O .refl .nil)
 | cons x ks ih=>
  intro vs Es h1 h2 hp
  cases Es with
  | nil=>cases h1
  | cons E Es=>cases vs with
   | nil=>cases h2
   | cons y vs=>
    have p:=hp ((x,y),E) (List.mem_cons_self ..)
    exact pairs_cons p.1 p.2 (ih (Nat.succ.inj h1) (Nat.succ.inj h2) fun p h=>hp p (List.mem_cons_of_mem _ h))
theorem mk_ok{W:Wd}{h:Heap}{d:List (Int×V)}{ps:List (V×V)}{qs:List (Value×Value)}(r:RepP g W h ps qs):∀ {d0:List (Int×V)} {acc:List (Int×Value)},mkDict ps d0=some d→Repd g W h d0 acc→
  ∃ kvs,Carries (intKind g.prog g.w) qs kvs∧Repd g W h d (PySem.merged acc kvs):=by
 induction r with
 | nil=>intro d0 acc e r;exact⟨[],trivial,Option.some.inj e▸r⟩
 | @cons u v x y l m a b _ ih=>
  intro d0 acc e r
  exact bE e fun i hi e=>(aB hi▸a:Rep g W h (.int i) x).intE fun t hx=>exE (ih e (r.dset i b)) fun kvs z=>⟨(i,y)::kvs,⟨hx▸intKind_is _ _ _ _,rfl,z.1⟩,z.2⟩
theorem ev_dict{ks vs:List Expr}{Es:List (E×E)}{pos:Pos}(hsm:(h0.get? sysModules).isSome=true)(hne:ks≠[])(hlen:ks.length≤15)(h1:ks.length=Es.length)(h2:vs.length=Es.length)
  (hp:∀ p∈(ks.zip vs).zip Es,EvT g h0 n c (fun env=>eval p.1.1 env) (R.ev p.2.1)∧EvT g h0 n c (fun env=>eval p.1.2 env) (R.ev p.2.2)):
  EvT g h0 n c (fun env=>eval (.Dict (ks.map some) vs pos) env) (al R lo Φ (.dict false Es)):=fun fr fr' o e=>by
 have e:(dh R Es fr).bind (fun p=>(mkDict p.1 []).bind fun d=>some (Own.dict d,p.2))=some (o,fr'):=e
 refine bE2 e fun ps fr1 e1 e=>bE e fun d e2 e=>sp e fun k W s ρ env A Q Ex Rm O q=>?_
 refine wpAny_Dict_walk (knd:=intKind g.prog g.w) (by simp) (by rw[List.length_map,h1,h2]) (by simpa using hne) (by rw[List.length_map];exact hlen) ?_
 have g1:(s.heap.push { cls:=.type "dict",data:=.dict #[] }).get? s.heap.objs.size=some { cls:=.type "dict",data:=.dict #[] }:=Heap.get?_push_size _ rfl
 refine pairs_ok h1 h2 hp fr fr1 ps e1 k W { s with heap:=_ } ρ env A _ Ex Rm (O.push _) fun W1 h1' t1 qs O2 S2 r2=>?_
 refine exE (mk_ok (d0:=[]) (acc:=[]) r2 e2 .nil) fun kvs z=>?_
 have q1:=S2.fgn (O.wf.fresh (c3 _)) g1
 refine⟨kvs,z.1,DictOf.move (new_dict s.heap) (fun o ho=>Option.some.inj (g1.symm.trans ho)▸q1.2),fun h' hd hs=>exE hd fun ob y=>exE y fun _ y=>exE y fun _ y=>?_⟩
 have O3:=(O2.wr (wr:=[s.heap.objs.size]) (fun b hb=>List.mem_singleton.mp hb▸q1.1) (fun b o hb ho=>(hs.2 b fun z=>hb (List.mem_singleton.mpr z)).trans ho)).adopt (.tmp k 0) q1.1 y.1
 refine q _ h' _ _ O3 (fun b o ho hk=>?_) (.dict (not_sys hsm O) bh hd (z.2.stay fun b o eb ho=>?_))
 ·have hb:b≠s.heap.objs.size:=Nat.ne_of_lt (Heap.lt_size ho)
  have:=S2 b o (aA _ _ b o ho) hk
  rw[aU hb]
  exact⟨this.1,(hs.2 b hb).trans this.2⟩
 ·have hb:b≠s.heap.objs.size:=fun z:b=s.heap.objs.size=>nomatch eb.symm.trans (z▸q1.1:W1 b=.fgn)
  exact⟨(aU hb).trans eb,(hs.2 b hb).trans ho⟩
end
section
variable {g:G} {h0:Heap} {N:aR} {n k:Nat} {c:Ctx} {R:Rec} {lo la:Nat} {Φ:Nat→List Own→Option (Own×Own)} {Wf:Nat}
inductive RepOs (g:G) (W:Wd) (h:Heap):Nat→List Own→List Value→Prop
 | nil {k:Nat}:RepOs g W h k [] []
 | cons {k:Nat} {o:Own} {x:Value} {os:List Own} {xs:List Value}:RepO g W h (fun p=>.tmp k p) o x→RepOs g W h (k+1) os xs→RepOs g W h k (o::os) (x::xs)
noncomputable def EvOsAt(g:G)(h0:Heap)(n:Nat)(c:Ctx)(t:Env→Sem (List Value))(fr:Fr)(os:List Own)(fr':Fr):Prop:=∀ (k:Nat) (W:Wd) (s:Shared) (ρ:Nat→Option Value) (env:Env) (A:Around) (Q:List Value→Shared→Prop) (Ex:Value→Shared→Prop),
 Room A n→Ok g h0 c env ρ W s.heap fr→(∀ W' h' t' xs,Ok g h0 c env ρ W' h' fr'→Step k noX W s.heap W' h'→RepOs g W' h' k os xs→Q xs { s with heap:=h',toks:=t' })→wpAny (model g.prog g.w) A (t env) Q Ex s
theorem evOs_cons{pos:Pos}{e:Expr}{es:List Expr}{E:E}{Es:List Mine.E}(hs:az e=true)(hE:EvT g h0 n c (fun env=>eval e env) (R.ev E))(ih:∀ fr fr' os,evOs R Es fr=some (os,fr')→EvOsAt g h0 n c (fun env=>spliced (backTo pos (starEach es env))) fr os fr'):
  ∀ fr fr' os,evOs R (E::Es) fr=some (os,fr')→EvOsAt g h0 n c (fun env=>spliced (backTo pos (starEach (e::es) env))) fr os fr':=fun fr fr' os e'=>
 bE2 e' fun v fr1 e1 e'=>bE2 e' fun ws fr2 e2 e'=>sp e' fun k W s ρ env A Q Ex Rm O q=>by
  dsimp only
  rw[bM hs]
  exact Calls.spliced_cons (hE fr fr1 v e1 k W s ρ env A _ Ex Rm O fun W1 h1 t1 x O1 S1 r1=>ih fr1 fr2 ws e2 (k+1) W1 _ ρ env A _ Ex Rm O1 fun W2 h2 t2 xs O2 S2 r2=>q W2 h2 t2 (x::xs) O2 (S1.trans (S2.mono0 (Nat.le_succ k))) (.cons (r1.stay (S2.tmp (Nat.lt_succ_self k))) r2))
theorem evOs_ok{pos:Pos}{es:List Expr}:∀ {Es:List E},es.length=Es.length→(∀ p∈es.zip Es,az p.1=true∧EvT g h0 n c (fun env=>eval p.1 env) (R.ev p.2))→
  ∀ fr fr' os,evOs R Es fr=some (os,fr')→EvOsAt g h0 n c (fun env=>spliced (backTo pos (starEach es env))) fr os fr':=by
 induction es with
 | nil=>
  intro Es hl _
  cases List.length_eq_zero_iff.mp hl.symm
  exact fun fr fr' os e=>sp e fun k W s ρ env A Q Ex Rm O q=>Calls.spliced_nil (q W s.heap s.toks [] O .refl .nil)
 | cons e es ih=>
  intro Es hl hp
  cases Es with
  | nil=>cases hl
  | cons E Es=>exact evOs_cons (hp (e,E) (List.mem_cons_self ..)).1 (hp (e,E) (List.mem_cons_self ..)).2 (ih (Nat.succ.inj hl) fun p h=>hp p (List.mem_cons_of_mem _ h))
inductive RepOk (g:G) (W:Wd) (h:Heap):List Nat→List Own→List Value→Prop
 | nil:RepOk g W h [] [] []
 | cons {k:Nat} {ks:List Nat} {o:Own} {x:Value} {os:List Own} {xs:List Value}:RepO g W h (fun p=>.tmp k p) o x→RepOk g W h ks os xs→RepOk g W h (k::ks) (o::os) (x::xs)
theorem RepOs.ks{W:Wd}{h:Heap}{k:Nat}{os:List Own}{xs:List Value}(r:RepOs g W h k os xs):RepOk g W h (List.range' k os.length) os xs:=by
 induction r with
 | nil=>exact .nil
 | cons a _ ih=>exact .cons a ih
theorem RepOk.snoc{W:Wd}{h:Heap}{k:Nat}{o:Own}{x:Value}(r:RepO g W h (fun p=>.tmp k p) o x){ks:List Nat}{os:List Own}{xs:List Value}(y:RepOk g W h ks os xs):RepOk g W h (ks++[k]) (os++[o]) (xs++[x]):=by
 induction y with
 | nil=>exact .cons r .nil
 | cons a _ ih=>exact .cons a ih
theorem RepOk.rev{W:Wd}{h:Heap}{ks:List Nat}{os:List Own}{xs:List Value}(y:RepOk g W h ks os xs):RepOk g W h ks.reverse os.reverse xs.reverse:=by
 induction y with
 | nil=>exact .nil
 | cons a _ ih=>rw[List.reverse_cons,List.reverse_cons,List.reverse_cons];exact ih.snoc a
theorem RepOk.store{W W':Wd}{h h':Heap}{kk i:Nat}(hw:∀ a,W' a=setF kk i (W a))(hh:∀ a,W a≠.env→h'.get? a=h.get? a){ks:List Nat}{os:List Own}{xs:List Value}(r:RepOk g W h ks os xs):kk∉ks→RepOk g W' h' ks os xs:=by
 induction r with
 | nil=>intro _;exact .nil
 | @cons k' ks o x os xs a b ih=>
  intro hn
  have hk:k'≠kk:=fun e=>hn (e▸List.mem_cons_self ..)
  exact .cons (RepO.stay (r:=fun p=>.tmp k' p) (fun x o ex ho=>⟨(hw x).trans (ex.elim (fun e=>by rw[e];rfl) fun e=>exE e fun p e=>by rw[e];exact if_neg hk),
   (hh x (ex.elim (fun e=>cb e nofun) fun e=>exE e fun p e=>cb e nofun)).trans ho⟩) a) (ih fun z=>hn (List.mem_cons_of_mem _ z))
theorem stores_ok{α:Type}{env:Env}{X:Role→Addr→Prop}(hX:∀ nm a,nm∈c.asg→Touch env nm a→X .env a)(fn:α→Str×Nat)(t:α→Value→Sem Unit)(ht:∀ x y A s (Q:Unit→Shared→Prop) Ex,wpAny (model g.prog g.w) A (storeName env (fn x).1 y) Q Ex s→wpAny (model g.prog g.w) A (t x y) Q Ex s){ns:List α}:∀ {ks:List Nat} {os:List Own} {ys:List Value},
  (∀ p∈ns,fn p∈c.vars∧(fn p).1∈c.asg∧lo≤(fn p).2)→ks.Nodup→(∀ j∈ks,k≤j)→ns.length=os.length→∀ {fr fr':Fr},bX lo (ns.map fun a=>(fn a).2) os fr=some fr'→∀ (W:Wd) (s:Shared) (ρ:Nat→Option Value) (A:Around) (Q:Unit→Shared→Prop) (Ex:Value→Shared→Prop),
  Ok g h0 c env ρ W s.heap fr→RepOk g W s.heap ks os ys→AsA g h0 c env ρ X k W s fr' (ns.map fun a=>(fn a).2) Q→wpAny (model g.prog g.w) A (assignInOrder (ns.map fun p=>t p) ys) Q Ex s:=by
 induction ns with
 | nil=>
  intro ks os ys _ _ _ hl fr fr' e W s ρ A Q Ex O r q
  cases List.length_eq_zero_iff.mp hl.symm
  cases r
  exact wpAny_assignInOrder_none (q W s.heap s.toks ρ (Option.some.inj e▸O) .refl fun _ _=>rfl)
 | cons z ns ih=>
  intro ks os ys hp nd hk hl fr fr' e W s ρ A Q Ex O r q
  have p:=hp z (List.mem_cons_self ..)
  cases r with
  | nil=>cases hl
  | @cons kk ks o y os ys r1 r2=>
   have nd:=List.nodup_cons.mp nd
   exact ifE e fun _ e=>wpAny_assignInOrder_more (ht z y A s _ Ex (eL (X:=X) (k:=k) (kk:=kk) O p.1 p.2.1 (hk kk (List.mem_cons_self ..)) r1 (fun a=>hX _ a p.2.1) fun h' t' hh O' S'=>
    ih (fun p hpm=>hp p (List.mem_cons_of_mem _ hpm)) nd.2 (fun j hj=>hk j (List.mem_cons_of_mem _ hj)) (Nat.succ.inj hl) e _ { s with heap:=h',toks:=t' } _ A Q Ex O' (r2.store (fun _=>rfl) hh nd.1) fun W2 h2 t2 ρ2 O2 S2 hr=>
     q W2 h2 t2 ρ2 O2 (S'.trans S2) fun j hj=>(hr j fun z=>hj (List.mem_cons_of_mem _ z)).trans (if_neg fun w:j=(fn z).2=>hj (w▸List.mem_cons_self ..))))
end
noncomputable def dF(p:Str×Nat×Pos):Expr:=.Name p.1 p.2.2
theorem fm_len{α β γ:Type}{f:β→Option γ}{q:α→β}{g:α→γ}{c:α→Bool}(hf:∀ x,f (q x)=if c x=true then some (g x) else none){l:List α}:((l.map q).filterMap f).length=(l.map q).length→(l.map q).filterMap f=l.map g:=by
 induction l with
 | nil=>exact fun _=>rfl
 | cons x l ih=>
  intro h
  rw[List.map_cons,List.filterMap_cons,hf x] at h ⊢
  by_cases hc:c x=true
  ·rw[if_pos hc] at h ⊢;exact congrArg (g x::·) (ih (Nat.succ.inj h))
  ·rw[if_neg hc] at h;exact absurd (Nat.le_trans (Nat.le_of_eq h.symm) (List.length_filterMap_le f _)) (Nat.not_succ_le_self _)
theorem ifP{α:Type}{c:Prop} [Decidable c] {P:α→Prop} {a b:α} (h1:c→P a) (h2:¬c→P b):P (if c then a else b):=by
 by_cases h:c
 ·rw[if_pos h];exact h1 h
 ·rw[if_neg h];exact h2 h
theorem orFF{a b:Bool}(h:¬ ((a||b)=true)):a=false∧b=false:=Bool.or_eq_false_iff.mp (Bool.eq_false_iff.mpr h)
theorem bneF{α:Type} [DecidableEq α] {a b:α} (h:(a != b)=false):a=b:=bne_eq_false_iff_eq.mp h
theorem swapped_names(ns:List (Str×Nat×Pos))(vs:List Expr)(kd kd2:Nat)(p p2:Pos)(env:Env)(hc:vs.all (foldedForSure 8)=true∨vs.all (constantsAlone 8)=false):
  swappedStores [.Tuple (ns.map dF) kd p] (.Tuple vs kd2 p2) env=pure none∨swappedStores [.Tuple (ns.map dF) kd p] (.Tuple vs kd2 p2) env=pure (some (ns.map (·.1)))∧vs.length=ns.length:=by
 let P:Sem (Option (List Str))→Prop:=fun r=>r=pure none∨r=pure (some (ns.map (·.1)))∧vs.length=ns.length
 show P _
 refine ifP (P:=P) (fun _=>.inl rfl) fun h1=>?_
 refine ifP (P:=P) (fun _=>.inl rfl) fun _=>?_
 refine ifP (P:=P) (fun _=>.inl rfl) fun h3=>?_
 refine ifP (P:=P) (fun _=>.inl rfl) fun h4=>?_
 refine ifP (P:=P) (fun h5=>absurd h5 (Bool.eq_false_iff.mp (hc.resolve_left h4))) fun _=>.inr ⟨?_,?_⟩
 ·exact congrArg (fun l=>Sem.pure (some l)) (fm_len (q:=dF) (g:=(·.1)) (c:=fun x=>env.kindOf x.1==some .local&&x.2.2.line==((ns.map dF).head?.map fun x=>x.pos.line).getD 0) (fun x=>rfl) (bneF (orFF h3).1))
 ·exact(bneF (orFF fun z=>h1 (Bool.or_eq_true_iff.mpr (.inl z))).2).trans (List.length_map ..)
theorem setAll_snoc{lo i:Nat}{o:Own}{is:List Nat}:∀ {os:List Own} {fr:Fr},is.length=os.length→bX lo (is++[i]) (os++[o]) fr=(bX lo is os fr).bind fun fr=>if lo≤i∧i<fr.length then some (fr.set i o) else none:=by
 induction is with
 | nil=>intro os fr h;cases List.length_eq_zero_iff.mp h.symm;rfl
 | cons j is ih=>
  intro os fr h
  cases os with
  | nil=>cases h
  | cons p os=>
   show (if lo≤j∧j<fr.length then bX lo (is++[i]) (os++[o]) (fr.set j p) else none)=(if lo≤j∧j<fr.length then bX lo is os (fr.set j p) else none).bind _
   by_cases hz:lo≤j∧j<fr.length
   ·rw[if_pos hz,if_pos hz,ih (Nat.succ.inj h)]
   ·rw[if_neg hz,if_neg hz];rfl
theorem setAll_len{lo:Nat}{is:List Nat}:∀ {os:List Own} {fr fr':Fr},bX lo is os fr=some fr'→fr'.length=fr.length∧is.length=os.length:=by
 induction is with
 | nil=>intro os fr fr' e;cases os with | nil=>cases e;exact⟨rfl,rfl⟩ | cons=>cases e
 | cons j is ih=>
  intro os fr fr' e
  cases os with
  | nil=>cases e
  | cons p os=>exact ifE e fun _ e=>⟨(ih e).1.trans (List.length_set ..),congrArg Nat.succ (ih e).2⟩
theorem setAll_comm{lo i:Nat}{o:Own}{is:List Nat}:∀ {os:List Own} {fr:Fr},i∉is→bX lo is os (fr.set i o)=(bX lo is os fr).map fun fr=>fr.set i o:=by
 induction is with
 | nil=>intro os fr _;cases os <;> rfl
 | cons j is ih=>
  intro os fr h
  have hj:i≠j:=fun e=>h (e▸List.mem_cons_self ..)
  cases os with
  | nil=>rfl
  | cons p os=>
   show (if lo≤j∧j<(fr.set i o).length then bX lo is os ((fr.set i o).set j p) else none)=(if lo≤j∧j<fr.length then bX lo is os (fr.set j p) else none).map _
   rw[List.length_set,List.set_comm _ _ hj,ih fun z=>h (List.mem_cons_of_mem _ z)]
   by_cases hz:lo≤j∧j<fr.length
   ·rw[if_pos hz,if_pos hz]
   ·rw[if_neg hz,if_neg hz];rfl
theorem setAll_rev{lo:Nat}{is:List Nat}:∀ {os:List Own} {fr fr':Fr},is.Nodup→bX lo is os fr=some fr'→bX lo is.reverse os.reverse fr=some fr':=by
 induction is with
 | nil=>intro os fr fr' _ e;cases os with | nil=>exact e | cons=>cases e
 | cons j is ih=>
  intro os fr fr' nd e
  have nd:=List.nodup_cons.mp nd
  cases os with
  | nil=>cases e
  | cons p os=>
   refine ifE e fun hz e=>?_
   rw[setAll_comm nd.1] at e
   obtain ⟨fr1,e1,rfl⟩:=Option.map_eq_some_iff.mp e
   have hl:=setAll_len e1
   rw[List.reverse_cons,List.reverse_cons,setAll_snoc (by rw[List.length_reverse,List.length_reverse,hl.2]),ih nd.2 e1]
   exact if_pos ⟨hz.1,hl.1▸hz.2⟩
section
variable {g:G} {h0:Heap} {N:aR} {n k:Nat} {c:Ctx} {R:Rec} {lo la:Nat} {Φ:Nat→List Own→Option (Own×Own)} {Wf:Nat}
theorem evOs_len{Es:List E}:∀ {fr fr1:Fr} {vs:List Own},evOs R Es fr=some (vs,fr1)→vs.length=Es.length:=by
 induction Es with
 | nil=>intro fr fr1 vs e;cases e;rfl
 | cons E Es ih=>intro fr fr1 vs e;exact bE2 e fun v f2 _ e=>bE2 e fun ws f3 e2 e=>sp (P:=fun vs _=>vs.length=Es.length+1) e (congrArg Nat.succ (ih e2))
theorem RepOs.len{W:Wd}{h:Heap}{k:Nat}{os:List Own}{xs:List Value}(r:RepOs g W h k os xs):xs.length=os.length:=by
 induction r with
 | nil=>rfl
 | cons a _ ih=>exact congrArg Nat.succ ih
theorem RepOk.grow{W W':Wd}{h h':Heap}(S:Grow W h W' h'){ks:List Nat}{os:List Own}{xs:List Value}(r:RepOk g W h ks os xs):RepOk g W' h' ks os xs:=by
 induction r with
 | nil=>exact .nil
 | cons a _ ih=>exact .cons (a.stay S.stayR) ih
theorem cG(env:Env)(tn:List (Str×Nat×Pos)):assignEach (tn.map dF) env=tn.map fun p=>(false,assign (dF p) env):=by
 induction tn with
 | nil=>rfl
 | cons p tn ih=>
  show (false,_)::assignEach (tn.map dF) env=_
  rw[ih];rfl
theorem ex_asgTT{tn:List (Str×Nat×Pos)}{es:List Expr}{Es:List E}{kd kd2:Nat}{p p2 pos:Pos}(hn:∀ z∈tn,(z.1,z.2.1)∈c.vars∧z.1∈c.asg∧lo≤z.2.1)(nd:(tn.map (·.2.1)).Nodup)(hl2:tn.length=es.length)
  (hf:es.all (foldedForSure 8)=true∨es.all (constantsAlone 8)=false) (hcap:Es.length≤cap) (hl:es.length=Es.length) (hp:∀ z∈es.zip Es,az z.1=true∧EvT g h0 n c (fun env=>eval z.1 env) (R.ev z.2)):
  ExT g h0 n lo la c (fun env=>exec (.Assign [.Tuple (tn.map dF) kd p] (.Tuple es kd2 p2) pos) env) (aY R lo la Wf (.asgT (tn.map (·.2.1)) Es)):=fun fr fr' f e=>bE2 e fun os fr1 e1 e=>bE e fun fr2 e2 e=>sp e fun k W s ρ env A Q Ex Rm O q=>by
 have lo_s:∀ i,i<lo→i∉tn.map (·.2.1):=fun i hi hm=>exE (List.mem_map.mp hm) fun z hz=>Nat.not_lt.mpr (hn z hz.1).2.2 (hz.2▸hi)
 have hlen:=evOs_len e1
 have hev:∀ (Q:Value→Shared→Prop),(∀ W' h' t' xs a,Ok g h0 c env ρ W' h' fr1→Step k noX W s.heap W' h'→RepOk g W' h' (List.range' k os.length) os xs→xs.length=tn.length→h'.IsTuple a xs.toArray→Q (.ref a) { s with heap:=h',toks:=t' })→wpAny (model g.prog g.w) A (eval (.Tuple es kd2 p2) env) Q Ex s:=fun Q hq=>
  wpAny_Tuple (evOs_ok hl hp fr fr1 os e1 k W s ρ env A _ Ex Rm O fun W1 h1 t1 xs O1 S1 r1=>⟨by rw[r1.len,hlen];exact Nat.le_trans hcap cS,
   hq W1 _ t1 xs h1.objs.size (O1.push _) (S1.trans (ay (aA _ _)).step) (r1.ks.grow (ay (aA _ _))) (by rw[r1.len,hlen,hl2,hl]) (isT (Heap.get?_push_size _ rfl))⟩)
 have hsw:swapsWithSole [.Tuple (tn.map dF) kd p] (.Tuple es kd2 p2) pos.line env=pure false:=swaps_tup (.Tuple es kd2 p2) (tn.map dF) kd p pos.line env
 have ndk:(List.range' k os.length).Nodup:=List.nodup_range'
 have hks:∀ j∈List.range' k os.length,k≤j:=fun j hj=>(List.mem_range'_1.mp hj).1
 have hlo:tn.length=os.length:=by rw[hlen,hl2,hl]
 refine(swapped_names tn es kd kd2 p p2 env hf).elim (fun hw=>?_) fun hw=>?_
 ·refine wpAny_Assign_stores (hev _ fun W1 h1 t1 xs a O1 S1 r1 hxl ht=>?_) hsw hw
  show wpAny _ _ (assign (.Tuple (tn.map dF) kd p) env (.ref a)) _ _ _
  refine wpAny_assign_Tuple Rm.handled ht ?_ ?_ fun h' hex=>?_
  ·rw[cG,List.length_map,List.size_toArray,hxl]
  ·rw[cG];simp [List.findIdx?_eq_none_iff]
  ·have hk:∀ b o,h1.get? b=some o→h'.get? b=some o:=fun b o e=>hex b o (Nat.ne_of_lt (Heap.lt_size e)) e
   have Gr:=ay (W:=W1) hk
   rw[cG,List.map_map]
   exact stores_ok (g:=g) (h0:=h0) (k:=k) (lo:=lo) (c:=c) (X:=stX la) (env:=env) (fun _ _ _ _=>trivial) (fun z:Str×Nat×Pos=>(z.1,z.2.1)) (fun z y=>assign (dF z) env y) (fun x y A s Q Ex h=>wpAny_assign_Name h) hn ndk hks hlo e2
    W1 { s with heap:=h',toks:=t1 } ρ A (fun _=>Q .next) Ex (O1.grow Gr (O1.wf.grow hk)) (r1.grow Gr) fun W2 h2 t2 ρ2 O2 S2 hr=>
     q W2 h2 t2 ρ2 .next O2 ((S1.trans Gr.step).toSt.trans S2) (fun i hi=>hr i (lo_s i hi)) .next
 ·refine PyProof.Rows.Assign_Tuple_swapped (hev _ fun W1 h1 t1 xs a O1 S1 r1 hxl ht=>?_) hsw hw.1
  rw[show (tn.map (·.1)).length=xs.toArray.size by rw[List.length_map,List.size_toArray,hxl]]
  refine wpAny_unpackItems_tuple Rm.handled ht fun h' hex=>?_
  have hk:∀ b o,h1.get? b=some o→h'.get? b=some o:=fun b o e=>hex b o (Nat.ne_of_lt (Heap.lt_size e)) e
  have Gr:=ay (W:=W1) hk
  rw[← List.map_reverse,List.map_map]
  have e3:=setAll_rev nd e2
  rw[← List.map_reverse] at e3
  exact stores_ok (g:=g) (h0:=h0) (k:=k) (lo:=lo) (c:=c) (X:=stX la) (env:=env) (fun _ _ _ _=>trivial) (ns:=tn.reverse) (fun z:Str×Nat×Pos=>(z.1,z.2.1)) (fun z y=>bindName env z.1 y) (fun x y A s Q Ex h=>wpAny_bindName h) (fun z hz=>hn z (List.mem_reverse.mp hz)) ((List.reverse_perm _).nodup_iff.mpr ndk) (fun j hj=>hks j (List.mem_reverse.mp hj)) (by rw[List.length_reverse,List.length_reverse,hlo]) e3
    W1 { s with heap:=h',toks:=t1 } ρ A (fun _=>Q .next) Ex (O1.grow Gr (O1.wf.grow hk)) (r1.grow Gr).rev fun W2 h2 t2 ρ2 O2 S2 hr=>
     q W2 h2 t2 ρ2 .next O2 ((S1.trans Gr.step).toSt.trans S2) (fun i hi=>hr i (by rw[List.map_reverse,List.mem_reverse];exact lo_s i hi)) .next
end
section
variable {g:G} {h0:Heap} {N:aR} {n k:Nat} {c:Ctx} {R:Rec} {lo la:Nat} {Φ:Nat→List Own→Option (Own×Own)} {Wf:Nat}
theorem Repd.getV{W:Wd}{h:Heap}{l:List (Int×V)}:∀ {xs:List (Int×Value)},Repd g W h l xs→∀ {i:Nat} {v:V} {kx:Int×Value},(l.map (·.2))[i]?=some v→xs[i]?=some kx→Rep g W h v kx.2:=by
 induction l with
 | nil=>intro xs _ i v kx e;cases e
 | cons p l ih=>
  intro xs r i v kx e e2
  cases r with
  | cons a b=>cases i with
   | zero=>cases e;cases e2;exact a
   | succ i=>exact ih b (i:=i) e e2
theorem values_walk{W W1:Wd}{s:Shared}{h2:Heap}{t1:Nat}{env:Env}{ρ:Nat→Option Value}{A:Around}{Q:Value→Shared→Prop}{fr1:Fr}{l:List (Int×V)}{d:Addr}{kvs:List (Int×Value)}{ep:Nat}(Rm:Room A n)(O2:Ok g h0 c env ρ W1 h2 fr1)(S2:Step k noX W s.heap W1 h2)(b2:W1 d=.frz)(hat:h2.DictAt (intKind g.prog g.w) d kvs ep)
  (b4:Repd g W1 h2 l kvs) (q:ItQ g h0 c A env ρ k W s (l.map (·.2)) fr1 Q):Q (.ref h2.objs.size) { s with heap:=h2.push { cls:=.type "dict_valueiterator",data:=.fields #[.ref d,.int 0 0,.int kvs.length 0,.int ep 0] },toks:=t1 }:=by
 have wk:=Walks.dictValues (knd:=intKind g.prog g.w) (prog:=g.prog) (w:=g.w) Rm.handled h2.objs.size d (Nat.ne_of_lt hat.lt_size) kvs ep
 rw[show kvs.length=(l.map (·.2)).length by rw[List.length_map,b4.length]] at wk
 refine q W1 ⟨_,s.gens,s.drawn,t1,s.os⟩ h2.objs.size [h2.objs.size,d] [h2.objs.size] _ _ rfl (O2.push _) (S2.trans (ay (aA _ _)).step) (.new (nm:="dict_valueiterator") O2 S2 (by decide) (fun x hx=>List.mem_singleton.mp hx▸b2) (fun i h hh x hx=>exE hh.2 fun o z=>exE z fun _ z=>⟨o,List.mem_singleton.mp hx▸z.1⟩)
  (fun i h hh=>exE hh.1 fun o z=>⟨o,_,z⟩) wk ⟨⟨_,Heap.get?_push_size _ rfl,rfl,by rw[List.length_map,b4.length];rfl⟩,hat.push _⟩ fun i v x W' h' st' hv hP=>exE hP fun kk hP=>((b4.getV hv hP).stay (ay (aA _ _)).stay).stay st')
theorem it_values{o:Expr}{a:E}{apos pos:Pos}(hb:∀ env,attributeBase o "values" env (eval o env)=eval o env)(hline:(apos.endLine==pos.line)=true)(ha:EvT g h0 n c (fun env=>eval o env) (R.ev a)):
  ItT g h0 n c (.Call (.Attribute o "values" apos) [] [] pos) (bZ R (.values a)):=fun fr fr' vs e=>
 bE2 e fun u fr1 e1 e=>bE e fun l hl e=>sp e fun k W s ρ env A Q Ex Rm O q=>by
  refine wpAny_Call_method (T:="dict") (hb env) (by rfl) hline PySem.F.plainAttrs_dict PySem.F.slot_dict_values PySem.F.type_dict_values ?_
  refine ha.v fr fr1 u e1 k W s ρ env A _ Ex Rm O fun W1 h1 t1 y O1 S1 r1=>(eJ hl▸r1:Rep g W1 h1 (.dict l) y).dictE fun d kvs hy b1 b2 b3 b4=>?_
  rw[hy]
  refine⟨b3.typeIs,fun a ea=>by cases ea;exact exE b3 fun o z=>exE z fun es z=>exE z fun ep z=>⟨o,z.1,z.2.1.2.1⟩,PyProof.Rows.callWith_method0 ?_⟩
  refine call_meetsIn (s:={ s with heap:=h1,toks:=t1 }) PySem.F.slot_dict_values b3.typeIs PySem.F.entry_dict_values (PySem.F.args_dict_values_1 _) (meets_dict_values _ d b1) ⟨⟨kvs,b3⟩,?_⟩
  show wpAny _ _ (pyIter (.ref h1.objs.size)) _ _ _
  refine exE b3.dictAt fun ep hat=>?_
  refine wpAny_pyIter_values (s:={ s with heap:=h1.push _,toks:=t1 }) (v:=h1.objs.size) ⟨_,Heap.get?_push_size _ rfl,rfl,rfl⟩ (hat.push _) ?_
  exact values_walk (s:=s) (k:=k) Rm (O1.push _) (S1.trans (ay (aA _ _)).step) b2 (hat.push _) (b4.stay (ay (aA _ _)).stay) q
end
noncomputable def eX(env:Env):List (Str×NameKind)→List (Str×Addr)→List (Str×Addr)
 | [],acc=>acc
 | (x,k)::r,acc=>eX env r (if k==.free then (x,(env.cells.lookup x).getD 0)::acc else acc)
theorem forIn_ok{f:Str×NameKind→List (Str×Addr)→Sem (ForInStep (List (Str×Addr)))}{env:Env}(hf:∀ x k acc,f (x,k) acc=(if (k==.free)=true then do let a ← cellOf env x;pure (ForInStep.yield ((x,a)::acc)) else pure (ForInStep.yield acc))):∀ {l:List (Str×NameKind)} {acc:List (Str×Addr)},(∀ x,(x,NameKind.free)∈l→(env.cells.lookup x).isSome=true)→forIn l acc f=pure (eX env l acc)
 | [],acc,_=>by simp [eX]
 | (x,k)::r,acc,h=>by
  rw[List.forIn_cons,hf]
  by_cases hk:(k==.free)=true
  ·rw[if_pos hk]
   have hx:=h x (by rw[beq_iff_eq.mp hk];exact List.mem_cons_self ..)
   obtain ⟨a,ha⟩:=Option.isSome_iff_exists.mp hx
   have hc:cellOf env x=pure a:=by unfold cellOf;rw[ha]
   rw[hc]
   show (forIn r ((x,a)::acc) f:Sem _)=_
   rw[forIn_ok hf fun y hy=>h y (List.mem_cons_of_mem _ hy)]
   simp only[eX]
   rw[if_pos hk,ha];rfl
  ·rw[if_neg hk]
   show (forIn r acc f:Sem _)=_
   rw[forIn_ok hf fun y hy=>h y (List.mem_cons_of_mem _ hy)]
   simp only[eX]
   rw[if_neg hk]
theorem closure_ok{scope:Scope}{env:Env}(h:∀ x,(x,NameKind.free)∈scope.names→(env.cells.lookup x).isSome=true):closureFor scope env=pure (eX env scope.names []):=by
 simp only[closureFor]
 rw[forIn_ok (env:=env) (fun x k acc=>?_) h]
 ·rfl
 ·dsimp only
theorem clOf_mem{env:Env}{x:Str}{a:Addr}:∀ {l:List (Str×NameKind)} {acc:List (Str×Addr)},(x,a)∈eX env l acc→(x,a)∈acc∨((x,NameKind.free)∈l∧a=(env.cells.lookup x).getD 0)
 | [],acc,h=>.inl h
 | (y,k)::r,acc,h=>by
  simp only[eX] at h
  rcases clOf_mem h with h | ⟨h,e⟩
  ·split at h
   ·rename_i hk
    rcases List.mem_cons.mp h with h | h
    ·cases h
     exact .inr ⟨by rw[beq_iff_eq.mp hk];exact List.mem_cons_self ..,rfl⟩
    ·exact .inl h
   ·exact .inl h
  ·exact .inr ⟨List.mem_cons_of_mem _ h,e⟩
theorem clOf_some{env:Env}{x:Str}:∀ {l:List (Str×NameKind)} {acc:List (Str×Addr)},(x,NameKind.free)∈l∨(acc.lookup x).isSome=true→((eX env l acc).lookup x).isSome=true
 | [],acc,h=>by rcases h with h | h;cases h;exact h
 | (y,k)::r,acc,h=>by
  simp only[eX]
  refine clOf_some ?_
  rcases h with h | h
  ·rcases List.mem_cons.mp h with h | h
   ·cases h;right;simp
   ·exact .inl h
  ·right
   split
   ·rw[List.lookup_cons];split <;> first | rfl | exact h
   ·exact h
theorem g5{env:Env}{scope:Scope}{x:Str}:(relabel scope env).names.lookup x=(scope.names.lookup x).map fun k=>if (k==NameKind.free&&env.scope.kind==.function&&env.kindOf x==some .cell)=true then .cell else k:=by
 unfold relabel
 dsimp only
 generalize scope.names=l
 induction l with
 | nil=>rfl
 | cons p l ih=>
  obtain ⟨y,k⟩:=p
  rw[List.map_cons,List.lookup_cons]
  by_cases hk:(k==NameKind.free&&env.scope.kind==.function&&env.kindOf y==some .cell)=true
  ·simp only[if_pos hk]
   rw[List.lookup_cons]
   split
   ·rename_i h;rw[beq_iff_eq.mp h];simp only[Option.map_some,if_pos hk]
   ·exact ih
  ·simp only[if_neg hk]
   rw[List.lookup_cons]
   split
   ·rename_i h;rw[beq_iff_eq.mp h];simp only[Option.map_some,if_neg hk]
   ·exact ih
structure f7 (c:Ctx) (t:T) (scope:Scope) (c':Ctx):Prop where
 kind:scope.kind=.function
 noCell:∀ x∈scope.names,x.2≠.cell
 loc:∀ x∈scope.names,x.2=.local→scope.names.lookup x.1=some .local
 vars:∀ x i,(x,i)∈c'.vars→(scope.names.lookup x=some .local∧i∈t.slots)∨(scope.names.lookup x=some .free∧(x,i)∈c.vars∧i∉t.slots)
 free:∀ x,(x,NameKind.free)∈scope.names→x∈c.cel∧∃ i,(x,i)∈c.vars
 glob:∀ x∈c'.globs,scope.names.lookup x=some .globalImplicit
 inj:∀ x i y j,(x,i)∈c'.vars→(y,j)∈c'.vars→(x=y↔i=j)
 asg:∀ x∈c'.asg,scope.names.lookup x=some .local
 asgn:∀ x∈c'.asg,(x,NameKind.free)∉scope.names
 cel:∀ x∈c'.cel,scope.names.lookup x=some .free
theorem slots_clear:∀ (t:T) (fr:Fr),(∀ i,i∉t.slots→(t.clear fr)[i]?=fr[i]?)∧(∀ i,i∈t.slots→∀ o,(t.clear fr)[i]?=some o→o=.v .undef):=by
 have key:∀ (n:Nat),(∀ (t:T),sizeOf t<n→∀ (fr:Fr),(∀ i,i∉t.slots→(t.clear fr)[i]?=fr[i]?)∧(∀ i,i∈t.slots→∀ o,(t.clear fr)[i]?=some o→o=.v .undef))∧
   (∀ (ts:List T),sizeOf ts<n→∀ (fr:Fr),(∀ i,i∉dp ts→(eW ts fr)[i]?=fr[i]?)∧(∀ i,i∈dp ts→∀ o,(eW ts fr)[i]?=some o→o=.v .undef)):=by
  intro n
  induction n with
  | zero=>exact⟨fun t h=>absurd h (Nat.not_lt_zero _),fun t h=>absurd h (Nat.not_lt_zero _)⟩
  | succ n ih=>
   refine⟨fun t h fr=>?_,fun ts h fr=>?_⟩
   ·cases t with
    | var j=>
     refine⟨fun i hi=>?_,fun i hi o ho=>?_⟩
     ·simp [T.slots] at hi
      rw[T.clear,List.getElem?_set_ne (fun e=>hi e.symm)]
     ·simp [T.slots] at hi;subst hi
      rw[T.clear,List.getElem?_set] at ho
      split at ho
      ·split at ho <;> cases ho;rfl
      ·rename_i hh;exact absurd rfl hh
    | tup ts=>
     have:=ih.2 ts (by simp at h;lia) fr
     simpa [T.slots,T.clear] using this
   ·cases ts with
    | nil=>exact⟨fun i _=>rfl,fun i hi=>by simp [dp] at hi⟩
    | cons t ts=>
     simp at h
     have a:=ih.1 t (by lia) fr
     have b:=ih.2 ts (by lia) (t.clear fr)
     refine⟨fun i hi=>?_,fun i hi o ho=>?_⟩
     ·simp only[dp,List.mem_append,not_or] at hi
      rw[eW,b.1 i hi.2,a.1 i hi.1]
     ·simp only[dp,List.mem_append] at hi
      rw[eW] at ho
      by_cases h2:i∈dp ts
      ·exact b.2 i h2 o ho
      ·rw[b.1 i h2] at ho
       exact a.2 i (hi.resolve_right h2) o ho
 exact fun t fr=>(key (sizeOf t+1)).1 t (Nat.lt_succ_self _) fr
theorem compLoop_gen{prog:Program}{w:World}{A:Around}{R:Result→Shared→Prop}{s:Shared}{elt target iter:Expr}{ifs:List Expr}{scope:Scope}{pos:Pos}{it acc:Value}{env:Env}(I:Nat→Shared→Prop)
  (turn:∀ n s,I n s→wpAny (model prog w) A (pyNext it) (fun r s₁=>match r with
   | none=>R (.ok .next) s₁
   | some v=>wpAny (model prog w) A (PySem.letOwnedTupleGo target it v) (fun _ s₀=>wpAny (model prog w) A (assign target env v) (fun _ s₂=>
     wpAny (model prog w) A (forIn ifs true fun c r=>if r=true then do let ok ← isTrue c env (eval c env);pure (ForInStep.yield ok) else pure (ForInStep.yield r)) (fun ok s₃=>
      if ok=true then wpAny (model prog w) A (eval elt env) (fun x s₄=>
       wpAny (model prog w) A (call (.builtin "list.append") [acc,x]) (fun _ s₅=>∃ m,m<n∧I m s₅) (notedBy (model prog w) A env fun e s'=>R (.error e) s') s₄) (notedBy (model prog w) A env fun e s'=>R (.error e) s') s₃
      else ∃ m,m<n∧I m s₃) (notedBy (model prog w) A env fun e s'=>R (.error e) s') s₂) (notedBy (model prog w) A env fun e s'=>R (.error e) s') s₀) (notedBy (model prog w) A env fun e s'=>R (.error e) s') s₁) (notedBy (model prog w) A env fun e s'=>R (.error e) s') s)
  (n:Nat) (h:I n s):
  codeAny (model prog w) A (.compLoop (.ListComp elt [⟨target,iter,ifs,0⟩] scope pos) 0 it acc env) R s:=by
 refine codeAny_loop rfl I (fun n s hI=>?_) n h
 show wpAny _ A ((compTurn (.ListComp elt [⟨target,iter,ifs,0⟩] scope pos) 0 it acc env).onRaise (fun x=>do noteFrame x env;theTreesLotGoes x)) _ _ s
 refine wpAny_noted ?_
 rw[compTurn_list]
 refine wpAny_bind (wpAny_standAt (wpAny_bind (wpAny_mono (turn n s hI) (fun r s₁ h₁=>?_) fun _ _ h'=>h')))
 cases r with
 | none=>exact wpAny_pure h₁
 | some v=>
  refine wpAny_bind (wpAny_mono h₁ (fun _ s₀ h₀=>?_) fun _ _ h'=>h')
  refine wpAny_bind (wpAny_mono h₀ (fun _ s₂ h₂=>wpAny_bind (wpAny_mono h₂ (fun ok s₃ h₃=>?_) fun _ _ h'=>h')) fun _ _ h'=>h')
  cases ok with
  | false=>exact wpAny_pure ⟨rfl,h₃⟩
  | true=>
   exact wpAny_bind (wpAny_bind (wpAny_mono h₃ (fun x s₄ h₄=>wpAny_bind (wpAny_mono h₄ (fun _ s₅ h₅=>wpAny_pure (wpAny_pure ⟨rfl,h₅⟩)) fun _ _ h'=>h')) fun _ _ h'=>h'))
section
variable {g:G} {h0:Heap} {N:aR} {n k:Nat} {c c':Ctx} {R:Rec} {lo la:Nat} {Φ:Nat→List Own→Option (Own×Own)} {Wf:Nat} {env:Env} {ρ:Nat→Option Value} {W:Wd} {h h':Heap} {fr:Fr}
theorem comp_kind{t:T}{scope:Scope}(CC:f7 c t scope c'){cl:List (Str×Addr)}{C:Addr}{x:Str}{kd:NameKind}(e:scope.names.lookup x=some kd)(hne:kd≠.free):(compEnvC scope cl C env).kindOf x=some kd:=by
 show (relabel scope env).names.lookup x=some kd
 rw[g5,e,Option.map_some,if_neg]
 simp [hne]
theorem comp_free{t:T}{scope:Scope}(CC:f7 c t scope c'){cl:List (Str×Addr)}{C:Addr}{x:Str}(e:scope.names.lookup x=some .free):(compEnvC scope cl C env).kindOf x=some .cell∨(compEnvC scope cl C env).kindOf x=some .free:=by
 have:(compEnvC scope cl C env).kindOf x=(some NameKind.free).map _:=(g5 (env:=env) (scope:=scope) (x:=x)).trans (by rw[e])
 rw[Option.map_some] at this
 split at this
 ·exact .inl this
 ·exact .inr this
noncomputable def ρoff(t:T)(ρ:Nat→Option Value):Nat→Option Value:=fun i=>if i∈t.slots then none else ρ i
theorem EnvOK.freeCell{t:T}{scope:Scope}(CC:f7 c t scope c')(x:EnvOK W h env c ρ){y:Str}(hy:(y,NameKind.free)∈scope.names):∃ i a,(y,i)∈c.vars∧env.cells.lookup y=some a∧W a=.env∧h.IsCell a (ρ i):=
 exE (CC.free y hy).2 fun i f2=>(x.var y i f2).elim (fun e=>(x.cel y (CC.free y hy).1).elim (fun z=>nomatch e.symm.trans z) fun z=>nomatch e.symm.trans z) fun e=>exE e.2 fun a z=>⟨i,a,f2,z.1,z.2.1,z.2.2⟩
theorem EnvOK.comp{t:T}{scope:Scope}(CC:f7 c t scope c')(x:EnvOK W h env c ρ){C:Addr}(hC:h.get? C=none)(hG:∀ a o,h.get? a=some o→W a=.env→h'.get? a=some o)(hN:h'.Ns C fun _=>none){W':Wd}(hW:∀ a o,h.get? a=some o→W' a=W a)(hWC:W' C=.env):
  EnvOK W' h' (compEnvC scope (eX env scope.names []) C env) c' (ρoff t ρ)∧∀ y,(y,NameKind.free)∈scope.names→(env.cells.lookup y).isSome=true:=by
 have cell:=fun y hy=>x.freeCell CC (y:=y) hy
 have hne:∀ a o,h.get? a=some o→a≠C:=fun a o ho (e:a=C)=>nomatch (e▸ho).symm.trans hC
 have clm:∀ y a,(eX env scope.names []).lookup y=some a→env.cells.lookup y=some a∧W a=.env∧a≠C:=fun y a e=>(clOf_mem (bA e)).elim nofun fun z=>exE (cell y z.1) fun i w=>exE w fun b w=>by
  have hb:a=b:=by rw[z.2,w.2.1];rfl
  rw[hb]
  exact⟨w.2.1,w.2.2.1,exE w.2.2.2 fun o ho=>hne _ _ ho.1⟩
 have noF:∀ {y i},(y,NameKind.free)∈scope.names→(y,i)∈c.vars→∃ b,env.cells.lookup y=some b∧W b=.env∧h.IsCell b (ρ i):=fun {y i} hy hv=>(x.var y i hv).elim (fun e=>(x.cel y (CC.free y hy).1).elim (fun z=>nomatch e.symm.trans z) fun z=>nomatch e.symm.trans z) fun e=>e.2
 refine⟨⟨CC.kind,x.glob,x.bi,hWC,⟨_,hN,fun y i hy hk=>?_⟩,fun y i hy=>?_,fun y hy=>comp_kind CC (CC.glob y hy) nofun,CC.inj,fun y hy=>.inl (comp_kind CC (CC.asg y hy) nofun),fun y z a h1 h2=>x.celln y z a (clm y a h1).1 (clm z a h2).1,fun y e=>(clm y _ e).2.2 rfl,fun y hy=>comp_free CC (CC.cel y hy)⟩,
  fun y hy=>exE (cell y hy) fun i w=>exE w fun b w=>by rw[w.2.1];rfl⟩
 ·exact(CC.vars y i hy).elim (fun v=>(if_pos v.2).symm) fun v=>(comp_free (env:=env) CC (cl:=eX env scope.names []) (C:=C) v.1).elim (fun z=>nomatch hk.symm.trans z) fun z=>nomatch hk.symm.trans z
 ·refine(CC.vars y i hy).elim (fun v=>.inl (comp_kind CC v.1 nofun)) fun v=>.inr ⟨comp_free CC v.1,?_⟩
  refine exE (Option.isSome_iff_exists.mp (clOf_some (env:=env) (acc:=[]) (.inl (bA v.1)))) fun a ha=>exE (noF (bA v.1) v.2.1) fun b e=>?_
  have hab:a=b:=Option.some.inj ((clm y a ha).1.symm.trans e.1)
  have hρ:ρoff t ρ i=ρ i:=if_neg v.2.2
  rw[hρ]
  exact exE e.2.2 fun o w=>⟨a,ha,by rw[hab,hW b o w.1];exact e.2.1,o,hab▸hG b o w.1 e.2.1,w.2⟩
theorem Ok.chg{D:Addr}{j p:Nat}(O:Ok g h0 c env ρ W h fr)(hw:W D=.tmp j p)(hk:∀ b o,b≠D→h.get? b=some o→h'.get? b=some o)(hD:∃ o,h'.get? D=some o):Ok g h0 c env ρ W h' fr:=by
 have K:∀ {a o r},W a=r→r≠.tmp j p→h.get? a=some o→h'.get? a=some o:=fun {a o r} e n ho=>hk a o (fun z:a=D=>n (e.symm.trans (z.symm▸hw))) ho
 exact⟨⟨fun a o ho=>⟨(O.wf.base a o ho).1,K (O.wf.base a o ho).1 nofun (O.wf.base a o ho).2⟩,fun a ha=>by
   by_cases e:a=D
   ·exact e▸hD
   ·exact exE (O.wf.live a ha) fun o ho=>⟨o,hk a o e ho⟩⟩,O.env.move fun a o e ho=>⟨e,K e nofun ho⟩,
  fun i o e=>(O.st i o e).imp id fun z=>exE z fun z q=>⟨z,q.1,RepO.stay (r:=fun p=>.slot i p) (fun a ob ha ho=>⟨rfl,ha.elim (fun e=>K e nofun ho) fun e=>exE e fun p e=>K e nofun ho⟩) q.2⟩⟩
end
noncomputable def IfsT(g:G)(h0:Heap)(n:Nat)(c:Ctx)(ifs:List Expr)(ir:Fr→Option (Bool×Fr)):Prop:=
 BoT g h0 n c (fun env=>forIn ifs true fun c r=>if r=true then do let ok ← isTrue c env (eval c env);pure (ForInStep.yield ok) else pure (ForInStep.yield r)) ir
section
variable {g:G} {h0:Heap} {n:Nat} {c:Ctx} {R:Rec}
theorem ifs_none:IfsT g h0 n c [] (fun fr=>some (true,fr)):=by
 exact fun fr fr' b e=>sp e fun k W s ρ env A Q Ex Rm O q=>wpAny_tests_nil (q W s.heap s.toks O .refl)
theorem ifs_one{x:Expr}{a:E}(h:BoT g h0 n c (fun env=>isTrue x env (eval x env)) (evB R a)):IfsT g h0 n c [x] (evB R a):=by
 intro fr fr' b e k W s ρ env A Q Ex Rm O q
 exact wpAny_tests_one (h fr fr' b e k W s ρ env A Q Ex Rm O q)
end
noncomputable def fI(R:Rec)(cnd:Option E)(fr:Fr):Option (Bool×Fr):=match cnd with
 | none=>some (true,fr)
 | some c=>evB R c fr
theorem compL_cons{R:Rec}{lo:Nat}{t:T}{cnd:Option E}{elt:E}{x:V}{xs acc:List V}{fr:Fr}:bt R lo t cnd elt (x::xs) acc fr=(cj lo t x fr).bind fun fr=>(fI R cnd fr).bind fun p=>
  if p.1 then (evV R elt p.2).bind fun q=>if acc.length<cap then bt R lo t cnd elt xs (acc++[q.1]) q.2 else none else bt R lo t cnd elt xs acc p.2:=by
 cases cnd <;> rfl
noncomputable def Xc(C:Addr):Role→Addr→Prop:=fun r a=>r=.env∧a=C
section
variable {g:G} {h0:Heap} {N:aR} {n k:Nat} {c c':Ctx} {R:Rec} {lo la:Nat} {Φ:Nat→List Own→Option (Own×Own)} {Wf:Nat}
theorem kept_any{X:Role→Addr→Prop}{W:Wd}{a:Addr}:kept k X W a→kept k noX W a:=by
 unfold kept
 cases W a with
 | env=>exact fun _=>id
 | slot i p=>exact fun x=>⟨x.1,id⟩
 | _=>exact id
theorem kept_xc{C:Addr}{W:Wd}{a:Addr}(e:a≠C):kept k noX W a→kept k (Xc C) W a:=by
 unfold kept
 cases W a with
 | env=>exact fun _ z=>e z.2
 | slot i p=>exact fun x=>⟨x.1,fun z=>e z.2⟩
 | _=>exact id
structure CI (g:G) (h0:Heap) (c':Ctx) (cenv:Env) (t:T) (k:Nat) (W:Wd) (h:Heap) (ρ:Nat→Option Value) (W1:Wd) (h1:Heap) (fp wr:List Addr) (Sx:Nat→Heap→Prop) (C D:Addr) (i:Nat) (W2:Wd) (h2:Heap) (ρ2:Nat→Option Value) (fr2:Fr) (acc:List V) (ys:List Value) (m:Nat):Prop where
 ok:Ok g h0 c' cenv ρ2 W2 h2 fr2
 st:Step k (Xc C) W h W2 h2
 rho:∀ j,j∉t.slots→ρ2 j=ρ j
 sx:Sx i h2
 fpr:∀ x∈fp,W2 x=.fgn∨W2 x=.frz
 wrr:∀ x∈wr,W2 x=.fgn
 stay:cy W1 h1 W2 h2
 wD:W2 D=.tmp k 0
 oD:h2.get? D=some (bO ys m)
 rD:Reps g W2 h2 acc ys
section
variable {cenv:Env} {t:T} {W W1 W2 W5:Wd} {h h1 h2 h5:Heap} {ρ ρ2 ρ5:Nat→Option Value} {fp wr:List Addr} {Sx:Nat→Heap→Prop} {C D:Addr} {i j m:Nat} {fr2 fr5:Fr} {acc:List V} {ys:List Value}
theorem CI.moved(I:CI g h0 c' cenv t k W h ρ W1 h1 fp wr Sx C D i W2 h2 ρ2 fr2 acc ys m)(hn:∀ b∈wr,∀ o,h.get? b=some o→¬ kept k noX W b)(hk:∀ b o,b∉wr→h2.get? b=some o→h5.get? b=some o)(hx:Sx j h5):CI g h0 c' cenv t k W h ρ W1 h1 fp wr Sx C D j W2 h5 ρ2 fr2 acc ys m:=
 have fz:∀ {a o},W2 a≠.fgn→h2.get? a=some o→h5.get? a=some o:=fun n ho=>hk _ _ (fun hm=>n (I.wrr _ hm)) ho
 ⟨I.ok.wr I.wrr hk,I.st.wr (fun b hb o ho z=>hn b hb o ho (kept_any z)) hk,I.rho,hx,I.fpr,I.wrr,fun a o ea ho=>have q:=I.stay a o ea ho;⟨q.1,fz (cb q.1 nofun) q.2⟩,I.wD,fz (cb I.wD nofun) I.oD,I.rD.stay fun a o ea ho=>⟨ea,fz (cb ea nofun) ho⟩⟩
theorem CI.ran(I:CI g h0 c' cenv t k W h ρ W1 h1 fp wr Sx C D i W2 h2 ρ2 fr2 acc ys m)(hex:∀ i h,Sx i h→∀ x∈fp,∃ o,h.get? x=some o)(hfr:∀ i h h',Sx i h→(∀ b∈fp,∀ o,h.get? b=some o→h'.get? b=some o)→Sx i h')(hsub:∀ b∈wr,b∈fp)
  (O5:Ok g h0 c' cenv ρ5 W5 h5 fr5) (S:Step (k+1) (Xc C) W2 h2 W5 h5) (hr:∀ j,j∉t.slots→ρ5 j=ρ2 j):CI g h0 c' cenv t k W h ρ W1 h1 fp wr Sx C D i W5 h5 ρ5 fr5 acc ys m:=
 have tD:=S.tmp (Nat.lt_succ_self k) D _ (.inr ⟨0,I.wD⟩) I.oD
 ⟨O5,I.st.trans (S.mono (Nat.le_succ k) fun _ _ z=>.inl z),fun j hj=>(hr j hj).trans (I.rho j hj),hfr i h2 h5 I.sx fun b hb o ho=>(I.fpr b hb).elim (fun e=>(S.fgn e ho).2) fun e=>(S.stay b o e ho).2,
  fun x hx=>exE (hex i h2 I.sx x hx) fun o ho=>(I.fpr x hx).imp (fun e=>(S.fgn e ho).1) fun e=>(S.stay x o e ho).1,fun x hx=>exE (hex i h2 I.sx x (hsub x hx)) fun o ho=>(S.fgn (I.wrr x hx) ho).1,fun a o ea ho=>have q:=I.stay a o ea ho;S.stay a o q.1 q.2,
  tD.1.trans I.wD,tD.2,I.rD.stay S.stay⟩
theorem CI.grown(I:CI g h0 c' cenv t k W h ρ W1 h1 fp wr Sx C D i W2 h2 ρ2 fr2 acc ys m)(hfr:∀ i h h',Sx i h→(∀ b∈fp,∀ o,h.get? b=some o→h'.get? b=some o)→Sx i h')(hD:∀ o,h.get? D=some o→¬ kept k noX W D){u:V}{y:Value}{m':Nat}(r:Rep g W2 h2 u y)
  (hk:∀ b o,b≠D→h2.get? b=some o→h5.get? b=some o) (hp:h5.get? D=some (bO (ys++[y]) m')):CI g h0 c' cenv t k W h ρ W1 h1 fp wr Sx C D i W2 h5 ρ2 fr2 (acc++[u]) (ys++[y]) m':=
 have ne:∀ {a r},W2 a=r→r≠.tmp k 0→a≠D:=fun {a r} e n (z:a=D)=>n (e.symm.trans (z.symm▸I.wD))
 have st7:cy W2 h2 W2 h5:=fun a o ea ho=>⟨ea,hk a o (ne ea nofun) ho⟩
 ⟨I.ok.chg I.wD hk ⟨_,hp⟩,fun a o ho hq=>⟨(I.st a o ho hq).1,hk a o (fun e=>hD o (e▸ho) (kept_any (e▸hq))) (I.st a o ho hq).2⟩,I.rho,hfr i h2 h5 I.sx fun b hb o ho=>hk b o ((I.fpr b hb).elim (fun e=>ne e nofun) fun e=>ne e nofun) ho,I.fpr,I.wrr,
  fun a o ea ho=>have q:=I.stay a o ea ho;⟨q.1,hk a o (ne q.1 nofun) q.2⟩,I.wD,hp,(I.rD.append (.cons r .nil)).stay st7⟩
theorem CI.first{scope:Scope}{env:Env}{fr1:Fr}(CC:f7 c t scope c')(O1:Ok g h0 c env ρ W1 h1 fr1)(S1:Step k noX W h W1 h1)(hDn:h1.get? D=none)(hCn:h1.get? C=none)(hDC:D≠C)(old:∀ b o,h1.get? b=some o→h5.get? b=some o)(hDo:h5.get? D=some (bO [] 0))(hN:h5.Ns C fun _=>none)
  (hst:Sx 0 h5) (roles:∀ x∈fp,W1 x=.fgn∨W1 x=.frz) (own:∀ x∈wr,W1 x=.fgn) (ex1:∀ x∈fp,∃ o,h1.get? x=some o) (sub:∀ b∈wr,b∈fp):
  CI g h0 c' (compEnvC scope (eX env scope.names []) C env) t k W h ρ W1 h1 fp wr Sx C D 0 (put (put W1 D (.tmp k 0)) C .env) h5 (ρoff t ρ) (t.clear fr1) [] [] 0:=by
 have e:∀ {a o},h1.get? a=some o→put (put W1 D (.tmp k 0)) C .env a=W1 a:=fun {a o} ho=>(aU fun z:a=C=>nomatch (z▸ho:h1.get? C=some o).symm.trans hCn).trans (aU fun z:a=D=>nomatch (z▸ho:h1.get? D=some o).symm.trans hDn)
 have G2:Grow W1 h1 (put (put W1 D (.tmp k 0)) C .env) h5:=fun a o ho=>⟨e ho,old a o ho⟩
 have w2:WF h0 (put (put W1 D (.tmp k 0)) C .env) h5:=G2.wf O1.wf fun a ha=>by
  by_cases z1:a=C
  ·exact .inr (exE hN fun o z=>exE z fun _ z=>exE z fun _ z=>⟨o,z1▸z.1⟩)
  by_cases z2:a=D
  ·exact .inr ⟨_,z2▸hDo⟩
  ·exact .inl (O1.wf.live a fun z=>ha ((aU z1).trans ((aU z2).trans z)))
 have E:=O1.env.comp (t:=t) CC hCn (fun a o ho _=>old a o ho) hN (fun a o ho=>e ho) bh
 have cl:=slots_clear t fr1
 refine⟨⟨w2,E.1,fun i o ho=>?_⟩,(S1.mono0 (Nat.le_refl _)).trans G2.step,fun j hj=>if_neg hj,hst,fun x hx=>exE (ex1 x hx) fun o ho=>(e ho).symm▸roles x hx,fun x hx=>exE (ex1 x (sub x hx)) fun o ho=>(e ho).trans (own x hx),G2.stay,(aU hDC).trans bh,hDo,.nil⟩
 by_cases hi:i∈t.slots
 ·exact .inl (cl.2 i hi o ho)
 ·rw[cl.1 i hi] at ho
  exact(O1.st.grow G2 i o ho).imp id fun z=>exE z fun x z=>⟨x,(if_neg hi).trans z.1,z.2⟩
end
theorem CI.weak{cenv:Env}{t:T}{W W1 W2:Wd}{h h1 h2:Heap}{ρ ρ2:Nat→Option Value}{fp wr:List Addr}{Sx:Nat→Heap→Prop}{C D:Addr}{i m:Nat}{fr2:Fr}{acc:List V}{ys:List Value}(I:CI g h0 c' cenv t k W h ρ W1 h1 fp wr Sx C D i W2 h2 ρ2 fr2 acc ys m):
  CI g h0 c' cenv t k W h ρ W1 h1 fp wr (fun _ _=>True) C D i W2 h2 ρ2 fr2 acc ys m:=⟨I.ok,I.st,I.rho,trivial,I.fpr,I.wrr,I.stay,I.wD,I.oD,I.rD⟩
theorem CI.done{cenv env:Env}{t:T}{W W1 W2:Wd}{h h1 h2:Heap}{ρ ρ2:Nat→Option Value}{fp wr:List Addr}{Sx:Nat→Heap→Prop}{C D:Addr}{i m:Nat}{fr0 frE:Fr}{out:List V}{ys:List Value}(I:CI g h0 c' cenv t k W h ρ W1 h1 fp wr Sx C D i W2 h2 ρ2 frE out ys m)(O:Ok g h0 c env ρ W h fr0)(hloc:cenv.locals=C)
  (hC:∀ o,h.get? C=some o→¬ kept k noX W C) (hDC:D≠C):Ok g h0 c env ρ (put W2 C .fgn) h2 (t.clear frE)∧Step k noX W h (put W2 C .fgn) h2∧(∃ m,h2.Ns C m)∧put W2 C .fgn D=.tmp k 0∧Reps g (put W2 C .fgn) h2 out ys:=by
 have W2C:W2 C=.env:=hloc▸I.ok.env.locW
 have pn:∀ {a r},W2 a=r→r≠.env→put W2 C .fgn a=r:=fun {a r} e n=>(aU fun z:a=C=>n (e.symm.trans (z.symm▸W2C))).trans e
 have S4:Step k noX W h (put W2 C .fgn) h2:=fun a o ho hq=>by
  by_cases e:a=C
  ·exact absurd (e▸hq) (hC o (e▸ho))
  ·rw[aU e];exact I.st a o ho (kept_xc e hq)
 have cl:=slots_clear t frE
 refine⟨⟨⟨fun a o ho=>⟨pn (I.ok.wf.base a o ho).1 nofun,(I.ok.wf.base a o ho).2⟩,fun a ha=>?_⟩,O.env.step S4,fun j o ho=>?_⟩,S4,exE I.ok.env.loc fun m hm=>⟨m,hloc▸hm.1⟩,pn I.wD nofun,I.rD.stay fun a o e ho=>⟨pn e nofun,ho⟩⟩
 ·by_cases e:a=C
  ·exact absurd (e▸bh) ha
  ·rw[aU e] at ha;exact I.ok.wf.live a ha
 ·by_cases hj:j∈t.slots
  ·exact .inl (cl.2 j hj o ho)
  ·rw[cl.1 j hj] at ho
   exact(I.ok.st j o ho).imp id fun z=>exE z fun x z=>⟨x,(I.rho j hj)▸z.1,RepO.stay (r:=fun p=>.slot j p) (fun a o ea ho=>⟨ea.elim (fun e=>(pn e nofun).trans e.symm) fun e=>exE e fun p e=>(pn e nofun).trans e.symm,ho⟩) z.2⟩
structure CoP where
 i:Nat
 W:Wd
 h:Heap
 t:Nat
 ρ:Nat→Option Value
 fr:Fr
 acc:List V
 ys:List Value
 m:Nat
structure CoJ (g:G) (h0:Heap) (c':Ctx) (R:Rec) (lo:Nat) (cenv:Env) (t:T) (cnd:Option E) (eltE:E) (k:Nat) (W:Wd) (s:Shared) (ρ:Nat→Option Value) (W1:Wd) (h1:Heap) (fp wr:List Addr) (Sx:Nat→Heap→Prop) (C D:Addr) (vs out:List V) (frE:Fr) (m:Nat) (s2:Shared) (p:CoP):Prop where
 num:m=vs.length - p.i
 le:p.i≤vs.length
 at_:s2={ s with heap:=p.h,toks:=p.t }
 inv:CI g h0 c' cenv t k W s.heap ρ W1 h1 fp wr Sx C D p.i p.W p.h p.ρ p.fr p.acc p.ys p.m
 em:bt R lo t cnd eltE (vs.drop p.i) p.acc p.fr=some (out,frE)
theorem comp_loop{t:T}{e iter elt:Expr}{ifs:List Expr}{cnd:Option E}{eltE:E}{scope:Scope}{pos:Pos}{vs:List V}{A:Around}(ht:TgE c' t e)(hif:IfsT g h0 n c' ifs (fI R cnd))(he:EvVT g h0 n c' (fun env=>eval elt env) (evV R eltE))
  {fr0 fr2 frE:Fr} {out:List V} (em0:bt R lo t cnd eltE vs [] fr2=some (out,frE)) {W W1 W2:Wd} {s s1:Shared} {ρ ρ2:Nat→Option Value} {env cenv:Env} {I C D:Addr} {fp wr:List Addr} {P:Nat→Value→Prop} {Sx:Nat→Heap→Prop} {h₁:Heap} {t1:Nat} (Rm:Room A n) (O:Ok g h0 c env ρ W s.heap fr0)
  (X:Iter g A k W s vs W1 s1 I fp wr P Sx) (hloc:cenv.locals=C) (hX:∀ nm a,nm∈c'.asg→Touch cenv nm a→Xc C .env a) (hC:∀ o,s.heap.get? C=some o→¬ kept k noX W C) (hD:∀ o,s.heap.get? D=some o→¬ kept k noX W D) (hDC:D≠C) (J0:CI g h0 c' cenv t k W s.heap ρ W1 s1.heap fp wr Sx C D 0 W2 h₁ ρ2 fr2 [] [] 0) {Rz:Result→Shared→Prop}
  (q:∀ W' h' t' ys m,Ok g h0 c env ρ W' h' (t.clear frE)→Step k noX W s.heap W' h'→W' C=.fgn→(∃ m,h'.Ns C m)→W' D=.tmp k 0→h'.get? D=some (bO ys m)→Reps g W' h' out ys→Rz (.ok .next) { s with heap:=h',toks:=t' }):
  codeAny (model g.prog g.w) A (.compLoop (.ListComp elt [⟨e,iter,ifs,0⟩] scope pos) 0 (.ref I) (.ref D) cenv) Rz { s with heap:=h₁,toks:=t1 }:=by
 have hn:∀ b∈wr,∀ o,s.heap.get? b=some o→¬ kept k noX W b:=fun b hb=>(X.own b hb).2
 refine compLoop_gen (fun m s2=>∃ p,CoJ g h0 c' R lo cenv t cnd eltE k W s ρ W1 s1.heap fp wr Sx C D vs out frE m s2 p) ?_ vs.length ⟨⟨0,W2,h₁,t1,ρ2,fr2,[],[],0⟩,rfl,Nat.zero_le _,rfl,J0,em0⟩
 refine fun m s2 J=>exE J fun p J=>?_
 have em:=J.em
 have F:=J.inv
 rw[J.at_]
 by_cases hlt:p.i<vs.length
 ·refine X.wk.item p.i _ _ _ hlt F.sx fun v h' tk hPv hx' hk=>?_
  rw[List.drop_eq_getElem_cons hlt,compL_cons] at em
  have F3:=F.moved hn hk hx'
  have less:vs.length - (p.i+1)<m:=J.num▸Nat.sub_succ_lt_self vs.length p.i hlt
  refine bE em fun fr3 e3 em=>bE2 em fun b4 fr4 e4 em=>?_
  refine X.lets e v (p.i+1) _ _ _ hx' ?_
  refine assign_ok (k:=k+1) (X:=Xc C) hX ht e3 p.W { s with heap:=h',toks:=tk } p.ρ A _ _ v Rm.handled F3.ok (X.vals p.i _ v p.W h' F3.stay (List.getElem?_eq_getElem hlt) hPv) fun W4 h4 t4 ρ4 O4 S4 hr4=>?_
  refine hif fr3 fr4 b4 e4 (k+1) W4 _ ρ4 cenv A _ _ Rm O4 fun W5 h5 t5 O5 S5=>?_
  have S45:Step (k+1) (Xc C) p.W h' W5 h5:=S4.trans (S5.mono0 (Nat.le_refl _))
  cases b4 with
  | false=>exact⟨_,less,⟨p.i+1,W5,h5,t5,ρ4,fr4,p.acc,p.ys,p.m⟩,rfl,hlt,rfl,F3.ran X.ex X.wk.frame X.wk.sub O5 S45 hr4,em⟩
  | true=>
   refine bE2 em fun u fr6 e6 em=>ifE em fun hz em=>?_
   refine he fr4 fr6 u e6 (k+1) W5 _ ρ4 cenv A _ _ Rm O5 fun W6 h6 t6 y O6 S6 r6=>?_
   have F6:=F3.ran X.ex X.wk.frame X.wk.sub O6 (S45.trans (S6.mono0 (Nat.le_refl _))) hr4
   refine wpAny_list_append_plain (items:=p.ys.toArray) ⟨p.m,F6.oD⟩ (fun h7 hp7 hs7=>exE hp7 fun mm' hp7=>?_) (by rw[List.size_toArray,F6.rD.length];exact Nat.le_trans (Nat.le_of_lt hz) cS)
   exact⟨_,less,⟨p.i+1,W6,h7,_,ρ4,fr6,p.acc++[u],p.ys++[y],mm'⟩,rfl,hlt,rfl,F6.grown X.wk.frame hD r6 (fb hs7) (hp7.trans (by rw[List.push_toArray])),em⟩
 ·have hi:p.i=vs.length:=Nat.le_antisymm J.le (Nat.not_lt.mp hlt)
  rw[hi,List.drop_length] at em
  have e2:p.acc=out:=congrArg Prod.fst (Option.some.inj em)
  have e3:p.fr=frE:=congrArg Prod.snd (Option.some.inj em)
  refine X.wk.done _ _ _ (hi▸F.sx) fun h' tk hk=>?_
  have F':=F.weak.moved (j:=0) hn hk trivial
  have Z:=F'.done O hloc hC hDC
  rw[e2,e3] at Z
  exact q _ h' tk p.ys p.m Z.1 Z.2.1 bh Z.2.2.1 Z.2.2.2.1 F'.oD Z.2.2.2.2
theorem comp_core{t:T}{e iter elt:Expr}{ifs:List Expr}{cnd:Option E}{eltE:E}{scope:Scope}{pos:Pos}{vs:List V}{A:Around}(CC:f7 c t scope c')(ht:TgE c' t e)(hif:IfsT g h0 n c' ifs (fI R cnd))(he:EvVT g h0 n c' (fun env=>eval elt env) (evV R eltE))
  {fr0 fr1 frE:Fr} {out:List V} (em0:bt R lo t cnd eltE vs [] (t.clear fr1)=some (out,frE)) {W W1:Wd} {s s1:Shared} {ρ:Nat→Option Value} {env:Env} {I:Addr} {fp wr:List Addr} {P:Nat→Value→Prop} {Sx:Nat→Heap→Prop} (Rm:Room A n) (O:Ok g h0 c env ρ W s.heap fr0)
  (hs1:s1={ s with heap:=s1.heap,toks:=s1.toks }) (O1:Ok g h0 c env ρ W1 s1.heap fr1) (S1:Step k noX W s.heap W1 s1.heap) (X:Iter g A k W s vs W1 s1 I fp wr P Sx) {RR:Value→Addr→Result→Shared→Prop} {Ex:Value→Shared→Prop}
  (q:∀ W' h' t' D C ys m,Ok g h0 c env ρ W' h' (t.clear frE)→Step k noX W s.heap W' h'→W' C=.fgn→(∀ o,s.heap.get? C=some o→¬ kept k noX W C)→(∃ m,h'.Ns C m)→D≠C→W' D=.tmp k 0→h'.get? D=some (bO ys m)→Reps g W' h' out ys→RR (.ref D) C (.ok .next) { s with heap:=h',toks:=t' }):
  wpAny (model g.prog g.w) A (newList []) (fun acc s₃=>wpAny (model g.prog g.w) A (newFunctionEnv scope env.globals (eX env scope.names []) [] env.qual none .none (some env)) (fun cenv s₄=>
   codeAny (model g.prog g.w) A (.compStart (.ListComp elt [⟨e,iter,ifs,0⟩] scope pos) 0 (.ref I) acc { cenv with scope:=relabel scope env }) (RR acc cenv.locals) s₄) Ex s₃) Ex s1:=by
 refine wpAny_newObj_type (wpAny_newFunctionEnv CC.noCell (fun y hy=>nomatch hy) (fun h₁ hns₁ hsb₁=>?_) CC.kind)
 dsimp only at hns₁ hsb₁ ⊢
 have hC:(s1.heap.push { cls:=.type "list",dict:=none,data:=.seq ([]:List Value).toArray }).objs.size=s1.heap.objs.size+1:=Heap.size_push ..
 rw[hC] at hns₁ hsb₁ ⊢
 have hDC:s1.heap.objs.size≠s1.heap.objs.size+1:=Nat.ne_of_lt (Nat.lt_succ_self _)
 have hDn:s1.heap.get? s1.heap.objs.size=none:=c3 _
 have hCn:s1.heap.get? (s1.heap.objs.size+1)=none:=Heap.get?_none_of_le (Nat.le_succ _)
 have old:∀ b o,s1.heap.get? b=some o→h₁.get? b=some o:=fun b o e=>hsb₁.extBut b o (Nat.ne_of_lt (Nat.lt_succ_of_lt (Heap.lt_size e))) (aA _ _ _ _ (aA _ _ _ _ e))
 have hDo:h₁.get? s1.heap.objs.size=some (bO [] 0):=hsb₁.extBut _ _ hDC (aA _ _ _ _ (Heap.get?_push_size _ rfl))
 have n0:∀ a,s1.heap.get? a=none→∀ o,s.heap.get? a=some o→¬ kept k noX W a:=fun a hz o ho hk=>nomatch hz.symm.trans (S1 a o ho hk).2
 have hst:=X.wk.frame _ _ _ X.st fun b _ o e=>old b o e
 have J0:=CI.first (c:=c) (c':=c') (fp:=fp) (wr:=wr) (Sx:=Sx) (scope:=scope) CC O1 S1 hDn hCn hDC old hDo hns₁ hst X.roles (fun x hx=>(X.own x hx).1) (X.ex 0 _ X.st) X.wk.sub
 have hX:∀ nm a,nm∈c'.asg→Touch (compEnvC scope (eX env scope.names []) (s1.heap.objs.size+1) env) nm a→Xc (s1.heap.objs.size+1) .env a:=fun nm a hnm ht=>ht.elim (fun e=>⟨rfl,e.2⟩) fun e=>(clOf_mem (bA e)).elim nofun fun z=>absurd z.1 (CC.asgn nm hnm)
 have loop:∀ t1,codeAny (model g.prog g.w) A (.compLoop (.ListComp elt [⟨e,iter,ifs,0⟩] scope pos) 0 (.ref I) (.ref s1.heap.objs.size) (compEnvC scope (eX env scope.names []) (s1.heap.objs.size+1) env)) (RR (.ref s1.heap.objs.size) (s1.heap.objs.size+1)) { s1 with heap:=h₁,toks:=t1 }:=fun t1=>by
  rw[hs1]
  exact comp_loop (W2:=_) ht hif he em0 Rm O X rfl hX (n0 _ hCn) (n0 _ hDn) hDC J0 fun W' h' t' ys m a1 a2 a3 a4 a5 a6 a7=>q W' h' t' _ _ ys m a1 a2 a3 (n0 _ hCn) a4 hDC a5 a6 a7
 exact codeAny_compStart_list (loop _) (X.wk.self 0 _ _ _ hst (loop _))
end
section
variable {g:G} {h0:Heap} {N:aR} {n k:Nat} {c c':Ctx} {R:Rec} {lo la:Nat} {Φ:Nat→List Own→Option (Own×Own)} {Wf:Nat}
theorem cells_ok{t:T}{scope:Scope}(CC:f7 c t scope c'){W:Wd}{h:Heap}{env:Env}{ρ:Nat→Option Value}(x:EnvOK W h env c ρ):∀ y,(y,NameKind.free)∈scope.names→(env.cells.lookup y).isSome=true:=fun y hy=>by
 exact exE (x.freeCell CC hy) fun i w=>exE w fun a w=>by rw[w.2.1];rfl
theorem sb_wr{C:Addr}{h h':Heap}(s:Heap.SameBut C h h'):∀ b o,b∉[C]→h.get? b=some o→h'.get? b=some o:=fun b o hb ho=>(s.2 b (by simpa using hb)).trans ho
theorem ev_comp{t:T}{e iter elt:Expr}{ifs:List Expr}{cnd:Option E}{eltE:E}{it:It}{scope:Scope}{pos:Pos}(CC:f7 c t scope c')(ht:TgE c' t e)(hs:fC iter=true)(hi:ItT g h0 n c iter (bZ R it))(hif:IfsT g h0 n c' ifs (fI R cnd))(he:EvT g h0 n c' (fun env=>eval elt env) (R.ev eltE)):
  EvT g h0 n c (fun env=>eval (.ListComp elt [⟨e,iter,ifs,0⟩] scope pos) env) (al R lo Φ (.comp t it cnd eltE)):=by
 exact fun fr fr' o er=>bE2 er fun vs fr1 e1 er=>bE2 er fun out frE e2 er=>sp er fun k W s ρ env A Q Ex Rm O q=>by
  show wpAny _ _ (eval (.ListComp elt [⟨e,iter,ifs,0⟩] scope pos) env) _ _ _
  rw[eval_ListComp]
  refine wpAny_comprehension_free (use:=none) rfl (folded_no hs env) (closure_ok (cells_ok CC O.env)) CC.kind CC.loc (hi fr fr1 vs e1 k W s ρ env A _ Ex Rm O fun W1 s1 I fp wr P Sx hs1 O1 S1 X=>?_)
  refine comp_core (RR:=fun acc C=>compPost (model g.prog g.w) A Ex none Q acc C) CC ht hif he.v e2 Rm O hs1 O1 S1 X fun W' h' t' D C ys m O2 S2 wC nC hn hDC wD oD rD=>exE hn fun mm hn=>⟨mm,hn,fun h2 sb=>?_⟩
  have k2:=sb_wr sb
  have hw:∀ b∈[C],W' b=.fgn:=fun b hb=>List.mem_singleton.mp hb▸wC
  exact q W' h2 t' (.ref D) (O2.wr hw k2) (S2.wr (fun b hb o ho=>by rw[List.mem_singleton.mp hb] at ho ⊢;exact nC o ho) k2) (.list wD (k2 D _ (fun z=>hDC (List.mem_singleton.mp z)) oD) (rD.stay fun a o ea ho=>⟨ea,k2 a o (fun hm=>nomatch ea.symm.trans (hw a hm)) ho⟩))
theorem swaps_name(elt:Expr)(gens:List Comprehension)(scope:Scope)(pos:Pos)(x:Str)(p:Pos)(l:Nat)(env:Env):swapsWith (.ListComp elt gens scope pos) (some (.Name x p)) l env=pure true∨swapsWith (.ListComp elt gens scope pos) (some (.Name x p)) l env=pure false:=by
 have:∃ b,swapsWith (.ListComp elt gens scope pos) (some (.Name x p)) l env=pure b:=⟨_,rfl⟩
 obtain ⟨b,hb⟩:=this
 cases b
 ·exact .inr hb
 ·exact .inl hb
theorem ex_asgC{x:Str}{i:Nat}{t:T}{e iter elt:Expr}{ifs:List Expr}{cnd:Option E}{eltE:E}{it:It}{scope:Scope}{px pos spos:Pos}(hx:(x,i)∈c.vars)(ha:x∈c.asg)(CC:f7 c t scope c')(ht:TgE c' t e)(hs:fC iter=true){R':Rec}(hi:ItT g h0 n c iter (bZ R' it))(hif:IfsT g h0 n c' ifs (fI R' cnd))(he:EvT g h0 n c' (fun env=>eval elt env) (R'.ev eltE))
  (hr:R.ev (.comp t it cnd eltE)=al R' lo Φ (.comp t it cnd eltE)):
  ExT g h0 n lo la c (fun env=>exec (.Assign [.Name x px] (.ListComp elt [⟨e,iter,ifs,0⟩] scope pos) spos) env) (aY R lo la Wf (.asg (.t (.var i)) (.comp t it cnd eltE))):=by
 exact fun fr fr' f er=>bE2 er fun o frF e1 er=>ifE er fun hz er=>sp er fun k W s ρ env A Q Ex Rm O q=>by
  have ρlo:∀ (y:Value) j,j<lo→rset ρ i y j=ρ j:=fun y j hj=>if_neg fun z:j=i=>Nat.not_lt.mpr hz.1 (z▸hj)
  refine(swaps_name elt [⟨e,iter,ifs,0⟩] scope pos x px spos.line env).elim (fun hsw=>?_) fun hsw=>?_
  ·rw[hr] at e1
   refine bE2 e1 fun vs fr1 e0 er=>bE2 er fun out frE e2 er=>?_
   show wpAny _ _ (exec (.Assign [.Name x px] (.ListComp elt [⟨e,iter,ifs,0⟩] scope pos) spos) env) _ _ _
   rw[exec_Assign_Name_used _ _ _ _ hsw]
   refine wpAny_bind (wpAny_standAt (wpAny_bind ?_))
   show wpAny _ A (do let _ ← comprehension (.ListComp elt [⟨e,iter,ifs,0⟩] scope pos) scope env _ (newList []) false (eval iter env) (some (assign (.Name x px) env))) _ _ s
   refine wpAny_bind (wpAny_mono (wpAny_comprehension_free (use:=some (assign (.Name x px) env)) (Q:=fun _ s'=>Q .next s') rfl (folded_no hs env) (closure_ok (cells_ok CC O.env)) CC.kind CC.loc
    (hi fr fr1 vs e0 k W s ρ env A _ Ex Rm O fun W1 s1 I fp wr P Sx hs1 O1 S1 X=>?_)) (fun _ s' hq=>wpAny_pure (wpAny_pure hq)) fun _ _ e=>e)
   refine comp_core (RR:=fun acc C=>compPost (model g.prog g.w) A Ex (some (assign (.Name x px) env)) (fun _ s'=>Q .next s') acc C) CC ht hif he.v e2 Rm O hs1 O1 S1 X fun W' h' t' D C ys m O2 S2 wC nC hn hDC wD oD rD=>exE hn fun mm hn=>?_
   show wpAny _ A (assign (.Name x px) env (.ref D)) _ _ _
   refine wpAny_assign_Name (eL (X:=stX la) (k:=k) (kk:=k) (s:={ s with heap:=h',toks:=t' }) O2 hx ha (Nat.le_refl _) (.list wD oD rD) (fun a _=>trivial) fun h3 t3 hh O3 S3=>?_)
   refine⟨mm,hn.at' fun o ho=>(hh C (cb wC nofun)).trans ho,fun h4 sb=>?_⟩
   have k4:=sb_wr sb
   have hw:∀ b∈[C],setF k i (W' b)=.fgn:=fun b hb=>List.mem_singleton.mp hb▸congrArg (setF k i) wC
   exact sp (P:=fun o frF=>(∀ W' h' t' ρ' fl,Ok g h0 c env ρ' W' h' (frF.set i o)→Step k (stX la) W s.heap W' h'→(∀ i,i<lo→ρ' i=ρ i)→FlR g W' h' k .next fl→Q fl { s with heap:=h',toks:=t' })→Q .next { s with heap:=h4,toks:=t3 }) er
    (fun q=>q _ h4 t3 (rset ρ i (.ref D)) .next (O3.wr hw k4) ((S2.toSt.trans S3).wr (fun b hb o ho hq=>by rw[List.mem_singleton.mp hb] at ho hq;exact nC o ho (kept_st hq)) k4) (ρlo _) .next) q
  ·have EV:EvT g h0 n c (fun env=>eval (.ListComp elt [⟨e,iter,ifs,0⟩] scope pos) env) (R.ev (.comp t it cnd eltE)):=hr▸ev_comp CC ht hs hi hif he
   exact wpAny_Assign_Name (EV fr frF o e1 k W s ρ env A _ Ex Rm O fun W1 h1 t1 y O1 S1 r1=>eL (X:=stX la) (k:=k) (kk:=k) (s:={ s with heap:=h1,toks:=t1 }) O1 hx ha (Nat.le_refl _) r1 (fun a _=>trivial) fun h' t' _ O' S'=>q _ h' t' _ .next O' (S1.toSt.trans S') (ρlo _) .next) hsw
end
noncomputable def vU(v:V):Bool:=v.ctorIdx==0
noncomputable def vN(v:V):Bool:=v.ctorIdx==1
mutual
noncomputable def V.beq:V→V→Bool
 | .undef,b=>vU b
 | .none,b=>vN b
 | .bool a,b=>(vBool b).any (a==·)
 | .int a,b=>(vInt b).any (a==·)
 | .str a,b=>(vStr b).any (a==·)
 | .tup a,b=>(vTup b).any (V.beqs a)
 | .list a,b=>(d2 b).any (V.beqs a)
 | .dict a,b=>(vDict b).any (V.beqd a)
 | .sdict _,_=>false
 | .inst _ _,_=>false
 | .fn a,b=>(vFn b).any (a==·)
noncomputable def V.beqs:List V→List V→Bool
 | [],m=>m.isEmpty
 | a::l,m=>m.head?.any (V.beq a)&&V.beqs l m.tail
noncomputable def V.beqd:List (Int×V)→List (Int×V)→Bool
 | [],m=>m.isEmpty
 | p::l,m=>(m.head?.any fun q=>p.1==q.1&&V.beq p.2 q.2)&&V.beqd l m.tail
end
theorem aj{α:Type}{o:Option α}{f:α→Bool}{G:Prop}(h:o.any f=true)(k:∀ a,o=some a→f a=true→G):G:=by
 cases o with
 | none=>cases h
 | some a=>exact k a rfl h
theorem b_inv{β:Type}{f:β→Bool}{P:β→Prop}(hh:∀ y,cond (f y) (P y) True){y:β}(h:f y=true):P y:=by have:=hh y;rw[h] at this;exact this
theorem vU_ok{b:V}(h:vU b=true):b=.undef:=b_inv (P:=fun b=>b=.undef) (fun y=>by cases y <;> first | trivial | exact rfl) h
theorem vN_ok{b:V}(h:vN b=true):b=.none:=b_inv (P:=fun b=>b=.none) (fun y=>by cases y <;> first | trivial | exact rfl) h
theorem bm{α:Type}{m:List α}{b:α}(h:m.head?=some b):b::m.tail=m:=by
 cases m with
 | nil=>cases h
 | cons x m=>cases h;rfl
theorem V.beq_ok{a:V}:∀ {b:V},V.beq a b=true→a=b:=
 @V.rec (fun a=>∀ {b:V},V.beq a b=true→a=b) (fun l=>∀ {m:List V},V.beqs l m=true→l=m) (fun l=>∀ {m:List (Int×V)},V.beqd l m=true→l=m) (fun _=>True) (fun p=>∀ {b:V},V.beq p.2 b=true→p.2=b) (fun _=>True)
  (fun {b} h=>(vU_ok h).symm) (fun {b} h=>(vN_ok h).symm) (fun x {b} h=>aj h fun y e h=>(eq_of_beq h)▸(vBool_ok e).symm) (fun x {b} h=>aj h fun y e h=>(eq_of_beq h)▸(aB e).symm) (fun x {b} h=>aj h fun y e h=>(eq_of_beq h)▸(cV e).symm)
  (fun l ih {b} h=>aj h fun m e h=>(ih h)▸(cU e).symm) (fun l ih {b} h=>aj h fun m e h=>(ih h)▸(bf e).symm) (fun l ih {b} h=>aj h fun m e h=>(ih h)▸(eJ e).symm) (fun l _ {b} h=>nomatch h) (fun c l _ {b} h=>nomatch h) (fun x {b} h=>aj h fun y e h=>(eq_of_beq h)▸(vFn_ok e).symm)
  (fun {m} h=>(List.isEmpty_iff.mp h).symm) (fun a l ih1 ih2 {m} h=>aj (a9 h) fun b e h1=>by rw[ih1 h1,ih2 (aa h)];exact bm e)
  (fun {m} h=>(List.isEmpty_iff.mp h).symm) (fun p l ih1 ih2 {m} h=>aj (a9 h) fun q e h1=>by rw[show p=q from Prod.ext (eq_of_beq (a9 h1)) (ih1 (aa h1)),ih2 (aa h)];exact bm e)
  trivial (fun _ _ _ _=>trivial) (fun _ _ ih=>ih) (fun _ _ _=>trivial) a
structure Tab where
 gt:List (Str×V)
 ms:List (Nat×Str×Nat)
 bi:List Str
noncomputable def gtHas(gt:List (Str×V))(x:Str)(v:V):Bool:=gt.any fun p=>p.1==x&&V.beq p.2 v
theorem gtHas_ok{gt:List (Str×V)}{x:Str}{v:V}(h:gtHas gt x v=true):(x,v)∈gt:=
 exE (List.any_eq_true.mp h) fun p z=>(show p=(x,v) from Prod.ext (eq_of_beq (a9 z.2)) (V.beq_ok (aa z.2)))▸z.1
noncomputable def kInt:Const→Option Int
 | .int i=>some i
 | _=>none
noncomputable def kStr:Const→Option Str
 | .str i=>some i
 | _=>none
noncomputable def kNone:Const→Bool
 | .none=>true
 | _=>false
noncomputable def kBool:Const→Option Bool
 | .bool i=>some i
 | _=>none
noncomputable def constOk(v:V)(k:Const):Bool:=match v with
 | .int i=>(kInt k).any (i==·)
 | .str s=>(kStr k).any (strOf s==·)
 | .none=>kNone k
 | .bool a=>(kBool k).any (a==·)
 | _=>false
noncomputable def ckL{α β:Type}(ck:α→β→Bool):List α→List β→Bool
 | [],es=>es.isEmpty
 | x::xs,es=>es.head?.any (ck x)&&ckL ck xs es.tail
theorem d7{α β:Type}{ck:α→β→Bool}{xs:List α}:∀ {es:List β},ckL ck xs es=true→xs.length=es.length∧∀ p∈xs.zip es,ck p.1 p.2=true:=by
 induction xs with
 | nil=>intro es h;rw[List.isEmpty_iff.mp h];exact⟨rfl,nofun⟩
 | cons x xs ih=>
  intro es h
  exact aj (a9 h) fun e he h1=>by
   rw[← bm he]
   have z:=ih (aa h)
   exact⟨congrArg Nat.succ z.1,fun p hp=>(List.mem_cons.mp hp).elim (fun e=>e▸h1) (z.2 p)⟩
noncomputable def plainT(e:Expr):Bool:=e.ctorIdx != 0&&e.ctorIdx != 3&&e.ctorIdx != 5&&e.ctorIdx != 15
noncomputable def isVar(e:E):Bool:=(cA e).isSome
theorem aN{α β:Type}{f:β→Option α}{P:β→α→Prop}(hh:∀ y,(f y).elim True (P y)){y:β}{b:α}(h:f y=some b):P y b:=by have:=hh y;rw[h] at this;exact this
noncomputable def cT{α:Type}(d:α)(name:Str→α:=fun _=>d)(attr:Expr→Str→Pos→α:=fun _ _ _=>d)(call:Expr→List Expr→List Keyword→Pos→α:=fun _ _ _ _=>d)(sub:Expr→Expr→α:=fun _ _=>d)(slice:Option Expr→Option Expr→Option Expr→α:=fun _ _ _=>d)
  (tup:List Expr→α:=fun _=>d) (lst:List Expr→α:=fun _=>d) (const:Const→α:=fun _=>d) (bin:Expr→Operator→Expr→α:=fun _ _ _=>d) (un:UnaryOp→Expr→α:=fun _ _=>d) (cmp:Expr→List CmpOp→List Expr→α:=fun _ _ _=>d) (bool:BoolOp→List Expr→α:=fun _ _=>d)
  (ife:Expr→Expr→Expr→α:=fun _ _ _=>d) (dict:List (Option Expr)→List Expr→α:=fun _ _=>d) (comp:Expr→List Comprehension→Scope→α:=fun _ _ _=>d):Expr→α
 | .Name x _=>name x
 | .Attribute o nm p=>attr o nm p
 | .Call f xs ks p=>call f xs ks p
 | .Subscript v s _=>sub v s
 | .Slice a b c _=>slice a b c
 | .Tuple es _ _=>tup es
 | .List es _=>lst es
 | .Constant k _ _=>const k
 | .BinOp l o r _=>bin l o r
 | .UnaryOp o x _=>un o x
 | .Compare l o r _=>cmp l o r
 | .BoolOp o xs _=>bool o xs
 | .IfExp a b d _=>ife a b d
 | .Dict ks vs _=>dict ks vs
 | .ListComp e g s _=>comp e g s
 | _=>d
noncomputable def one?{α:Type}(l:List α):Option α:=if l.tail.isEmpty then l.head? else none
theorem d3{α:Type}{l:List α}{x:α}(h:one? l=some x):l=[x]:=ifE h fun z h=>by rw[← bm h,List.isEmpty_iff.mp z]
theorem aO{β:Type}{P:Expr→β→Prop}{name:Str→Option β}{attr:Expr→Str→Pos→Option β}{call:Expr→List Expr→List Keyword→Pos→Option β}{sub:Expr→Expr→Option β}{slice:Option Expr→Option Expr→Option Expr→Option β}{tup:List Expr→Option β}{lst:List Expr→Option β}{const:Const→Option β}{bin:Expr→Operator→Expr→Option β}{un:UnaryOp→Expr→Option β}{cmp:Expr→List CmpOp→List Expr→Option β}{bool:BoolOp→List Expr→Option β}{ife:Expr→Expr→Expr→Option β}{dict:List (Option Expr)→List Expr→Option β}{comp:Expr→List Comprehension→Scope→Option β}
  (h_name:∀ x p,(name x).elim True (P (.Name x p)):=by intros;trivial) (h_attr:∀ o x p,(attr o x p).elim True (P (.Attribute o x p)):=by intros;trivial) (h_call:∀ f xs ks p,(call f xs ks p).elim True (P (.Call f xs ks p)):=by intros;trivial) (h_sub:∀ v s p,(sub v s).elim True (P (.Subscript v s p)):=by intros;trivial) (h_slice:∀ a b c p,(slice a b c).elim True (P (.Slice a b c p)):=by intros;trivial) (h_tup:∀ x k p,(tup x).elim True (P (.Tuple x k p)):=by intros;trivial) (h_lst:∀ x p,(lst x).elim True (P (.List x p)):=by intros;trivial) (h_const:∀ x k p,(const x).elim True (P (.Constant x k p)):=by intros;trivial) (h_bin:∀ l o r p,(bin l o r).elim True (P (.BinOp l o r p)):=by intros;trivial) (h_un:∀ o x p,(un o x).elim True (P (.UnaryOp o x p)):=by intros;trivial) (h_cmp:∀ l o r p,(cmp l o r).elim True (P (.Compare l o r p)):=by intros;trivial) (h_bool:∀ o x p,(bool o x).elim True (P (.BoolOp o x p)):=by intros;trivial) (h_ife:∀ a b c p,(ife a b c).elim True (P (.IfExp a b c p)):=by intros;trivial) (h_dict:∀ a b p,(dict a b).elim True (P (.Dict a b p)):=by intros;trivial) (h_comp:∀ e g s p,(comp e g s).elim True (P (.ListComp e g s p)):=by intros;trivial) (y:Expr):(cT none name attr call sub slice tup lst const bin un cmp bool ife dict comp y).elim True (P y):=by
 cases y <;> first | trivial | exact h_name _ _ | exact h_attr _ _ _ | exact h_call _ _ _ _ | exact h_sub _ _ _ | exact h_slice _ _ _ _ | exact h_tup _ _ _ | exact h_lst _ _ | exact h_const _ _ _ | exact h_bin _ _ _ _ | exact h_un _ _ _ | exact h_cmp _ _ _ _ | exact h_bool _ _ _ | exact h_ife _ _ _ _ | exact h_dict _ _ _ | exact h_comp _ _ _ _
noncomputable def dx:Expr→Option Str:=cT none (name:=some)
theorem cm{e:Expr}{b:Str}(h:dx e=some b):∃ p,e=.Name b p:=aN (f:=dx) (P:=fun e b=>∃ p,e=.Name b p) (aO (h_name:=by exact fun _ _=>⟨_,rfl⟩)) h
noncomputable def xMeth:Expr→Option (Expr×Str×Pos):=cT none (attr:=fun o nm p=>some (o,nm,p))
theorem fK{e:Expr}{b:(Expr×Str×Pos)}(h:xMeth e=some b):e=.Attribute b.1 b.2.1 b.2.2:=aN (f:=xMeth) (P:=fun e b=>e=.Attribute b.1 b.2.1 b.2.2) (aO (h_attr:=by exact fun _ _ _=>rfl)) h
noncomputable def xCall0:Expr→Option (Expr×List Expr×List Keyword×Pos):=cT none (call:=fun f xs ks p=>some (f,xs,ks,p))
theorem xCall0_ok{e:Expr}{b:(Expr×List Expr×List Keyword×Pos)}(h:xCall0 e=some b):e=.Call b.1 b.2.1 b.2.2.1 b.2.2.2:=aN (f:=xCall0) (P:=fun e b=>e=.Call b.1 b.2.1 b.2.2.1 b.2.2.2) (aO (h_call:=by exact fun _ _ _ _=>rfl)) h
noncomputable def xSub:Expr→Option (Expr×Expr):=cT none (sub:=fun v s=>some (v,s))
theorem xSub_ok{e:Expr}{b:(Expr×Expr)}(h:xSub e=some b):∃ p,e=.Subscript b.1 b.2 p:=aN (f:=xSub) (P:=fun e b=>∃ p,e=.Subscript b.1 b.2 p) (aO (h_sub:=by exact fun _ _ _=>⟨_,rfl⟩)) h
noncomputable def xSlice0:Expr→Option (Option Expr×Option Expr×Option Expr):=cT none (slice:=fun a b c=>some (a,b,c))
theorem xSlice0_ok{e:Expr}{b:(Option Expr×Option Expr×Option Expr)}(h:xSlice0 e=some b):∃ p,e=.Slice b.1 b.2.1 b.2.2 p:=aN (f:=xSlice0) (P:=fun e b=>∃ p,e=.Slice b.1 b.2.1 b.2.2 p) (aO (h_slice:=by exact fun _ _ _ _=>⟨_,rfl⟩)) h
noncomputable def xTup:Expr→Option (List Expr):=cT none (tup:=some)
theorem f8{e:Expr}{b:(List Expr)}(h:xTup e=some b):∃ k p,e=.Tuple b k p:=aN (f:=xTup) (P:=fun e b=>∃ k p,e=.Tuple b k p) (aO (h_tup:=by exact fun _ _ _=>⟨_,_,rfl⟩)) h
noncomputable def xList:Expr→Option (List Expr):=cT none (lst:=some)
theorem xList_ok{e:Expr}{b:(List Expr)}(h:xList e=some b):∃ p,e=.List b p:=aN (f:=xList) (P:=fun e b=>∃ p,e=.List b p) (aO (h_lst:=by exact fun _ _=>⟨_,rfl⟩)) h
noncomputable def xConst:Expr→Option Const:=cT none (const:=some)
theorem xConst_ok{e:Expr}{b:Const}(h:xConst e=some b):∃ d p,e=.Constant b d p:=aN (f:=xConst) (P:=fun e b=>∃ d p,e=.Constant b d p) (aO (h_const:=by exact fun _ _ _=>⟨_,_,rfl⟩)) h
noncomputable def xBin:Expr→Option (Expr×Operator×Expr):=cT none (bin:=fun l o r=>some (l,o,r))
theorem xBin_ok{e:Expr}{b:(Expr×Operator×Expr)}(h:xBin e=some b):∃ p,e=.BinOp b.1 b.2.1 b.2.2 p:=aN (f:=xBin) (P:=fun e b=>∃ p,e=.BinOp b.1 b.2.1 b.2.2 p) (aO (h_bin:=by exact fun _ _ _ _=>⟨_,rfl⟩)) h
noncomputable def xUn:Expr→Option (UnaryOp×Expr):=cT none (un:=fun o x=>some (o,x))
theorem xUn_ok{e:Expr}{b:(UnaryOp×Expr)}(h:xUn e=some b):∃ p,e=.UnaryOp b.1 b.2 p:=aN (f:=xUn) (P:=fun e b=>∃ p,e=.UnaryOp b.1 b.2 p) (aO (h_un:=by exact fun _ _ _=>⟨_,rfl⟩)) h
noncomputable def xCmp0:Expr→Option (Expr×List CmpOp×List Expr):=cT none (cmp:=fun l o r=>some (l,o,r))
theorem xCmp0_ok{e:Expr}{b:(Expr×List CmpOp×List Expr)}(h:xCmp0 e=some b):∃ p,e=.Compare b.1 b.2.1 b.2.2 p:=aN (f:=xCmp0) (P:=fun e b=>∃ p,e=.Compare b.1 b.2.1 b.2.2 p) (aO (h_cmp:=by exact fun _ _ _ _=>⟨_,rfl⟩)) h
noncomputable def xBool:Expr→Option (BoolOp×List Expr):=cT none (bool:=fun o xs=>some (o,xs))
theorem fL{e:Expr}{b:(BoolOp×List Expr)}(h:xBool e=some b):∃ p,e=.BoolOp b.1 b.2 p:=aN (f:=xBool) (P:=fun e b=>∃ p,e=.BoolOp b.1 b.2 p) (aO (h_bool:=by exact fun _ _ _=>⟨_,rfl⟩)) h
noncomputable def xIf:Expr→Option (Expr×Expr×Expr):=cT none (ife:=fun a b c=>some (a,b,c))
theorem xIf_ok{e:Expr}{b:(Expr×Expr×Expr)}(h:xIf e=some b):∃ p,e=.IfExp b.1 b.2.1 b.2.2 p:=aN (f:=xIf) (P:=fun e b=>∃ p,e=.IfExp b.1 b.2.1 b.2.2 p) (aO (h_ife:=by exact fun _ _ _ _=>⟨_,rfl⟩)) h
noncomputable def xDict:Expr→Option (List (Option Expr)×List Expr):=cT none (dict:=fun a b=>some (a,b))
theorem xDict_ok{e:Expr}{b:(List (Option Expr)×List Expr)}(h:xDict e=some b):∃ p,e=.Dict b.1 b.2 p:=aN (f:=xDict) (P:=fun e b=>∃ p,e=.Dict b.1 b.2 p) (aO (h_dict:=by exact fun _ _ _=>⟨_,rfl⟩)) h
noncomputable def xComp0:Expr→Option (Expr×List Comprehension×Scope):=cT none (comp:=fun a b c=>some (a,b,c))
theorem xComp0_ok{e:Expr}{b:(Expr×List Comprehension×Scope)}(h:xComp0 e=some b):∃ p,e=.ListComp b.1 b.2.1 b.2.2 p:=aN (f:=xComp0) (P:=fun e b=>∃ p,e=.ListComp b.1 b.2.1 b.2.2 p) (aO (h_comp:=by exact fun _ _ _ _=>⟨_,rfl⟩)) h
noncomputable def xAttr(e:Expr):Option (Expr×Str):=(xMeth e).map fun p=>(p.1,p.2.1)
theorem xAttr_ok{e:Expr}{b:Expr×Str}(h:xAttr e=some b):∃ p,e=.Attribute b.1 b.2 p:=exE (Option.map_eq_some_iff.mp h) fun p z=>⟨p.2.2,by rw[fK z.1,← z.2]⟩
noncomputable def de(e:Expr):Option (Expr×List Expr×Pos):=(xCall0 e).bind fun p=>if p.2.2.1.isEmpty then some (p.1,p.2.1,p.2.2.2) else none
theorem bd{e:Expr}{b:Expr×List Expr×Pos}(h:de e=some b):e=.Call b.1 b.2.1 [] b.2.2:=bE h fun p e1 h=>ifE h fun z h=>by rw[xCall0_ok e1,List.isEmpty_iff.mp z,← Option.some.inj h]
noncomputable def xSlice(e:Expr):Option (Option Expr×Option Expr):=(xSlice0 e).bind fun p=>if p.2.2.isNone then some (p.1,p.2.1) else none
theorem xSlice_ok{e:Expr}{b:Option Expr×Option Expr}(h:xSlice e=some b):∃ p,e=.Slice b.1 b.2 none p:=bE h fun p e1 h=>ifE h fun z h=>exE (xSlice0_ok e1) fun q e=>⟨q,by rw[e,Option.isNone_iff_eq_none.mp z,← Option.some.inj h]⟩
noncomputable def xCmp(e:Expr):Option (Expr×CmpOp×Expr):=(xCmp0 e).bind fun p=>(one? p.2.1).bind fun o=>(one? p.2.2).bind fun r=>some (p.1,o,r)
theorem xCmp_ok{e:Expr}{b:Expr×CmpOp×Expr}(h:xCmp e=some b):∃ p,e=.Compare b.1 [b.2.1] [b.2.2] p:=bE h fun p e1 h=>bE h fun o e2 h=>bE h fun r e3 h=>exE (xCmp0_ok e1) fun q e=>⟨q,by rw[e,d3 e2,d3 e3,← Option.some.inj h]⟩
noncomputable def xComp(e:Expr):Option (Expr×Comprehension×Scope):=(xComp0 e).bind fun p=>(one? p.2.1).bind fun o=>some (p.1,o,p.2.2)
theorem xComp_ok{e:Expr}{b:Expr×Comprehension×Scope}(h:xComp e=some b):∃ p,e=.ListComp b.1 [b.2.1] b.2.2 p:=bE h fun p e1 h=>bE h fun o e2 h=>exE (xComp0_ok e1) fun q e=>⟨q,by rw[e,d3 e2,← Option.some.inj h]⟩
theorem gf{e:E}{i:Nat}(h:cA e=some i):e=.var i:=aN (P:=fun e i=>e=.var i) (fun y=>by cases y <;> first | trivial | exact rfl) h
noncomputable abbrev eAt:E→Option (Nat×Nat):=eAttr
theorem eAt_ok{e:E}{i a:Nat}(h:eAt e=some (i,a)):e=.attr (.var i) a:=
 aN (P:=fun e b=>e=.attr (.var b.1) b.2) (fun y=>by
  cases y with
  | attr e a=>
   show ((cA e).map fun i=>(i,a)).elim True _
   cases h:cA e with
   | none=>trivial
   | some i=>rw[gf h];exact rfl
  | _=>trivial) h
mutual
noncomputable def ckT(c:Ctx):T→Expr→Bool
 | .var i,e=>(dx e).any fun x=>decide ((x,i)∈c.vars∧x∈c.asg)
 | .tup ts,e=>(xTup e).any (ckTs c ts)
noncomputable def ckTs(c:Ctx):List T→List Expr→Bool
 | [],es=>es.isEmpty
 | t::ts,es=>es.head?.any (ckT c t)&&ckTs c ts es.tail
end
theorem ckT_ok{c:Ctx}{t:T}:∀ {e:Expr},ckT c t e=true→TgE c t e:=
 @T.rec (fun t=>∀ {e:Expr},ckT c t e=true→TgE c t e) (fun ts=>∀ {es:List Expr},ckTs c ts es=true→TgEs c ts es)
  (fun i {e} h=>aj h fun x hx h=>exE (cm hx) fun p hp=>hp▸.var (of_decide_eq_true h).1 (of_decide_eq_true h).2)
  (fun ts ih {e} h=>aj h fun es hx h=>exE (f8 hx) fun k hp=>exE hp fun p hp=>hp▸.tup (ih h))
  (fun {es} h=>List.isEmpty_iff.mp h▸.nil)
  (fun t ts h1 h2 {es} h=>aj (a9 h) fun e he h3=>bm he▸.cons (h1 h3) (h2 (aa h))) t
mutual
noncomputable def tgNames:T→Expr→List (Str×Nat)
 | .var i,e=>((dx e).map fun x=>(x,i)).toList
 | .tup ts,e=>tgNamesL ts ((xTup e).getD [])
noncomputable def tgNamesL:List T→List Expr→List (Str×Nat)
 | [],_=>[]
 | t::ts,es=>(es.head?.elim [] (tgNames t))++tgNamesL ts es.tail
end
noncomputable def mkC(c:Ctx)(t:T)(e:Expr)(sc:Scope):Ctx:=
 ⟨tgNames t e++c.vars.filter (fun p=>sc.names.lookup p.1==some .free&&!(t.slots.contains p.2)),(sc.names.filter (·.2==.globalImplicit)).map (·.1),(tgNames t e).map (·.1),(sc.names.filter (·.2==.free)).map (·.1)⟩
noncomputable def ckC(c:Ctx)(t:T)(sc:Scope)(c':Ctx):Bool:=
 decide (sc.kind=.function∧(∀ x∈sc.names,x.2≠.cell)∧(∀ x∈sc.names,x.2=.local→sc.names.lookup x.1=some .local)∧
  (∀ p∈c'.vars,(sc.names.lookup p.1=some .local∧p.2∈t.slots)∨(sc.names.lookup p.1=some .free∧p∈c.vars∧p.2∉t.slots))∧
  (∀ x∈sc.names,x.2=.free→x.1∈c.cel∧c.vars.any (fun p=>p.1==x.1)=true)∧
  (∀ x∈c'.globs,sc.names.lookup x=some .globalImplicit)∧(∀ p∈c'.vars,∀ q∈c'.vars,(p.1=q.1↔p.2=q.2))∧
  (∀ x∈c'.asg,sc.names.lookup x=some .local∧(x,NameKind.free)∉sc.names)∧(∀ x∈c'.cel,sc.names.lookup x=some .free))
theorem ckC_ok{c:Ctx}{t:T}{sc:Scope}{c':Ctx}(h:ckC c t sc c'=true):f7 c t sc c':=by
 unfold ckC at h
 have h:=of_decide_eq_true h
 have h5:=h.2.2.2.2.1
 have h6:=h.2.2.2.2.2
 exact⟨h.1,h.2.1,h.2.2.1,fun x i hx=>h.2.2.2.1 (x,i) hx,fun x hx=>⟨(h5 (x,.free) hx rfl).1,exE (List.any_eq_true.mp (h5 (x,.free) hx rfl).2) fun q z=>⟨q.2,(show q=(x,q.2) from Prod.ext (eq_of_beq z.2) rfl)▸z.1⟩⟩,h6.1,
  fun x i y j a b=>h6.2.1 (x,i) a (y,j) b,fun x hx=>(h6.2.2.1 x hx).1,fun x hx=>(h6.2.2.1 x hx).2,h6.2.2.2⟩
noncomputable def fu(c:Ctx)(x:Expr)(i:Nat):Bool:=(dx x).any fun y=>decide ((y,i)∈c.vars∧c8 y=true)
theorem eY{c:Ctx}{x:Expr}{i:Nat}{G:Prop}(h:fu c x i=true)(k:∀ y p,x=.Name y p→(y,i)∈c.vars→c8 y=true→G):G:=
 aj h fun y e h=>exE (cm e) fun p hp=>k y p hp (of_decide_eq_true h).1 (of_decide_eq_true h).2
noncomputable def ckAt(c:Ctx)(x:Expr)(i a:Nat):Bool:=(xAttr x).any fun p=>fu c p.1 i&&decide (a<17∧p.2=an a)
theorem ckAtE{c:Ctx}{x:Expr}{i a:Nat}{G:Prop}(h:ckAt c x i a=true)(k:∀ y p p2,x=.Attribute (.Name y p) (an a) p2→(y,i)∈c.vars→c8 y=true→a<17→G):G:=
 aj h fun b e h=>exE (xAttr_ok e) fun p2 hp=>eY (a9 h) fun y p hy v1 v2=>k y p p2 (by rw[hp,hy,(of_decide_eq_true (aa h)).2]) v1 v2 (of_decide_eq_true (aa h)).1
noncomputable def ckPl(c:Ctx):P→Expr→Bool
 | .var i,x=>fu c x i
 | .at i a,x=>ckAt c x i a
theorem ckPl_ok{c:Ctx}{p:P}{e:Expr}(h:ckPl c p e=true):PlE c p e:=by
 cases p with
 | var i=>exact eY h fun y p hy a b=>hy▸.var a b
 | «at» i k=>exact ckAtE h fun y p p2 hy a b d=>hy▸.at a b d
section
variable (T0:Tab) (ck:Bool→Ctx→Expr→E→Bool)
noncomputable def ckH(c:Ctx)(x:Expr)(e:E):Bool:=if isVar e then (cA e).any (fu c x) else ck false c x e
noncomputable def gq(c:Ctx)(f:Expr)(x:Str):Bool:=(dx f).any fun y=>decide (y=x∧x∈c.globs∧x∈T0.bi)
noncomputable def ckL1(c:Ctx)(xs:List Expr)(es:List E):Bool:=ckL (fun x e=>az x&&ck false c x e) xs es
noncomputable def ckP1(c:Ctx)(xs:List Expr)(e:E):Bool:=(one? xs).any fun x=>az x&&ck false c x e
noncomputable def ckPH(c:Ctx)(xs:List Expr)(e:E):Bool:=(one? xs).any fun x=>az x&&ckH ck c x e
noncomputable def ckM(c:Ctx)(x:Expr)(nm:Str)(p:P)(f:List Expr→Bool):Bool:=(de x).any fun q=>(xMeth q.1).any fun m=>decide (m.2.1=nm)&&ckPl c p m.1&&(m.2.2.endLine==q.2.2.line)&&f q.2.1
noncomputable def ckIt(c:Ctx)(x:Expr)(it:It):Bool:=match it with
 | .val a=>ck false c x a&&fC x
 | .range none a=>(de x).any fun q=>gq T0 c q.1 "range"&&ckP1 ck c q.2.1 a
 | .range (some a) a2=>(de x).any fun q=>gq T0 c q.1 "range"&&ckL1 ck c q.2.1 [a,a2]
 | .values a=>(de x).any fun q=>(xMeth q.1).any fun m=>decide (m.2.1=("values":Str))&&(m.2.2.endLine==q.2.2.line)&&(dx m.1).isSome&&q.2.1.isEmpty&&ck false c m.1 a
 | .enum _=>false
noncomputable def ckIfs(c:Ctx)(xs:List Expr)(o:Option E):Bool:=match o with
 | none=>xs.isEmpty
 | some a=>(one? xs).any fun x=>ck true c x a
noncomputable def ckComp(c:Ctx)(t:T)(it:It)(cnd:Option E)(el:E)(elt:Expr)(gn:Comprehension)(sc:Scope):Bool:=
 decide (gn.is_async=0)&&ckC c t sc (mkC c t gn.target sc)&&ckT (mkC c t gn.target sc) t gn.target&&ckIt T0 ck c gn.iter it&&ckIfs ck (mkC c t gn.target sc) gn.ifs cnd&&ck false (mkC c t gn.target sc) elt el
noncomputable def optX(c:Ctx)(x:Option Expr)(o:Option E):Bool:=match o with
 | none=>x.isNone
 | some a=>x.any fun x=>ck false c x a
noncomputable def ckPr(c:Ctx):List (Option Expr)→List Expr→List (E×E)→Bool
 | [],vs,es=>vs.isEmpty&&es.isEmpty
 | k::ks,vs,es=>k.any fun k=>vs.head?.any fun v=>es.head?.any fun e=>ck false c k e.1&&ck false c v e.2&&ckPr c ks vs.tail es.tail
noncomputable def ckCmp(c:Ctx)(x:Expr)(o:CmpOp)(a:E)(f:Expr→Bool):Bool:=(xCmp x).any fun q=>decide (q.2.1=o)&&ckH ck c q.1 a&&f q.2.2
noncomputable def cW(r:Expr):Bool:=(xConst r).any fun k=>decide (k=.none)
noncomputable def ckE1(c:Ctx)(x:Expr)(e:E):Bool:=match e with
 | .stuck=>true
 | .const v=>(xConst x).any (constOk v)||(dx x).any fun y=>decide (y∈c.globs)&&gtHas T0.gt y v&&c8 y
 | .var i=>fu c x i
 | .bin o a b=>(xBin x).any fun q=>decide (q.2.1=opOf o)&&ck false c q.1 a&&ck false c q.2.2 b
 | .neg a=>(xUn x).any fun q=>decide (q.1=.USub)&&ck false c q.2 a
 | .cmp o a b=>ckCmp ck c x (cOf o) a fun r=>!(behindInMarks (cOf o) r)&&ckH ck c r b
 | .isNone a=>ckCmp ck c x .Is a cW
 | .notNone a=>ckCmp ck c x .IsNot a cW
 | .not a=>(xUn x).any fun q=>decide (q.1=.Not)&&ck false c q.2 a
 | .and es=>(xBool x).any fun q=>decide (q.1=.And)&&!q.2.isEmpty&&ckL (ck false c) q.2 es
 | .or es=>(xBool x).any fun q=>decide (q.1=.Or)&&!q.2.isEmpty&&ckL (ck false c) q.2 es
 | .ite a b d=>(xIf x).any fun q=>ck true c q.1 a&&ck false c q.2.1 b&&ck false c q.2.2 d
 | .tup es=>(xTup x).any fun xs=>ckL1 ck c xs es
 | .list es=>(xList x).any fun xs=>ckL1 ck c xs es
 | .dict b es=>(xDict x).any fun q=>if es.isEmpty then q.1.isEmpty&&q.2.isEmpty else !b&&decide (q.1.length≤15)&&ckPr ck c q.1 q.2 es
 | .call f es=>(de x).any fun q=>(dx q.1).any fun y=>decide (y∈c.globs)&&gtHas T0.gt y (.fn f)&&c8 y&&ckL1 ck c q.2.1 es
 | .callv i es=>(de x).any fun q=>fu c q.1 i&&ckL1 ck c q.2.1 es
 | .new cc es=>(de x).any fun q=>(dx q.1).any fun y=>decide (cc<2∧y=bU cc∧y∈c.globs)&&ckL1 ck c q.2.1 es
 | .meth f i es=>(de x).any fun q=>(xMeth q.1).any fun m=>decide (2≤f∧(0,m.2.1,f)∈T0.ms∧m.2.1∉attrNames∧q.2.1.length<29)&&fu c m.1 i&&(m.2.2.endLine==q.2.2.line)&&ckL1 ck c q.2.1 es
 | .attr e a=>(cA e).any fun i=>ckAt c x i a
 | .len a=>(de x).any fun q=>gq T0 c q.1 "len"&&(if (eAt a).isSome then (eAt a).any fun ia=>(one? q.2.1).any fun v=>ckAt c v ia.1 ia.2 else ckPH ck c q.2.1 a)
 | .sub a b=>(xSub x).any fun q=>if (eAt a).isSome then (eAt a).any fun ia=>ckAt c q.1 ia.1 ia.2&&(cA b).any (fu c q.2) else ckH ck c q.1 a&&ck false c q.2 b
 | .slice a l h=>(xSub x).any fun q=>(xSlice q.2).any fun s=>ckH ck c q.1 a&&optX ck c s.1 l&&optX ck c s.2 h
 | .prim p a=>(de x).any fun q=>(match p with
  | .isStr=>gq T0 c q.1 "isinstance"&&(q.2.1.head?.any fun v=>az v&&ckH ck c v a)&&((one? q.2.1.tail).any fun s=>gq T0 c s "str")
  | p=>gq T0 c q.1 (cK p)&&ckPH ck c q.2.1 a)
 | .lrange a=>(de x).any fun q=>gq T0 c q.1 "list"&&(one? q.2.1).any fun y=>(de y).any fun q2=>gq T0 c q2.1 "range"&&ckP1 ck c q2.2.1 a
 | .comp t it cnd el=>(xComp x).any fun q=>ckComp T0 ck c t it cnd el q.1 q.2.1 q.2.2
 | .app p a=>ckM c x "append" p fun xs=>ckP1 ck c xs a
 | .ext p a=>ckM c x "extend" p fun xs=>ckP1 ck c xs a
 | .pop p none=>ckM c x "pop" p fun xs=>xs.isEmpty
 | .pop p (some a)=>ckM c x "pop" p fun xs=>ckP1 ck c xs a
noncomputable def ckB1(c:Ctx)(x:Expr)(e:E):Bool:=match e with
 | .stuck=>true
 | .cmp o a b=>ckCmp ck c x (cOf o) a fun r=>!(behindInMarks (cOf o) r)&&ckH ck c r b
 | .isNone a=>ckCmp ck c x .Is a cW
 | .notNone a=>ckCmp ck c x .IsNot a cW
 | .not a=>(xUn x).any fun q=>decide (q.1=.Not)&&ck true c q.2 a
 | .and es=>(xBool x).any fun q=>decide (q.1=.And)&&ckL (ck true c) q.2 es
 | .or es=>(xBool x).any fun q=>decide (q.1=.Or)&&ckL (ck true c) q.2 es
 | e=>plainT x&&ck false c x e
end
noncomputable def ckE(T0:Tab):Nat→Bool→Ctx→Expr→E→Bool
 | 0,_,_,_,_=>false
 | d+1,b,c,x,e=>match b with
  | true=>ckB1 (ckE T0 d) c x e
  | false=>ckE1 T0 (ckE T0 d) c x e
structure Fix (g:G) (h0:Heap) (N:aR) (n:Nat) (T0:Tab) (Φ:Nat→List Own→Option (Own×Own)):Prop where
 B:bV g h0 N
 FF:Funs g h0 n Φ
 gt:N.gt=T0.gt
 ms:N.ms=T0.ms
 bi:∀ x∈T0.bi,N.mg x=none
 cls:∀ cc,cc<2→N.mg (bU cc)=some (.ref (g.ca cc))∧PySem.W.keepIn N.K (.ref (g.ca cc))=true
 sm:(h0.get? sysModules).isSome=true
structure dc (g:G) (h0:Heap) (n:Nat) (Φ:Nat→List Own→Option (Own×Own)) (lo la Wf:Nat) (ck:Bool→Ctx→Expr→E→Bool):Prop where
 ev:∀ c x e,ck false c x e=true→∀ m,EvT g h0 n c (fun env=>eval x env) ((sem Φ lo la Wf m).ev e)
 bo:∀ c x e,ck true c x e=true→∀ m,BoT g h0 n c (fun env=>isTrue x env (eval x env)) (evB (sem Φ lo la Wf m) e)
section
variable {g:G} {h0:Heap} {N:aR} {n:Nat} {c:Ctx} {lo la Wf:Nat} {Φ:Nat→List Own→Option (Own×Own)} {T0:Tab} {ck:Bool→Ctx→Expr→E→Bool}
theorem fJ(S:dc g h0 n Φ lo la Wf ck){x:Expr}{e:E}(h:ckH ck c x e=true)(m:Nat):eI g h0 n c (fun env=>eval x env) (evH (sem Φ lo la Wf m) e):=by
 unfold ckH at h
 by_cases hv:isVar e=true
 ·rw[if_pos hv] at h
  exact aj h fun i e1 h=>eY h fun y p hx a b=>by rw[gf e1,hx];exact evH_var a (aZ b) (bj b)
 ·rw[if_neg hv] at h
  exact evH_val (S.ev c x e h m) (Option.not_isSome_iff_eq_none.mp hv)
theorem gp(F:Fix g h0 N n T0 Φ){f:Expr}{x:Str}{G:Prop}(h:gq T0 c f x=true)(k:∀ p,f=.Name x p→x∈c.globs→N.mg x=none→G):G:=
 aj h fun y e h=>exE (cm e) fun p hp=>have d:=of_decide_eq_true h;k p (d.1▸hp) d.2.1 (F.bi _ d.2.2)
theorem cx(S:dc g h0 n Φ lo la Wf ck){xs:List Expr}{es:List E}(h:ckL1 ck c xs es=true)(m:Nat):
  xs.length=es.length∧∀ p∈xs.zip es,az p.1=true∧EvT g h0 n c (fun env=>eval p.1 env) ((sem Φ lo la Wf m).ev p.2):=
 have q:=d7 h
 ⟨q.1,fun p hp=>⟨a9 (q.2 p hp),S.ev _ _ _ (aa (q.2 p hp)) m⟩⟩
theorem ckP1E(S:dc g h0 n Φ lo la Wf ck){xs:List Expr}{e:E}(h:ckP1 ck c xs e=true)(m:Nat){G:Prop}(k:∀ x,xs=[x]→az x=true→EvT g h0 n c (fun env=>eval x env) ((sem Φ lo la Wf m).ev e)→G):G:=
 aj h fun x e1 h=>k x (d3 e1) (a9 h) (S.ev _ _ _ (aa h) m)
theorem ckPHE(S:dc g h0 n Φ lo la Wf ck){xs:List Expr}{e:E}(h:ckPH ck c xs e=true)(m:Nat){G:Prop}(k:∀ x,xs=[x]→az x=true→eI g h0 n c (fun env=>eval x env) (evH (sem Φ lo la Wf m) e)→G):G:=
 aj h fun x e1 h=>k x (d3 e1) (a9 h) (fJ S (aa h) m)
theorem noStar{pos:Pos}{env:Env}{xs:List Expr}:∀ {es:List E},xs.length=es.length→(∀ p∈xs.zip es,az p.1=true)→(backTo pos (starEach xs env)).any (·.1)=false:=by
 induction xs with
 | nil=>intro es _ _;rfl
 | cons x xs ih=>
  intro es hl hp
  cases es with
  | nil=>cases hl
  | cons e es=>
   rw[bM (hp (x,e) (List.mem_cons_self ..))]
   exact ih (Nat.succ.inj hl) fun p hpp=>hp p (List.mem_cons_of_mem _ hpp)
theorem optX_ok(S:dc g h0 n Φ lo la Wf ck){x:Option Expr}{e:Option E}(h:optX ck c x e=true)(m:Nat):EvOT g h0 n c (fun env=>evalPart x env) (evOpt (sem Φ lo la Wf m) e):=by
 cases e with
 | none=>rw[Option.isNone_iff_eq_none.mp h];exact evO_none
 | some a=>exact aj h fun y hy h=>hy▸evO_some (S.ev _ _ _ h m)
theorem ckPr_ok(S:dc g h0 n Φ lo la Wf ck)(m:Nat){ks:List (Option Expr)}:∀ {vs:List Expr} {es:List (E×E)},ckPr ck c ks vs es=true→∃ ks':List Expr,ks=ks'.map some∧ks'.length=es.length∧vs.length=es.length∧
  ∀ p∈(ks'.zip vs).zip es,EvT g h0 n c (fun env=>eval p.1.1 env) ((sem Φ lo la Wf m).ev p.2.1)∧EvT g h0 n c (fun env=>eval p.1.2 env) ((sem Φ lo la Wf m).ev p.2.2):=by
 induction ks with
 | nil=>
  intro vs es h
  rw[List.isEmpty_iff.mp (a9 h),List.isEmpty_iff.mp (aa h)]
  exact⟨[],rfl,rfl,rfl,nofun⟩
 | cons k ks ih=>
  intro vs es h
  exact aj h fun k ek h=>aj h fun v ev h=>aj h fun e ee h=>exE (ih (aa h)) fun ks' z=>by
   rw[← bm ev,← bm ee,ek]
   exact⟨k::ks',congrArg _ z.1,congrArg Nat.succ z.2.1,congrArg Nat.succ z.2.2.1,fun p hpp=>(List.mem_cons.mp hpp).elim (fun e=>e▸⟨S.ev _ _ _ (a9 (a9 h)) m,S.ev _ _ _ (aa (a9 h)) m⟩) (z.2.2.2 p)⟩
theorem ckIt_ok(F:Fix g h0 N n T0 Φ)(S:dc g h0 n Φ lo la Wf ck){x:Expr}{it:It}(h:ckIt T0 ck c x it=true)(m:Nat):fC x=true∧ItT g h0 n c x (bZ (sem Φ lo la Wf m) it):=by
 cases it with
 | val a=>exact⟨aa h,it_val (S.ev _ _ _ (a9 h) m)⟩
 | enum e=>cases h
 | values a=>
  exact aj h fun q e1 h=>aj h fun o e2 h=>by
   have h5:=aa h
   have h:=a9 h
   refine exE (Option.isSome_iff_exists.mp (aa (a9 h))) fun y hy=>exE (cm hy) fun p hy=>?_
   have e3:=fK e2
   have e4:=bd e1
   rw[e3,List.isEmpty_iff.mp (aa h),of_decide_eq_true (a9 (a9 (a9 h))),hy] at e4
   rw[hy] at h5
   rw[e4]
   exact⟨rfl,it_values (fun env=>rfl) (aa (a9 (a9 h))) (S.ev _ _ _ h5 m)⟩
 | range l a2=>
  cases l with
  | none=>exact aj h fun q e1 h=>gp F (a9 h) fun p hf b1 b2=>ckP1E S (aa h) m fun v hx h3 h4=>by rw[bd e1,hf,hx];exact⟨rfl,it_range1 F.B b1 b2 h3 h4⟩
  | some a=>
   exact aj h fun q e1 h=>gp F (a9 h) fun p hf b1 b2=>by
    have l:=cx S (aa h) m
    rw[bd e1,hf]
    rcases hq:q.2.1 with _ | ⟨v,_ | ⟨v2,_ | ⟨v3,vs⟩⟩⟩ <;> rw[hq] at l
    ·exact nomatch l.1
    ·exact nomatch l.1
    ·exact⟨rfl,it_range2 F.B b1 b2 (l.2 (v,a) (List.mem_cons_self ..)).1 (l.2 (v2,a2) (List.mem_cons_of_mem _ (List.mem_cons_self ..))).1 (l.2 (v,a) (List.mem_cons_self ..)).2 (l.2 (v2,a2) (List.mem_cons_of_mem _ (List.mem_cons_self ..))).2⟩
    ·exact nomatch l.1
theorem ckIfs_ok(S:dc g h0 n Φ lo la Wf ck){xs:List Expr}{a:Option E}(h:ckIfs ck c xs a=true)(m:Nat):IfsT g h0 n c xs (fI (sem Φ lo la Wf m) a):=by
 cases a with
 | none=>rw[List.isEmpty_iff.mp h];exact ifs_none
 | some a=>exact aj h fun y e h=>d3 e▸ifs_one (S.bo _ _ _ h m)
theorem evA_no{R:Rec}{a:E}(h:¬ (eAt a).isSome=true):evA R a=evH R a:=by
 funext fr
 unfold evA
 rw[show eAttr a=none from Option.not_isSome_iff_eq_none.mp h]
theorem ev_zero{x:Expr}{e:E}:EvT g h0 n c (fun env=>eval x env) ((sem Φ lo la Wf 0).ev e):=fun fr fr' o h=>by cases h
theorem comp_ok(F:Fix g h0 N n T0 Φ)(S:dc g h0 n Φ lo la Wf ck){t:T}{it:It}{cnd:Option E}{el:E}{elt:Expr}{gn:Comprehension}{sc:Scope}(h:ckComp T0 ck c t it cnd el elt gn sc=true)(m:Nat):
  ∃ c',gn=⟨gn.target,gn.iter,gn.ifs,0⟩∧f7 c t sc c'∧TgE c' t gn.target∧fC gn.iter=true∧ItT g h0 n c gn.iter (bZ (sem Φ lo la Wf m) it)∧IfsT g h0 n c' gn.ifs (fI (sem Φ lo la Wf m) cnd)∧EvT g h0 n c' (fun env=>eval elt env) ((sem Φ lo la Wf m).ev el):=
 have h5:=a9 h
 have h4:=a9 h5
 have h3:=a9 h4
 have h2:=a9 h3
 have i:=ckIt_ok F S (aa h4) m
 ⟨_,by have:=of_decide_eq_true (a9 h2);cases gn;dsimp only at this ⊢;rw[this],ckC_ok (aa h2),ckT_ok (aa h3),i.1,i.2,ckIfs_ok S (aa h5) m,S.ev _ _ _ (aa h) m⟩
theorem ckME{x:Expr}{nm:Str}{p:P}{f:List Expr→Bool}{G:Prop}(h:ckM c x nm p f=true)(k:∀ o ap xs pos,x=.Call (.Attribute o nm ap) xs [] pos→PlE c p o→(ap.endLine==pos.line)=true→f xs=true→G):G:=
 aj h fun q e1 h=>aj h fun o e2 h=>k o.1 o.2.2 q.2.1 q.2.2 (by rw[bd e1,fK e2,of_decide_eq_true (a9 (a9 (a9 h)))]) (ckPl_ok (aa (a9 (a9 h)))) (aa (a9 h)) (aa h)
theorem ckCmpE(S:dc g h0 n Φ lo la Wf ck){x:Expr}{o:CmpOp}{a:E}{f:Expr→Bool}(h:ckCmp ck c x o a f=true)(m:Nat){G:Prop}(k:∀ l r pos,x=.Compare l [o] [r] pos→eI g h0 n c (fun env=>eval l env) (evH (sem Φ lo la Wf m) a)→f r=true→G):G:=
 aj h fun q e1 h=>exE (xCmp_ok e1) fun p hp=>k q.1 q.2.2 p (by rw[hp,of_decide_eq_true (a9 (a9 h))]) (fJ S (aa (a9 h)) m) (aa h)
theorem ef{r:Expr}(h:cW r=true):∃ k p,r=.Constant .none k p:=aj h fun k e h=>of_decide_eq_true h▸xConst_ok e
theorem not_true{b:Bool}(h:(!b)=true):b=false:=by cases b <;> first | rfl | cases h
theorem kInt_ok{k:Const}{i:Int}(h:kInt k=some i):k=.int i:=aN (P:=fun k i=>k=.int i) (fun y=>by cases y <;> first | trivial | exact rfl) h
theorem kStr_ok{k:Const}{i:Str}(h:kStr k=some i):k=.str i:=aN (P:=fun k i=>k=.str i) (fun y=>by cases y <;> first | trivial | exact rfl) h
theorem kBool_ok{k:Const}{i:Bool}(h:kBool k=some i):k=.bool i:=aN (P:=fun k i=>k=.bool i) (fun y=>by cases y <;> first | trivial | exact rfl) h
theorem kNone_ok{k:Const}(h:kNone k=true):k=.none:=b_inv (P:=fun k=>k=.none) (fun y=>by cases y <;> first | trivial | exact rfl) h
theorem const_ok{R:Rec}{v:V}{k:Const}{kd:Nat}{p:Pos}(h:constOk v k=true):EvT g h0 n c (fun env=>eval (.Constant k kd p) env) (al R lo Φ (.const v)):=by
 cases v with
 | int i=>exact aj h fun j e h=>by rw[kInt_ok e,← show i=j from eq_of_beq h];exact ev_const_int
 | str s=>exact aj h fun j e h=>by rw[kStr_ok e,← show strOf s=j from eq_of_beq h];exact ev_const_str
 | none=>rw[kNone_ok h];exact ev_const_none
 | bool b=>exact aj h fun j e h=>by rw[kBool_ok e,← show b=j from eq_of_beq h];exact ev_const_bool
 | _=>cases h
theorem ck_dict(F:Fix g h0 N n T0 Φ)(S:dc g h0 n Φ lo la Wf ck){ks:List (Option Expr)}{vs:List Expr}{b:Bool}{es:List (E×E)}{p:Pos}(h:(if es.isEmpty then ks.isEmpty&&vs.isEmpty else !b&&decide (ks.length≤15)&&ckPr ck c ks vs es)=true)(m:Nat):
  EvT g h0 n c (fun env=>eval (.Dict ks vs p) env) (al (sem Φ lo la Wf m) lo Φ (.dict b es)):=by
 by_cases he:es.isEmpty=true
 ·rw[if_pos he] at h
  rw[List.isEmpty_iff.mp he,List.isEmpty_iff.mp (a9 h),List.isEmpty_iff.mp (aa h)]
  exact ev_dict0 (.inr F.sm)
 ·rw[if_neg he] at h
  rw[not_true (a9 (a9 h))]
  refine exE (ckPr_ok S m (aa h)) fun ks' z=>?_
  have h2:=of_decide_eq_true (aa (a9 h))
  rw[z.1,List.length_map] at h2
  rw[z.1]
  exact ev_dict F.sm (fun e=>he (List.isEmpty_iff.mpr (List.length_eq_zero_iff.mp (z.2.1.symm.trans (by rw[e];rfl))))) h2 z.2.1 z.2.2.1 z.2.2.2
theorem ck_subA(F:Fix g h0 N n T0 Φ){x:Expr}{a b:E}{v sl:Expr}{p:Pos}(h:((eAt a).any fun ia=>ckAt c v ia.1 ia.2&&(cA b).any (fu c sl))=true)(m:Nat):EvT g h0 n c (fun env=>eval (.Subscript v sl p) env) (al (sem Φ lo la Wf m) lo Φ (.sub a b)):=
 aj h fun ia e2 h=>ckAtE (a9 h) fun y p1 p2 e4 a1 a2 a3=>aj (aa h) fun j e5 h=>eY h fun z p3 e6 v1 v2=>by
  rw[eAt_ok e2,e4,gf e5,e6]
  cases m with
  | zero=>exact fun fr fr' o e=>bE e fun p _ e=>bE e fun q e2 e=>noE e2
  | succ m=>exact ev_subA F.B a1 (aZ a2) (bj a2) a3 v1 (aZ v2) (bj v2) rfl
theorem ck_prim(F:Fix g h0 N n T0 Φ)(S:dc g h0 n Φ lo la Wf ck){fn:Expr}{xs:List Expr}{pos:Pos}{a:E}{p:Prim}(hp:p≠.isStr)(h:(gq T0 c fn (cK p)&&ckPH ck c xs a)=true)(m:Nat):
  EvT g h0 n c (fun env=>eval (.Call fn xs [] pos) env) (al (sem Φ lo la Wf m) lo Φ (.prim p a)):=
 gp F (a9 h) fun q hf b1 b2=>ckPHE S (aa h) m fun v e3 h3 h4=>by rw[hf,e3];exact ev_prim F.B b1 b2 h3 hp h4
theorem ck_isStr(F:Fix g h0 N n T0 Φ)(S:dc g h0 n Φ lo la Wf ck){fn:Expr}{xs:List Expr}{pos:Pos}{a:E}(h:(gq T0 c fn "isinstance"&&(xs.head?.any fun v=>az v&&ckH ck c v a)&&((one? xs.tail).any fun s=>gq T0 c s "str"))=true)(m:Nat):
  EvT g h0 n c (fun env=>eval (.Call fn xs [] pos) env) (al (sem Φ lo la Wf m) lo Φ (.prim .isStr a)):=
 gp F (a9 (a9 h)) fun q hf b1 b2=>aj (aa (a9 h)) fun v e2 h2=>aj (aa h) fun s e3 h3=>gp F h3 fun q2 hs b3 b4=>by
  rw[hf,← bm e2,d3 e3,hs]
  exact ev_isStr F.B b1 b2 b3 b4 (a9 h2) (fJ S (aa h2) m)
theorem ck_len(F:Fix g h0 N n T0 Φ)(S:dc g h0 n Φ lo la Wf ck){fn:Expr}{xs:List Expr}{pos:Pos}{a:E}(h:(gq T0 c fn "len"&&(if (eAt a).isSome then (eAt a).any fun ia=>(one? xs).any fun v=>ckAt c v ia.1 ia.2 else ckPH ck c xs a))=true)(m:Nat):
  EvT g h0 n c (fun env=>eval (.Call fn xs [] pos) env) (al (sem Φ lo la Wf m) lo Φ (.len a)):=
 gp F (a9 h) fun p hf b1 b2=>by
  have h:=aa h
  rw[hf]
  by_cases ha:(eAt a).isSome=true
  ·rw[if_pos ha] at h
   exact aj h fun ia e2 h=>aj h fun v e3 h=>ckAtE h fun y p p2 e4 a1 a2 a3=>by
    rw[eAt_ok e2,d3 e3,e4]
    exact ev_lenA F.B a1 (aZ a2) (bj a2) a3 b1 b2
  ·rw[if_neg ha] at h
   exact ckPHE S h m fun v e3 h3 h4=>e3▸ev_len F.B (evA_no ha) b1 b2 h3 h4
theorem ckE1_ok(F:Fix g h0 N n T0 Φ)(S:dc g h0 n Φ lo la Wf ck)(x:Expr)(e:E)(h:ckE1 T0 ck c x e=true)(m:Nat):EvT g h0 n c (fun env=>eval x env) (al (sem Φ lo la Wf m) lo Φ e):=by
 cases e with
 | stuck=>exact fun fr fr' o e=>noE e
 | const v=>
  exact(Bool.or_eq_true_iff.mp h).elim (fun h=>aj h fun k e1 h=>exE (xConst_ok e1) fun kd z=>exE z fun p z=>z▸const_ok h)
   fun h=>aj h fun y e1 h=>exE (cm e1) fun p hp=>hp▸ev_global F.B (of_decide_eq_true (a9 (a9 h))) (F.gt▸gtHas_ok (aa (a9 h))) (aZ (aa h))
 | var i=>exact eY h fun y p hp a b=>hp▸ev_var a (aZ b) (bj b)
 | bin o a b=>exact aj h fun q e1 h=>exE (xBin_ok e1) fun p hp=>by rw[hp,of_decide_eq_true (a9 (a9 h))];exact ev_bin (S.ev _ _ _ (aa (a9 h)) m) (S.ev _ _ _ (aa h) m)
 | neg a=>exact aj h fun q e1 h=>exE (xUn_ok e1) fun p hp=>by rw[hp,of_decide_eq_true (a9 h)];exact ev_neg (S.ev _ _ _ (aa h) m)
 | cmp o a b=>exact ckCmpE (x:=x) (o:=cOf o) (a:=a) (f:=fun r=>!(behindInMarks (cOf o) r)&&ckH ck c r b) S h m fun l r p hp a1 h=>hp▸ev_cmp (not_true (a9 h)) a1 (fJ S (aa h) m)
 | isNone a=>exact ckCmpE (x:=x) (o:=.Is) (a:=a) (f:=cW) S h m fun l r p hp a1 h=>exE (ef h) fun k z=>exE z fun q z=>by rw[hp,z];exact ev_isNone a1
 | notNone a=>exact ckCmpE (x:=x) (o:=.IsNot) (a:=a) (f:=cW) S h m fun l r p hp a1 h=>exE (ef h) fun k z=>exE z fun q z=>by rw[hp,z];exact ev_notNone a1
 | not a=>exact aj h fun q e1 h=>exE (xUn_ok e1) fun p hp=>by rw[hp,of_decide_eq_true (a9 h)];exact ev_not (S.ev _ _ _ (aa h) m)
 | and es=>
  exact aj h fun q e1 h=>exE (fL e1) fun p hp=>by
   rw[hp,of_decide_eq_true (a9 (a9 h))]
   exact ev_and (List.isEmpty_eq_false_iff.mp (not_true (aa (a9 h)))) (d7 (aa h)).1 fun p hp=>S.ev _ _ _ ((d7 (aa h)).2 p hp) m
 | or es=>
  exact aj h fun q e1 h=>exE (fL e1) fun p hp=>by
   rw[hp,of_decide_eq_true (a9 (a9 h))]
   exact ev_or (List.isEmpty_eq_false_iff.mp (not_true (aa (a9 h)))) (d7 (aa h)).1 fun p hp=>S.ev _ _ _ ((d7 (aa h)).2 p hp) m
 | ite a b d=>exact aj h fun q e1 h=>exE (xIf_ok e1) fun p hp=>hp▸ev_ite (S.bo _ _ _ (a9 (a9 h)) m) (S.ev _ _ _ (aa (a9 h)) m) (S.ev _ _ _ (aa h) m)
 | tup es=>exact aj h fun xs e1 h=>exE (f8 e1) fun k z=>exE z fun p z=>z▸ev_tup (evs_ok (cx S h m).1 (cx S h m).2)
 | list es=>exact aj h fun xs e1 h=>exE (xList_ok e1) fun p z=>z▸ev_list (evs_ok (cx S h m).1 (cx S h m).2)
 | dict b es=>exact aj h fun q e1 h=>exE (xDict_ok e1) fun p z=>z▸ck_dict F S h m
 | call f es=>
  exact aj h fun q e1 h=>aj h fun y e2 h=>exE (cm e2) fun p e2=>by
   have l:=cx S (aa h) m
   have h:=a9 h
   rw[bd e1,e2]
   exact ev_call F.B F.FF (of_decide_eq_true (a9 (a9 h))) (F.gt▸gtHas_ok (aa (a9 h))) (aZ (aa h)) l.1 l.2 fun env=>noStar l.1 fun p hp=>(l.2 p hp).1
 | callv i es=>
  exact aj h fun q e1 h=>eY (a9 h) fun y p e2 v1 v2=>by
   rw[bd e1,e2]
   exact ev_callv F.B F.FF v1 v2 (cx S (aa h) m).1 (cx S (aa h) m).2
 | new cc es=>
  exact aj h fun q e1 h=>aj h fun y e2 h=>exE (cm e2) fun p e2=>by
   have l:=cx S (aa h) m
   have d:=of_decide_eq_true (a9 h)
   rw[bd e1,e2,d.2.1]
   exact ev_new F.B F.FF d.1 (d.2.1▸d.2.2) (F.cls _ d.1).1 (F.cls _ d.1).2 (by rcases cc with _ | cc <;> first | decide | (show (("Unit":Str)==_)=false;decide)) l.1 l.2 fun env=>noStar l.1 fun p hp=>(l.2 p hp).1
 | meth f i es=>
  exact aj h fun q e1 h=>aj h fun o e2 h=>by
   have l:=cx S (aa h) m
   have h:=a9 h
   have d:=of_decide_eq_true (a9 (a9 h))
   refine eY (aa (a9 h)) fun y p e3 v1 v2=>?_
   rw[bd e1,fK e2,e3]
   exact ev_meth F.B F.FF d.1 v1 v2 (F.ms▸d.2.1) d.2.2.1 (aa h) l.1 d.2.2.2 l.2
 | attr e a=>exact aj h fun i e1 h=>ckAtE h fun y p p2 hp a1 a2 a3=>by rw[hp,gf e1];exact ev_attr F.B a1 (aZ a2) (bj a2) a3
 | len a=>exact aj h fun q e1 h=>bd e1▸ck_len F S h m
 | sub a b=>
  exact aj h fun q e1 h=>exE (xSub_ok e1) fun p hp=>by
   rw[hp]
   by_cases ha:(eAt a).isSome=true
   ·rw[if_pos ha] at h;exact ck_subA (x:=x) F h m
   ·rw[if_neg ha] at h;exact ev_sub (evA_no ha) (fJ S (a9 h) m) (S.ev _ _ _ (aa h) m)
 | slice a l hh=>
  exact aj h fun q e1 h=>exE (xSub_ok e1) fun p hp=>aj h fun s e2 h=>exE (xSlice_ok e2) fun p2 e2=>by
   rw[hp,e2]
   exact ev_slice (fJ S (a9 (a9 h)) m) (optX_ok S (aa (a9 h)) m) (optX_ok S (aa h) m)
 | prim p a=>
  exact aj h fun q e1 h=>by
   rw[bd e1]
   cases p with
   | isStr=>exact ck_isStr F S h m
   | _=>exact ck_prim F S (by exact nofun) h m
 | lrange a=>
  exact aj h fun q e1 h=>gp F (a9 h) fun p hf b1 b2=>aj (aa h) fun y e2 h=>aj h fun q2 e3 h=>gp F (a9 h) fun p2 hf2 b3 b4=>ckP1E S (aa h) m fun v e4 h5 h6=>by
   rw[bd e1,hf,d3 e2,bd e3,hf2,e4]
   exact ev_lrange F.B b1 b2 b3 b4 h5 h6
 | comp t it cnd el=>
  exact aj h fun q e1 h=>exE (xComp_ok e1) fun p hp=>exE (comp_ok F S h m) fun c' z=>by
   rw[hp,z.1]
   exact ev_comp z.2.1 z.2.2.1 z.2.2.2.1 z.2.2.2.2.1 z.2.2.2.2.2.1 z.2.2.2.2.2.2
 | app p a=>exact ckME (x:=x) (nm:="append") (p:=p) (f:=fun xs=>ckP1 ck c xs a) h fun o ap xs pos hp k1 k2 h=>ckP1E S h m fun v hv h3 h4=>by rw[hp,hv];exact ev_app F.B k1 h3 k2 h4
 | ext p a=>exact ckME (x:=x) (nm:="extend") (p:=p) (f:=fun xs=>ckP1 ck c xs a) h fun o ap xs pos hp k1 k2 h=>ckP1E S h m fun v hv h3 h4=>by rw[hp,hv];exact ev_ext F.B k1 h3 k2 h4
 | pop p a=>
  cases a with
  | none=>exact ckME (x:=x) (nm:="pop") (p:=p) (f:=fun xs=>xs.isEmpty) h fun o ap xs pos hp k1 k2 h=>by rw[hp,List.isEmpty_iff.mp h];exact ev_popN F.B k1 k2
  | some a=>exact ckME (x:=x) (nm:="pop") (p:=p) (f:=fun xs=>ckP1 ck c xs a) h fun o ap xs pos hp k1 k2 h=>ckP1E S h m fun v hv h3 h4=>by rw[hp,hv];exact ev_popI F.B k1 h3 k2 h4
theorem bo_map{t:Env→Sem Bool}{R:Rec}{e:E}{f:Fr→Option (Bool×Fr)}(hE:R.ev e=fun fr=>(f fr).bind fun p=>some (.v (.bool p.1),p.2))(h:BoT g h0 n c t f):BoT g h0 n c t (evB R e):=
 fun fr fr' b er=>h fr fr' b (evB_map hE er)
theorem bo_zero{t:Env→Sem Bool}{e:E}:BoT g h0 n c t (evB (sem Φ lo la Wf 0) e):=fun fr fr' b h=>by cases h
theorem isTrue_plain{x:Expr}{env:Env}(hp:plainT x=true){w:Sem Value}:isTrue x env w=(do let v ← w;standAt x.pos;holding [v] (truthy v)):=by
 cases x with
 | UnaryOp op a p=>cases op <;> first | rfl | cases hp
 | BoolOp op xs p=>cases hp
 | IfExp a b d p=>cases hp
 | Compare a b d p=>cases hp
 | _=>rfl
theorem ckB1_ok(S:dc g h0 n Φ lo la Wf ck)(x:Expr)(e:E)(h:ckB1 ck c x e=true)(m:Nat):BoT g h0 n c (fun env=>isTrue x env (eval x env)) (evB (sem Φ lo la Wf (m+1)) e):=by
 have key:(plainT x&&ck false c x e)=true→BoT g h0 n c (fun env=>isTrue x env (eval x env)) (evB (sem Φ lo la Wf (m+1)) e):=fun h=>
  bo_val (t:=fun env=>eval x env) (fun env=>isTrue_plain (a9 h)) (S.ev _ _ _ (aa h) (m+1))
 cases e with
 | stuck=>exact fun fr fr' o e=>by cases e
 | cmp o a b=>exact ckCmpE (x:=x) (o:=cOf o) (a:=a) (f:=fun r=>!(behindInMarks (cOf o) r)&&ckH ck c r b) S h m fun l r p hp a1 h=>hp▸bo_map (R:=sem Φ lo la Wf (m+1)) (ir_cmp (lo:=lo) (Φ:=Φ)) ((ch_cmp a1 (fJ S (aa h) m)).bo (not_true (a9 h)))
 | isNone a=>exact ckCmpE (x:=x) (o:=.Is) (a:=a) (f:=cW) S h m fun l r p hp a1 h=>exE (ef h) fun k z=>exE z fun q z=>by rw[hp,z];exact bo_map (R:=sem Φ lo la Wf (m+1)) (ir_isNone (lo:=lo) (Φ:=Φ)) ((ch_isNone a1).bo rfl)
 | notNone a=>exact ckCmpE (x:=x) (o:=.IsNot) (a:=a) (f:=cW) S h m fun l r p hp a1 h=>exE (ef h) fun k z=>exE z fun q z=>by rw[hp,z];exact bo_map (R:=sem Φ lo la Wf (m+1)) (ir_notNone (lo:=lo) (Φ:=Φ)) ((ch_notNone a1).bo rfl)
 | not a=>
  exact aj h fun q e1 h=>exE (xUn_ok e1) fun p hp=>by
   rw[hp,of_decide_eq_true (a9 h)]
   exact bo_map (R:=sem Φ lo la Wf (m+1)) (funext fun fr=>(Option.bind_assoc (evB (sem Φ lo la Wf m) a fr) (fun p=>some (!p.1,p.2)) (fun p=>some (Own.v (.bool p.1),p.2))).symm) (bo_not (S.bo _ _ _ (aa h) m))
 | and es=>
  exact aj h fun q e1 h=>exE (fL e1) fun p hp=>by
   rw[hp,of_decide_eq_true (a9 h)]
   exact bo_map (R:=sem Φ lo la Wf (m+1)) rfl (bo_boolOp (bools_and (d7 (aa h)).1 fun p hp=>S.bo _ _ _ ((d7 (aa h)).2 p hp) m))
 | or es=>
  exact aj h fun q e1 h=>exE (fL e1) fun p hp=>by
   rw[hp,of_decide_eq_true (a9 h)]
   exact bo_map (R:=sem Φ lo la Wf (m+1)) rfl (bo_boolOp (bools_or (d7 (aa h)).1 fun p hp=>S.bo _ _ _ ((d7 (aa h)).2 p hp) m))
 | _=>exact key h
theorem ckE_ok(F:Fix g h0 N n T0 Φ)(d:Nat):dc g h0 n Φ lo la Wf (ckE T0 d):=by
 induction d with
 | zero=>exact⟨fun _ _ _ h=>(Bool.false_ne_true h).elim,fun _ _ _ h=>(Bool.false_ne_true h).elim⟩
 | succ d ih=>
  refine⟨fun c x e h m=>?_,fun c x e h m=>?_⟩
  ·cases m with
   | zero=>exact ev_zero
   | succ m=>exact ckE1_ok F ih x e h m
  ·cases m with
   | zero=>exact bo_zero
   | succ m=>exact ckB1_ok ih x e h m
end
noncomputable def ckNames(c:Ctx)(lo:Nat):List Expr→List Nat→Bool
 | [],is=>is.isEmpty
 | e::es,is=>(dx e).any fun x=>is.head?.any fun i=>decide ((x,i)∈c.vars∧x∈c.asg∧lo≤i)&&ckNames c lo es is.tail
theorem ckNames_ok{c:Ctx}{lo:Nat}{es:List Expr}:∀ {is:List Nat},ckNames c lo es is=true→∃ tn:List (Str×Nat×Pos),es=tn.map dF∧is=tn.map (·.2.1)∧∀ z∈tn,(z.1,z.2.1)∈c.vars∧z.1∈c.asg∧lo≤z.2.1:=by
 induction es with
 | nil=>exact fun {is} h=>⟨[],rfl,List.isEmpty_iff.mp h,nofun⟩
 | cons e es ih=>
  exact fun {is} h=>aj h fun x e1 h=>exE (cm e1) fun p hp=>aj h fun i e2 h=>exE (ih (aa h)) fun tn z=>
   ⟨(x,i,p)::tn,by rw[hp,z.1];exact rfl,by rw[← bm e2,z.2.1];exact rfl,fun q hq=>(List.mem_cons.mp hq).elim (fun e=>e▸of_decide_eq_true (a9 h)) (z.2.2 q)⟩
noncomputable def fT{α:Type}(d:α)(ex:Expr→α:=fun _=>d)(asg:List Expr→Expr→α:=fun _ _=>d)(iff:Expr→List Stmt→List Stmt→α:=fun _ _ _=>d)(forr:Expr→Expr→List Stmt→List Stmt→α:=fun _ _ _ _=>d)(whil:Expr→List Stmt→List Stmt→α:=fun _ _ _=>d)(ret:Option Expr→α:=fun _=>d)(cont:α:=d)(brk:α:=d):Stmt→α
 | .Expr v _=>ex v
 | .Assign t v _=>asg t v
 | .If x a b _=>iff x a b
 | .For e it b o _=>forr e it b o
 | .While x b o _=>whil x b o
 | .Return v _=>ret v
 | .Continue _=>cont
 | .Break _=>brk
 | _=>d
theorem ce{β:Type}{P:Stmt→β→Prop}{ex:Expr→Option β}{asg:List Expr→Expr→Option β}{iff:Expr→List Stmt→List Stmt→Option β}{forr:Expr→Expr→List Stmt→List Stmt→Option β}{whil:Expr→List Stmt→List Stmt→Option β}{ret:Option Expr→Option β}{cont:Option β}{brk:Option β}
  (h_ex:∀ v p,(ex v).elim True (P (.Expr v p)):=by intros;trivial) (h_asg:∀ t v p,(asg t v).elim True (P (.Assign t v p)):=by intros;trivial) (h_iff:∀ x a b p,(iff x a b).elim True (P (.If x a b p)):=by intros;trivial) (h_forr:∀ e i b o p,(forr e i b o).elim True (P (.For e i b o p)):=by intros;trivial) (h_whil:∀ x b o p,(whil x b o).elim True (P (.While x b o p)):=by intros;trivial) (h_ret:∀ v p,(ret v).elim True (P (.Return v p)):=by intros;trivial) (h_cont:∀ p,cont.elim True (P (.Continue p)):=by intros;trivial) (h_brk:∀ p,brk.elim True (P (.Break p)):=by intros;trivial) (y:Stmt):(fT none ex asg iff forr whil ret cont brk y).elim True (P y):=by
 cases y <;> first | trivial | exact h_ex _ _ | exact h_asg _ _ _ | exact h_iff _ _ _ _ | exact h_forr _ _ _ _ _ | exact h_whil _ _ _ _ | exact h_ret _ _ | exact h_cont _ | exact h_brk _
noncomputable def sExpr:Stmt→Option Expr:=fT none (ex:=some)
theorem sExpr_ok{s:Stmt}{b:Expr}(h:sExpr s=some b):∃ p,s=.Expr b p:=aN (f:=sExpr) (P:=fun s b=>∃ p,s=.Expr b p) (ce (h_ex:=by exact fun _ _=>⟨_,rfl⟩)) h
noncomputable def sAsg:Stmt→Option (List Expr×Expr):=fT none (asg:=fun t v=>some (t,v))
theorem sAsg_ok{s:Stmt}{b:(List Expr×Expr)}(h:sAsg s=some b):∃ p,s=.Assign b.1 b.2 p:=aN (f:=sAsg) (P:=fun s b=>∃ p,s=.Assign b.1 b.2 p) (ce (h_asg:=by exact fun _ _ _=>⟨_,rfl⟩)) h
noncomputable def sIf:Stmt→Option (Expr×List Stmt×List Stmt):=fT none (iff:=fun x a b=>some (x,a,b))
theorem sIf_ok{s:Stmt}{b:(Expr×List Stmt×List Stmt)}(h:sIf s=some b):∃ p,s=.If b.1 b.2.1 b.2.2 p:=aN (f:=sIf) (P:=fun s b=>∃ p,s=.If b.1 b.2.1 b.2.2 p) (ce (h_iff:=by exact fun _ _ _ _=>⟨_,rfl⟩)) h
noncomputable def sFor:Stmt→Option (Expr×Expr×List Stmt×List Stmt):=fT none (forr:=fun e it b o=>some (e,it,b,o))
theorem sFor_ok{s:Stmt}{b:(Expr×Expr×List Stmt×List Stmt)}(h:sFor s=some b):∃ p,s=.For b.1 b.2.1 b.2.2.1 b.2.2.2 p:=aN (f:=sFor) (P:=fun s b=>∃ p,s=.For b.1 b.2.1 b.2.2.1 b.2.2.2 p) (ce (h_forr:=by exact fun _ _ _ _ _=>⟨_,rfl⟩)) h
noncomputable def sWhile:Stmt→Option (Expr×List Stmt×List Stmt):=fT none (whil:=fun x b o=>some (x,b,o))
theorem sWhile_ok{s:Stmt}{b:(Expr×List Stmt×List Stmt)}(h:sWhile s=some b):∃ p,s=.While b.1 b.2.1 b.2.2 p:=aN (f:=sWhile) (P:=fun s b=>∃ p,s=.While b.1 b.2.1 b.2.2 p) (ce (h_whil:=by exact fun _ _ _ _=>⟨_,rfl⟩)) h
noncomputable def sRet:Stmt→Option (Option Expr):=fT none (ret:=some)
theorem sRet_ok{s:Stmt}{b:(Option Expr)}(h:sRet s=some b):∃ p,s=.Return b p:=aN (f:=sRet) (P:=fun s b=>∃ p,s=.Return b p) (ce (h_ret:=by exact fun _ _=>⟨_,rfl⟩)) h
noncomputable def sCont:Stmt→Option Unit:=fT none (cont:=some ())
theorem sCont_ok{s:Stmt}{b:Unit}(h:sCont s=some b):∃ p,s=.Continue p:=aN (f:=sCont) (P:=fun s b=>∃ p,s=.Continue p) (ce (h_cont:=by exact fun _=>⟨_,rfl⟩)) h
noncomputable def sBrk:Stmt→Option Unit:=fT none (brk:=some ())
theorem sBrk_ok{s:Stmt}{b:Unit}(h:sBrk s=some b):∃ p,s=.Break p:=aN (f:=sBrk) (P:=fun s b=>∃ p,s=.Break p) (ce (h_brk:=by exact fun _=>⟨_,rfl⟩)) h
noncomputable def eComp:E→Option (T×It×Option E×E)
 | .comp t it cnd el=>some (t,it,cnd,el)
 | _=>none
theorem eComp_ok{e:E}{b:T×It×Option E×E}(h:eComp e=some b):e=.comp b.1 b.2.1 b.2.2.1 b.2.2.2:=aN (P:=fun e b=>e=.comp b.1 b.2.1 b.2.2.1 b.2.2.2) (fun y=>by cases y <;> first | trivial | exact rfl) h
noncomputable def eConst:E→Option V
 | .const v=>some v
 | _=>none
theorem eConst_ok{e:E}{v:V}(h:eConst e=some v):e=.const v:=aN (P:=fun e v=>e=.const v) (fun y=>by cases y <;> first | trivial | exact rfl) h
noncomputable def eNone(e:E):Bool:=(eConst e).any vN
theorem eNone_ok{e:E}(h:eNone e=true):e=.const .none:=aj h fun v e h=>vN_ok h▸eConst_ok e
noncomputable def iEnum:It→Option E
 | .enum a=>some a
 | _=>none
theorem iEnum_ok{it:It}{a:E}(h:iEnum it=some a):it=.enum a:=aN (P:=fun e v=>e=.enum v) (fun y=>by cases y <;> first | trivial | exact rfl) h
noncomputable def tTup:T→Option (List T)
 | .tup ts=>some ts
 | _=>none
theorem tTup_ok{t:T}{ts:List T}(h:tTup t=some ts):t=.tup ts:=aN (P:=fun e v=>e=.tup v) (fun y=>by cases y <;> first | trivial | exact rfl) h
section
variable (T0:Tab) (ck:Bool→Ctx→Expr→E→Bool) (lo:Nat) (ks:Ctx→List Stmt→List S→Bool)
noncomputable def ckAsg(c:Ctx)(tg v:Expr)(t:Tg)(a:E):Bool:=match t with
 | .t (.var i)=>(dx tg).any fun x=>decide ((x,i)∈c.vars∧x∈c.asg)&&(if df v then ck false c v a else (eComp a).any fun q=>(xComp v).any fun r=>ckComp T0 ck c q.1 q.2.1 q.2.2.1 q.2.2.2 r.1 r.2.1 r.2.2)
 | .t (.tup ts)=>(xTup tg).any fun es=>ckTs c ts es&&df v&&notTup v&&ck false c v a
 | .attr i k=>ckAt c tg i k&&notTup v&&ck false c v a
 | .sub p b=>(xSub tg).any fun q=>ckPl c p q.1&&ck false c v a&&ck false c q.2 b
noncomputable def ckFor(c:Ctx)(t:T)(it:It)(e iter:Expr):Bool:=
 if (iEnum it).isSome then (iEnum it).any fun a=>(tTup t).any fun ts=>(xTup e).any fun es=>(de iter).any fun r=>gq T0 c r.1 "enumerate"&&ckTs c ts es&&ckP1 ck c r.2.1 a
 else ckT c t e&&ckIt T0 ck c iter it
noncomputable def ckRet(c:Ctx)(v:Option Expr)(a:E):Bool:=if isVar a then (cA a).any fun i=>v.any fun x=>fu c x i else if v.isNone then eNone a else v.any fun x=>ck false c x a
noncomputable def ckS1(c:Ctx)(st:Stmt)(s:S):Bool:=match s with
 | .stuck=>true
 | .expr a=>(sExpr st).any fun v=>df v&&ck false c v a
 | .asg t a=>(sAsg st).any fun q=>(one? q.1).any fun x=>ckAsg T0 ck c x q.2 t a
 | .asgT is es=>(sAsg st).any fun q=>(one? q.1).any fun x=>(xTup x).any fun ns=>(xTup q.2).any fun vs=>ckNames c lo ns is&&decide (is.Nodup∧ns.length=vs.length∧(vs.all (foldedForSure 8)=true∨vs.all (constantsAlone 8)=false)∧es.length≤cap)&&ckL1 ck c vs es
 | .iff a b1 b2=>(sIf st).any fun q=>ck true c q.1 a&&ks c q.2.1 b1&&ks c q.2.2 b2
 | .forr t it b=>(sFor st).any fun q=>ks c q.2.2.1 b&&q.2.2.2.isEmpty&&ckFor T0 ck c t it q.1 q.2.1
 | .whil a b=>(sWhile st).any fun q=>ck true c q.1 a&&ks c q.2.1 b&&q.2.2.isEmpty
 | .ret a=>(sRet st).any fun v=>ckRet ck c v a
 | .cont=>(sCont st).any fun _=>true
 | .brk=>(sBrk st).any fun _=>true
end
noncomputable def ckS(T0:Tab)(D lo:Nat):Nat→Ctx→Stmt→S→Bool
 | 0,_,_,_=>false
 | d+1,c,st,s=>ckS1 T0 (ckE T0 D) lo (fun c ss Ss=>ckL (ckS T0 D lo d c) ss Ss) c st s
section
variable {g:G} {h0:Heap} {N:aR} {n:Nat} {c:Ctx} {lo la Wf:Nat} {Φ:Nat→List Own→Option (Own×Own)} {T0:Tab} {ck:Bool→Ctx→Expr→E→Bool}
theorem ckTs_ok{ts:List T}{es:List Expr}(h:ckTs c ts es=true):TgEs c ts es:=by
 cases ckT_ok (t:=.tup ts) (e:=.Tuple es 0 ⟨0,0,0,0⟩) h with
 | tup a=>exact a
theorem ckAsgV_ok(F:Fix g h0 N n T0 Φ)(S0:dc g h0 n Φ lo la Wf ck){tg v:Expr}{i:Nat}{a:E}{pos:Pos}(h:ckAsg T0 ck c tg v (.t (.var i)) a=true)(m:Nat):
  ExT g h0 n lo la c (fun env=>exec (.Assign [tg] v pos) env) (aY (sem Φ lo la Wf m) lo la Wf (.asg (.t (.var i)) a)):=
 aj h fun x e1 h=>exE (cm e1) fun p hp=>by
  rw[hp]
  have d:=of_decide_eq_true (a9 h)
  have h:=aa h
  by_cases hv:df v=true
  ·rw[if_pos hv] at h
   exact ex_asgV d.1 d.2 hv (S0.ev _ _ _ h m)
  ·rw[if_neg hv] at h
   exact aj h fun q e2 h=>aj h fun r e3 h=>exE (xComp_ok e3) fun p2 e3=>by
    rw[eComp_ok e2,e3]
    cases m with
    | zero=>exact fun fr fr' f e=>noE e
    | succ m=>
     exact exE (comp_ok F S0 h m) fun c' z=>by
      rw[z.1]
      exact ex_asgC (Φ:=Φ) d.1 d.2 z.2.1 z.2.2.1 z.2.2.2.1 z.2.2.2.2.1 z.2.2.2.2.2.1 z.2.2.2.2.2.2 rfl
theorem ckAsg_ok(F:Fix g h0 N n T0 Φ)(S0:dc g h0 n Φ lo la Wf ck){tg v:Expr}{t:Tg}{a:E}{pos:Pos}(h:ckAsg T0 ck c tg v t a=true)(m:Nat):
  ExT g h0 n lo la c (fun env=>exec (.Assign [tg] v pos) env) (aY (sem Φ lo la Wf m) lo la Wf (.asg t a)):=by
 cases t with
 | t t=>
  cases t with
  | var i=>exact ckAsgV_ok F S0 h m
  | tup ts=>exact aj h fun es e1 h=>exE (f8 e1) fun k z=>exE z fun p z=>z▸ex_asgT (ckTs_ok (a9 (a9 (a9 h)))) (aa (a9 (a9 h))) (aa (a9 h)) (S0.ev _ _ _ (aa h) m)
 | attr i k=>exact ckAtE (a9 (a9 h)) fun y p p2 hp a1 a2 a3=>hp▸ex_asgA F.B a1 a2 a3 (aa (a9 h)) (S0.ev _ _ _ (aa h) m)
 | sub p b=>exact aj h fun q e1 h=>exE (xSub_ok e1) fun p hp=>hp▸ex_asgS F.B (ckPl_ok (a9 (a9 h))) (S0.ev _ _ _ (aa (a9 h)) m) (S0.ev _ _ _ (aa h) m)
theorem ckFor_ok(F:Fix g h0 N n T0 Φ)(S0:dc g h0 n Φ lo la Wf ck){t:T}{it:It}{e iter:Expr}{b:List Stmt}{Bs:List S}{pos:Pos}(h:ckFor T0 ck c t it e iter=true)(m:Nat)(hb:ExT g h0 n lo la c (fun env=>execs b env) (exs (sem Φ lo la Wf m) Bs)):
  ExT g h0 n lo la c (fun env=>exec (.For e iter b [] pos) env) (aY (sem Φ lo la Wf m) lo la Wf (.forr t it Bs)):=by
 unfold ckFor at h
 by_cases hi:(iEnum it).isSome=true
 ·rw[if_pos hi] at h
  exact aj h fun a e2 h=>aj h fun ts e3 h=>aj h fun es e4 h=>exE (f8 e4) fun k z=>exE z fun p2 e4=>aj h fun r e5 h=>gp F (a9 (a9 h)) fun p3 hf b1 b2=>ckP1E S0 (aa h) m fun v e6 h5 h6=>by
   rw[iEnum_ok e2,tTup_ok e3,e4,bd e5,hf,e6]
   exact ex_forEnum F.B b1 b2 h5 (ckTs_ok (aa (a9 h))) h6 hb
 ·rw[if_neg hi] at h
  have i:=ckIt_ok F S0 (aa h) m
  exact ex_for (ckT_ok (a9 h)) i.1 i.2 hb
theorem ckRet_ok(S0:dc g h0 n Φ lo la Wf ck){v:Option Expr}{a:E}{pos:Pos}(h:ckRet ck c v a=true)(m:Nat):ExT g h0 n lo la c (fun env=>exec (.Return v pos) env) (aY (sem Φ lo la Wf m) lo la Wf (.ret a)):=by
 unfold ckRet at h
 by_cases ha:isVar a=true
 ·rw[if_pos ha] at h
  exact aj h fun i e2 h=>aj h fun x e3 h=>eY h fun y p2 hp a1 a2=>by
   rw[gf e2,e3,hp]
   exact ex_retV a1 a2
 ·rw[if_neg ha] at h
  by_cases hv:v.isNone=true
  ·rw[if_pos hv] at h
   rw[Option.isNone_iff_eq_none.mp hv,eNone_ok h]
   cases m with
   | zero=>exact fun fr fr' f e=>noE e
   | succ m=>exact fun fr fr' f e=>sp e fun k W s ρ env A Q Ex Rm O q=>wpAny_Return_none (q W s.heap s.toks ρ _ O .refl (fun _ _=>rfl) (.ret (.v .none)))
  ·rw[if_neg hv] at h
   exact aj h fun x e3 h=>e3▸ex_ret (Option.not_isSome_iff_eq_none.mp ha) (S0.ev _ _ _ h m)
theorem ckS1_ok(F:Fix g h0 N n T0 Φ)(S0:dc g h0 n Φ lo la Wf ck){ks:Ctx→List Stmt→List S→Bool}(hks:∀ c ss Ss,ks c ss Ss=true→∀ m,ExT g h0 n lo la c (fun env=>execs ss env) (exs (sem Φ lo la Wf m) Ss)){st:Stmt}{s:S}(h:ckS1 T0 ck lo ks c st s=true)
  (m:Nat):ExT g h0 n lo la c (fun env=>exec st env) (aY (sem Φ lo la Wf m) lo la Wf s):=by
 cases s with
 | stuck=>exact fun fr fr' f e=>noE e
 | expr a=>exact aj h fun v e1 h=>exE (sExpr_ok e1) fun p hp=>hp▸ex_expr (a9 h) (S0.ev _ _ _ (aa h) m)
 | asg t a=>exact aj h fun q e1 h=>aj h fun x e2 h=>exE (sAsg_ok e1) fun p hp=>by rw[hp,d3 e2];exact ckAsg_ok F S0 h m
 | asgT is es=>
  exact aj h fun q e1 h=>aj h fun x e2 h=>exE (sAsg_ok e1) fun p hp=>aj h fun ns e3 h=>exE (f8 e3) fun k e3=>exE e3 fun p2 e3=>aj h fun vs e4 h=>exE (f8 e4) fun k2 e4=>exE e4 fun p3 e4=>by
   have d:=of_decide_eq_true (aa (a9 h))
   have l:=cx S0 (aa h) m
   refine exE (ckNames_ok (a9 (a9 h))) fun tn z=>?_
   rw[z.1,List.length_map] at d
   rw[z.2.1] at d
   rw[hp,d3 e2,e3,e4,z.1,z.2.1]
   exact ex_asgTT z.2.2 d.1 d.2.1 d.2.2.1 d.2.2.2 l.1 l.2
 | iff a b1 b2=>exact aj h fun q e1 h=>exE (sIf_ok e1) fun p hp=>hp▸ex_iff (S0.bo _ _ _ (a9 (a9 h)) m) (hks _ _ _ (aa (a9 h)) m) (hks _ _ _ (aa h) m)
 | forr t it b=>exact aj h fun q e1 h=>exE (sFor_ok e1) fun p hp=>by rw[hp,List.isEmpty_iff.mp (aa (a9 h))];exact ckFor_ok F S0 (aa h) m (hks _ _ _ (a9 (a9 h)) m)
 | whil a b=>exact aj h fun q e1 h=>exE (sWhile_ok e1) fun p hp=>by rw[hp,List.isEmpty_iff.mp (aa h)];exact ex_while (S0.bo _ _ _ (a9 (a9 h)) m) (hks _ _ _ (aa (a9 h)) m)
 | ret a=>exact aj h fun v e1 h=>exE (sRet_ok e1) fun p hp=>hp▸ckRet_ok S0 h m
 | cont=>exact aj h fun _ h _=>exE (sCont_ok h) fun p hp=>hp▸ex_cont
 | brk=>exact aj h fun _ h _=>exE (sBrk_ok h) fun p hp=>hp▸ex_brk
theorem ckS_ok(F:Fix g h0 N n T0 Φ)(D d:Nat):∀ (c:Ctx) (st:Stmt) (s:S),ckS T0 D lo d c st s=true→∀ m,ExT g h0 n lo la c (fun env=>exec st env) ((sem Φ lo la Wf m).ex s):=by
 induction d with
 | zero=>exact fun _ _ _ h=>(Bool.false_ne_true h).elim
 | succ d ih=>
  intro c st s h m
  cases m with
  | zero=>exact fun fr fr' f e=>noE e
  | succ m=>exact ckS1_ok F (ckE_ok F D) (fun c ss Ss h m=>have z:=d7 h;exs_ok z.1 fun p hp=>ih c _ _ (z.2 p hp) m) h m
theorem ckB_ok(F:Fix g h0 N n T0 Φ){D d:Nat}{ss:List Stmt}{Ss:List S}(h:ckL (ckS T0 D lo d c) ss Ss=true)(m:Nat):ExT g h0 n lo la c (fun env=>execs ss env) (exs (sem Φ lo la Wf m) Ss):=
 have z:=d7 h
 exs_ok z.1 fun p hp=>ckS_ok F D d c _ _ (z.2 p hp) m
end
theorem lookup_zip{x:Str}{ns:List Str}:∀ {vs:List Value},ns.length=vs.length→x∈ns→∃ v,List.lookup x (ns.zip vs)=some v:=by
 induction ns with
 | nil=>exact fun _ hx=>nomatch hx
 | cons y ns ih=>
  intro vs hl hx
  cases vs with
  | nil=>cases hl
  | cons v vs=>
   rw[List.zip_cons_cons,List.lookup_cons]
   by_cases e:x=y
   ·rw[beq_iff_eq.mpr e];exact⟨v,rfl⟩
   ·rw[beq_false_of_ne e];exact ih (Nat.succ.inj hl) ((List.mem_cons.mp hx).resolve_left e)
theorem forIn_same{α β:Type}{f:α→β→Sem (ForInStep β)}{b:β}{l:List α}:(∀ x∈l,f x b=pure (.yield b))→forIn l b f=pure b:=by
 induction l with
 | nil=>exact fun _=>rfl
 | cons x l ih=>exact fun h=>by rw[List.forIn_cons,h x (List.mem_cons_self ..)];exact ih fun y hy=>h y (List.mem_cons_of_mem _ hy)
theorem filter_zipL{ns:List Str}:∀ {vs:List Value} {f:Str→Option Value},ns.length=vs.length→(∀ j:Nat,∀ x v,ns[j]?=some x→vs[j]?=some v→f x=some v)→ns.filterMap (fun n=>(f n).map fun v=>(n,v))=ns.zip vs:=by
 induction ns with
 | nil=>exact fun _ _=>rfl
 | cons y ns ih=>
  intro vs f hl h
  cases vs with
  | nil=>cases hl
  | cons v vs=>rw[List.filterMap_cons,h 0 y v rfl rfl,List.zip_cons_cons,← ih (Nat.succ.inj hl) fun j=>h (j+1)];rfl
theorem lookup_at{ns:List Str}:∀ {vs:List Value},ns.Nodup→∀ j:Nat,∀ x v,ns[j]?=some x→vs[j]?=some v→List.lookup x (ns.zip vs)=some v:=by
 induction ns with
 | nil=>exact fun _ _ _ _ e=>nomatch e
 | cons y ns ih=>
  intro vs hn j x v e1 e2
  cases vs with
  | nil=>cases e2
  | cons w vs=>
   rw[List.zip_cons_cons,List.lookup_cons]
   cases j with
   | zero=>rw[beq_iff_eq.mpr (Option.some.inj e1).symm];exact e2
   | succ j=>rw[beq_false_of_ne fun e:x=y=>(List.nodup_cons.mp hn).1 (e▸List.mem_of_getElem? e1)];exact ih (List.nodup_cons.mp hn).2 j x v e1 e2
theorem filter_zip{ns:List Str}{vs:List Value}(hl:ns.length=vs.length)(hn:ns.Nodup):(ns++[]).filterMap (fun n=>(List.lookup n (ns.zip vs)).map fun v=>(n,v))=ns.zip vs:=by
 rw[List.append_nil];exact filter_zipL hl (lookup_at hn)
theorem isNone_no{α:Type}{o:Option α}{v:α}(h:o=some v)(e:o.isNone=true):False:=by rw[h] at e;cases e
theorem binds_eq{fd:FuncData}{as:List Arg}{kd:List (Option Expr)}{ds:List Expr}{vs:List Value}(hp:fd.params=⟨[],as,none,[],kd,none,ds⟩)(hl:(as.map (·.arg)).length=vs.length)(hn:(as.map (·.arg)).Nodup):
  ∃ k,bindArgs fd ⟨vs,[]⟩=seqItems? fd.defaults >>= k∧∀ x,k x=pure ((as.map (·.arg)).zip vs):=by
 cases fd with
 | mk _ _ params=>
  cases hp
  refine⟨_,rfl,fun x=>?_⟩
  refine Eq.trans (if_neg fun e=>Nat.lt_irrefl vs.length (hl.symm▸(of_decide_eq_true (a9 e):(as.map (·.arg)).length<vs.length))) ?_
  refine Eq.trans (if_neg fun e=>?_) ?_
  ·rw[List.filter_eq_nil_iff.mpr fun y hy=>?_] at e
   ·exact Bool.false_ne_true e
   ·exact exE (lookup_zip hl (List.mem_of_mem_take hy)) fun v hv e=>isNone_no hv e
  refine Eq.trans (congrArg (· >>= _) (forIn_same fun p hp=>?_)) ?_
  ·exact exE (lookup_zip hl (List.mem_of_mem_drop (List.of_mem_zip hp).1)) fun v hv=>if_neg fun e=>isNone_no hv e
  exact congrArg Sem.pure (filter_zip hl hn)
noncomputable def yRef:Value→Option Addr
 | .ref a=>some a
 | _=>none
theorem yRef_ok{y:Value}{a:Addr}(h:yRef y=some a):y=.ref a:=aN (P:=fun y a=>y=.ref a) (fun y=>by cases y <;> first | trivial | exact rfl) h
noncomputable def oSeq:Data→Option (Array Value)
 | .seq xs _=>some xs
 | _=>none
theorem oSeq_ok{d:Data}{xs:Array Value}(h:oSeq d=some xs):∃ m,d=.seq xs m:=aN (P:=fun d xs=>∃ m,d=.seq xs m) (fun y=>by cases y <;> first | trivial | exact⟨_,rfl⟩) h
noncomputable def argsOk(fd:FuncData)(ns:List Str):Bool:=
 fd.params.posonlyargs.isEmpty&&fd.params.vararg.isNone&&fd.params.kwonlyargs.isEmpty&&fd.params.kwarg.isNone&&decide (fd.params.args.map (·.arg)=ns∧ns.Nodup)
noncomputable def dfltOk(h:Heap)(y:Value):Bool:=decide (y=.none)||(yRef y).any fun a=>(h.get? a).any fun o=>(oSeq o.data).isSome
theorem params_eq{p:Arguments}(h1:p.posonlyargs=[])(h2:p.vararg=none)(h3:p.kwonlyargs=[])(h4:p.kwarg=none):p=⟨[],p.args,none,[],p.kw_defaults,none,p.defaults⟩:=by
 cases p;cases h1;cases h2;cases h3;cases h4;rfl
theorem argsOk_ok{fd:FuncData}{ns:List Str}{h0:Heap}(ha:argsOk fd ns=true)(hd:dfltOk h0 fd.defaults=true):∀ s:Shared,(∀ a o,h0.get? a=some o→s.heap.get? a=some o)→∀ vs:List Value,vs.length=ns.length→BindsTo s fd ⟨vs,[]⟩ (ns.zip vs):=by
 intro s hk vs hl M A E Q q
 have d:=of_decide_eq_true (aa ha)
 have ha:=a9 ha
 rw[← d.1] at q hl d
 refine exE (binds_eq (params_eq (List.isEmpty_iff.mp (a9 (a9 (a9 ha)))) (Option.isNone_iff_eq_none.mp (aa (a9 (a9 ha)))) (List.isEmpty_iff.mp (aa (a9 ha))) (Option.isNone_iff_eq_none.mp (aa ha))) hl.symm d.2) fun k z=>?_
 rw[z.1]
 exact(Bool.or_eq_true_iff.mp hd).elim (fun e=>by rw[of_decide_eq_true e];exact wpAny_bind (wpAny_pure (z.2 _▸wpAny_pure q))) fun e=>aj e fun a e1 e=>aj e fun o e2 e=>exE (Option.isSome_iff_exists.mp e) fun xs e3=>exE (oSeq_ok e3) fun m e3=>by
  rw[yRef_ok e1];exact wpAny_bind (wpAny_seqItems (hk a o e2) e3 (z.2 _▸wpAny_pure q))
noncomputable abbrev nq(s:String):Str:=Str.ofString s
noncomputable def fnTab:List (Option Nat×Str):=[(some 0,nq "__init__"),(some 1,nq "__init__"),(none,nq "arg_kind"),(none,nq "taken_count"),(none,nq "put_count"),(none,nq "is_last"),(some 0,nq "here"),(some 0,nq "emit"),(some 0,nq "label"),(some 0,nq "place"),(some 0,nq "jump"),(some 0,nq "place_of"),(some 0,nq "placed_code"),(some 0,nq "placed_handlers"),(some 0,nq "unit"),(none,nq "assemble"),(none,nq "copy_head"),(none,nq "line_at"),(none,nq "rebuilt"),(none,nq "with_code"),(none,nq "for_all"),(none,nq "later_places"),(none,nq "live_places"),(none,nq "is_idle"),(none,nq "clean_once"),(none,nq "clean_one"),(none,nq "clean_unit"),(none,nq "handler_at"),(none,nq "ways_thrown"),(none,nq "need_values"),(none,nq "made_by"),(none,nq "ways_on"),(none,nq "stacks_of"),(none,nq "end_of"),(none,nq "threaded"),(none,nq "thread_one"),(none,nq "thread_unit"),(none,nq "_law_grown"),(none,nq "_law_blocks"),(none,nq "_law_ways"),(none,nq "_law_order"),(none,nq "_law_put"),(none,nq "_law_past"),(none,nq "_law_found"),(none,nq "law")]
noncomputable def nmTab:List (List Str):=[[nq "self",nq "name",nq "params",nq "is_strict"],[nq "self",nq "name",nq "params"],[nq "op"],[nq "op",nq "arg"],[nq "op"],[nq "op"],[nq "self"],[nq "self",nq "op",nq "arg"],[nq "self"],[nq "self",nq "label"],[nq "self",nq "op",nq "label"],[nq "self",nq "label",nq "pc"],[nq "self",nq "found",nq "pc",nq "op",nq "arg"],[nq "self",nq "found",nq "start",nq "end",nq "target",nq "depth",nq "is_finally",nq "first",nq "last"],[nq "self",nq "made"],[nq "name",nq "rows",nq "code",nq "labels",nq "row",nq "word",nq "is_label"],[nq "unit",nq "made"],[nq "unit",nq "pc"],[nq "unit",nq "rows",nq "places",nq "handlers",nq "made",nq "op",nq "arg",nq "line",nq "start",nq "end",nq "target",nq "depth",nq "is_finally"],[nq "unit",nq "code",nq "made"],[nq "unit",nq "change",nq "made"],[nq "unit",nq "pc",nq "op",nq "arg",nq "found",nq "start",nq "end",nq "target",nq "depth",nq "is_finally"],[nq "unit",nq "found",nq "waiting",nq "place"],[nq "unit",nq "live",nq "pc",nq "op",nq "arg"],[nq "unit",nq "live",nq "rows",nq "places",nq "pc",nq "op",nq "arg"],[nq "unit",nq "made"],[nq "unit"],[nq "handlers",nq "pc",nq "one"],[nq "unit",nq "pc",nq "stack",nq "handler",nq "op",nq "arg"],[nq "taken_things",nq "pc",nq "is_hole_let",nq "thing"],[nq "op",nq "pushed"],[nq "unit",nq "pc",nq "stack",nq "op",nq "arg",nq "many",nq "things",nq "below",nq "behind",nq "found"],[nq "unit",nq "found",nq "waiting",nq "pc",nq "stack",nq "later",nq "place",nq "told"],[nq "code",nq "place",nq "seen"],[nq "code",nq "op",nq "arg",nq "place",nq "seen",nq "step"],[nq "unit",nq "code",nq "op",nq "arg"],[nq "unit"],[],[nq "cells",nq "found",nq "many",nq "at",nq "cell",nq "kind",nq "one",nq "other",nq "rows"],[nq "blocks",nq "starts",nq "found",nq "rows",nq "goals",nq "op",nq "behind"],[nq "number",nq "many",nq "found",nq "left",nq "size"],[nq "blocks",nq "order",nq "is_short",nq "rows",nq "goal",nq "at",nq "some",nq "goals"],[nq "code",nq "pc",nq "turn"],[nq "code",nq "ways",nq "found",nq "waiting",nq "row",nq "pc",nq "height",nq "op",nq "goals",nq "behind",nq "spot"],[nq "script",nq "cells",nq "many",nq "blocks",nq "ways",nq "order",nq "unit",nq "found",nq "told",nq "short"]]
noncomputable def T0:Tab:=⟨[(nq "OP_UNDEF",(.int 0)),(nq "OP_NULL",(.int 1)),(nq "OP_TRUE",(.int 2)),(nq "OP_FALSE",(.int 3)),(nq "OP_THIS",(.int 5)),(nq "OP_POP",(.int 6)),(nq "OP_DUP",(.int 7)),(nq "OP_NOT",(.int 53)),(nq "OP_JMP",(.int 58)),(nq "OP_JF",(.int 59)),(nq "OP_JT",(.int 60)),(nq "OP_JFK",(.int 61)),(nq "OP_JTK",(.int 62)),(nq "OP_RET",(.int 65)),(nq "OP_NEWARR",(.int 69)),(nq "OP_HOLE",(.int 70)),(nq "OP_FORIN",(.int 76)),(nq "OP_NEXTIN",(.int 77)),(nq "OP_GOSUB",(.int 78)),(nq "OP_RETSUB",(.int 79)),(nq "OPERATIONS",ct),(nq "LAST_OPS",k_LAST_OPS),(nq "VALUE",(.int (-1))),(nq "KEYS",(.int (-2))),(nq "NO_VALUE",(.int (-3))),(nq "QUIET_OPS",k_QUIET_OPS),(nq "PLAIN_TEST",gb),(nq "arg_kind",.fn 2),(nq "taken_count",.fn 3),(nq "put_count",.fn 4),(nq "is_last",.fn 5),(nq "assemble",.fn 15),(nq "copy_head",.fn 16),(nq "line_at",.fn 17),(nq "rebuilt",.fn 18),(nq "with_code",.fn 19),(nq "for_all",.fn 20),(nq "later_places",.fn 21),(nq "live_places",.fn 22),(nq "is_idle",.fn 23),(nq "clean_once",.fn 24),(nq "clean_one",.fn 25),(nq "clean_unit",.fn 26),(nq "handler_at",.fn 27),(nq "ways_thrown",.fn 28),(nq "need_values",.fn 29),(nq "made_by",.fn 30),(nq "ways_on",.fn 31),(nq "stacks_of",.fn 32),(nq "end_of",.fn 33),(nq "threaded",.fn 34),(nq "thread_one",.fn 35),(nq "thread_unit",.fn 36),(nq "_law_grown",.fn 37),(nq "_law_blocks",.fn 38),(nq "_law_ways",.fn 39),(nq "_law_order",.fn 40),(nq "_law_put",.fn 41),(nq "_law_past",.fn 42),(nq "_law_found",.fn 43)],[(0,nq "here",6),(0,nq "emit",7),(0,nq "label",8),(0,nq "place",9),(0,nq "jump",10),(0,nq "place_of",11),(0,nq "placed_code",12),(0,nq "placed_handlers",13),(0,nq "unit",14)],[nq "len",nq "range",nq "list",nq "sorted",nq "sum",nq "all",nq "str",nq "abs",nq "isinstance",nq "enumerate"]⟩
noncomputable def oDict:Data→Option (Array DictEntry)
 | .dict xs _=>some xs
 | _=>none
theorem oDict_ok{d:Data}{xs:Array DictEntry}(h:oDict d=some xs):∃ m,d=.dict xs m:=aN (P:=fun d xs=>∃ m,d=.dict xs m) (fun y=>by cases y <;> first | trivial | exact⟨_,rfl⟩) h
noncomputable def oFields:Data→Option (Array Value)
 | .fields xs=>some xs
 | _=>none
theorem oFields_ok{d:Data}{xs:Array Value}(h:oFields d=some xs):d=.fields xs:=aN (P:=fun d xs=>d=.fields xs) (fun y=>by cases y <;> first | trivial | exact rfl) h
noncomputable def oFunc:Data→Option FuncData
 | .func fd=>some fd
 | _=>none
theorem oFunc_ok{d:Data}{fd:FuncData}(h:oFunc d=some fd):d=.func fd:=aN (P:=fun d fd=>d=.func fd) (fun y=>by cases y <;> first | trivial | exact rfl) h
noncomputable def oNs:Data→Addr
 | .cls cd=>cd.ns
 | _=>0
noncomputable def bodyS:FuncBody→Option (List Stmt)
 | .stmts b=>some b
 | _=>none
theorem bodyS_ok{d:FuncBody}{b:List Stmt}(h:bodyS d=some b):d=.stmts b:=aN (P:=fun d fd=>d=.stmts fd) (fun y=>by cases y <;> first | trivial | exact rfl) h
noncomputable def nsOf(h:Heap)(a:Addr):Addr:=(h.get? a).elim 0 fun o=>oNs o.data
noncomputable def addrOf(y:Option Value):Addr:=(y.bind yRef).getD 0
noncomputable def glA(h:Heap)(x:Str):Addr:=addrOf (h.nsMap mainGlobals x)
noncomputable def gj(h:Heap)(c:Nat):Addr:=glA h (bU c)
noncomputable def fnA(h:Heap)(p:Option Nat×Str):Addr:=p.1.elim (glA h p.2) fun c=>addrOf (h.nsMap (nsOf h (gj h c)) p.2)
noncomputable def faOf(h:Heap)(f:Nat):Addr:=(fnTab[f]?).elim 0 (fnA h)
noncomputable def fragOf(h:Heap)(as:List Addr):PySem.W.Frag:=as.filterMap fun a=>(h.get? a).map fun o=>(a,o)
noncomputable def kOf(h:Heap):PySem.W.Frag:=fragOf h ([gj h 0,nsOf h (gj h 0),gj h 1,nsOf h (gj h 1)]++(List.range fnTab.length).map (faOf h))
theorem look_in{a:Addr}{o:Obj}{l:PySem.W.Frag}(e:l.lookup a=some o):(a,o)∈l:=by
 induction l with
 | nil=>cases e
 | cons p l ih=>
  rw[List.lookup_cons] at e
  by_cases hb:(a==p.1)=true
  ·rw[hb] at e;cases e;rw[eq_of_beq hb];exact List.mem_cons_self ..
  ·rw[Bool.eq_false_iff.mpr hb] at e;exact List.mem_cons_of_mem _ (ih e)
theorem frag_in(h:Heap)(as:List Addr)(a:Addr)(o:Obj)(e:(fragOf h as).lookup a=some o):h.get? a=some o:=
 exE (List.mem_filterMap.mp (look_in e)) fun b z=>exE (Option.map_eq_some_iff.mp z.2) fun o' q=>by cases q.2;exact q.1
open PySem.W in
noncomputable def clsCk(K:Frag)(ca:Addr):Bool:=
 decide (findIn K (.ref ca) "__getattribute__"=some (some (.builtin "object.__getattribute__")))&&decide (findIn K (.ref ca) "__getattr__"=some none)&&
 decide (findIn K (.ref ca) "__setattr__"=some (some (.builtin "object.__setattr__")))&&(clsIn K ca).any (·.hasDict)&&plainOver K ca&&attrNames.all (fun x=>decide (findIn K (.ref ca) x=some none))&&makesIn K ca&&keepIn K (.ref ca)
open PySem.W in
noncomputable def methCk(K:Frag)(h:Heap)(ca:Addr)(x:Str)(f:Nat):Bool:=decide (findIn K (.ref ca) x=some (some (.ref (faOf h f))))&&decide (typeIn K (.ref (faOf h f))=some (.type "function"))
noncomputable def exO(o:Obj)(n:String):Bool:=decide (o.cls=.type n)&&o.dict.isNone&&o.slots.isEmpty
noncomputable def kidsOf(h:Heap)(n:String)(y:Value):Option (List Value):=(yRef y).bind fun a=>(h.get? a).bind fun o=>if exO o n then (oSeq o.data).map (·.toList) else none
noncomputable def dictOf(h:Heap)(y:Value):Option (List DictEntry):=(yRef y).bind fun a=>(h.get? a).bind fun o=>if exO o "dict"&&!(a==sysModules) then (oDict o.data).map (·.toList) else none
mutual
noncomputable def repCk(h:Heap):V→Value→Bool
 | .undef,_=>true
 | .none,y=>decide (y=.none)
 | .bool a,y=>decide (y=.bool a)
 | .int i,y=>Value.isInt i y
 | .str s,y=>y.isStr (strOf s)
 | .tup l,y=>(kidsOf h "tuple" y).any (repCks h l)
 | .list l,y=>(kidsOf h "list" y).any (repCks h l)
 | .dict l,y=>(dictOf h y).any fun es=>decide (l.map (·.1)).Nodup&&repCkd h l es
 | .sdict _,_=>false
 | .inst _ _,_=>false
 | .fn f,y=>decide (y=.ref (faOf h f))
noncomputable def repCks(h:Heap):List V→List Value→Bool
 | [],ys=>ys.isEmpty
 | v::l,ys=>ys.head?.any (repCk h v)&&repCks h l ys.tail
noncomputable def repCkd(h:Heap):List (Int×V)→List DictEntry→Bool
 | [],es=>es.isEmpty
 | p::l,es=>(es.head?.any fun e=>Value.isInt p.1 e.key&&e.hash==hashInt p.1&&repCk h p.2 e.val)&&repCkd h l es.tail
end
noncomputable def glOf(fd:FuncData):List Str:=(fd.scope.names.filter (·.2==.globalImplicit)).map (·.1)
noncomputable def celOf(fd:FuncData):List Str:=(fd.scope.names.filter (·.2==.cell)).map (·.1)
noncomputable def codeCk(h:Heap)(q:Str)(y:Value):Bool:=(yRef y).any fun c=>(h.get? c).any fun o=>(oFields o.data).any fun vs=>(vs[1]?:Option Value).any (·.isStr q)
noncomputable def fdCk(h:Heap)(fn:Fn)(nm:List Str)(fd:FuncData):Bool:=
 ((bodyS fd.body).any fun body=>ckL (ckS T0 12 fn.lo 8 (ctxOf nm (glOf fd) (celOf fd))) body fn.body)&&
 decide (fd.scope.isCoroutine=false∧fd.scope.isGenerator=false∧fd.globals=mainGlobals∧fd.builtins=builtinsNs∧fd.closure=[]∧fd.scope.kind=.function∧fn.np≤nm.length∧nm.Nodup∧
  (∀ x∈nm,fd.scope.names.lookup x=some .local∨fd.scope.names.lookup x=some .cell)∧(∀ x∈glOf fd,fd.scope.names.lookup x=some .globalImplicit)∧(∀ x∈celOf fd,fd.scope.names.lookup x=some .cell))&&
 argsOk fd (nm.take fn.np)&&dfltOk h fd.defaults&&codeCk h fd.qualname fd.code
noncomputable def fnCk(h:Heap)(f:Nat)(fn:Fn)(nm:List Str):Bool:=(h.get? (faOf h f)).any fun o=>(oFunc o.data).any (fdCk h fn nm)
noncomputable def chkCls(h:Heap):Bool:=clsCk (kOf h) (gj h 0)&&clsCk (kOf h) (gj h 1)&&methCk (kOf h) h (gj h 0) "__init__" 0&&methCk (kOf h) h (gj h 1) "__init__" 1&&T0.ms.all (fun p=>p.1==0&&methCk (kOf h) h (gj h 0) p.2.1 p.2.2)
noncomputable def chkGl(h:Heap):Bool:=T0.gt.all (fun p=>(h.nsMap mainGlobals p.1).any (repCk h p.2))&&T0.bi.all (fun x=>(h.nsMap mainGlobals x).isNone)&&decide (h.nsMap mainGlobals (bU 0)=some (.ref (gj h 0))∧h.nsMap mainGlobals (bU 1)=some (.ref (gj h 1)))&&h.isNs mainGlobals&&(h.get? sysModules).isSome
noncomputable def chkFns(h:Heap):Bool:=decide (fns.length=45)&&(List.range 45).all fun f=>(fns[f]?).any fun fn=>(nmTab[f]?).any fun nm=>fnCk h f fn nm
noncomputable def cP(h:Heap):Bool:=chkGl h&&chkCls h&&chkFns h
section
variable {h1 h0:Heap} {prg:Program} {w:World}
noncomputable def gOf(prg:Program)(w:World)(h1:Heap):G:=⟨prg,w,faOf h1,gj h1⟩
noncomputable def NOf(h1:Heap):aR:=⟨h1.nsMap mainGlobals,T0.gt,kOf h1,T0.ms⟩
noncomputable abbrev Kept(h1 h0:Heap):Prop:=∀ a o,h1.get? a=some o→h0.get? a=some o
noncomputable abbrev Bi(h0:Heap):Prop:=∃ mb,h0.Ns builtinsNs mb∧∀ x:Str,x≠"__name__"→mb x=bootBuiltins x
theorem fg{a:Addr}{o:Obj}(e:h0.get? a=some o):W00 h0 a=.frz:=by unfold W00;rw[e];rfl
theorem exO_ok{o:Obj}{n:String}(h:exO o n=true):o=⟨.type n,none,o.data,#[]⟩:=by
 cases o with
 | mk c d b s=>
  cases (of_decide_eq_true (a9 (a9 h)):c=_)
  cases (Option.isNone_iff_eq_none.mp (aa (a9 h)):d=_)
  cases (Array.isEmpty_iff.mp (aa h):s=_)
  rfl
theorem kidsE{n:String}{y:Value}{xs:List Value}{P:Prop}(h:kidsOf h1 n y=some xs)(k:∀ a m,y=.ref a→h1.get? a=some ⟨.type n,none,.seq xs.toArray m,#[]⟩→P):P:=
 bE h fun a e1 h=>bE h fun o e2 h=>ifE h fun z h=>exE (Option.map_eq_some_iff.mp h) fun l q=>exE (oSeq_ok q.1) fun m e3=>k a m (yRef_ok e1) (by rw[e2,exO_ok z,e3,← q.2])
theorem dictE'{y:Value}{xs:List DictEntry}{P:Prop}(h:dictOf h1 y=some xs)(k:∀ a m,y=.ref a→(a==sysModules)=false→h1.get? a=some ⟨.type "dict",none,.dict xs.toArray m,#[]⟩→P):P:=
 bE h fun a e1 h=>bE h fun o e2 h=>ifE h fun z h=>exE (Option.map_eq_some_iff.mp h) fun l q=>exE (oDict_ok q.1) fun m e3=>k a m (yRef_ok e1) (not_true (aa z)) (by rw[e2,exO_ok (a9 z),e3,← q.2])
theorem isInt_ok{i:Int}{y:Value}(h:Value.isInt i y=true):∃ t,y=.int i t:=by
 cases y with
 | int j t=>exact⟨t,congrArg (Value.int · t) (eq_of_beq h)⟩
 | _=>cases h
theorem isStr_ok{s:Str}{y:Value}(h:y.isStr s=true):∃ t,y=.str s t:=by
 cases y with
 | str j t=>exact⟨t,congrArg (Value.str · t) (eq_of_beq h)⟩
 | _=>cases h
theorem repCk_ok(kp:Kept h1 h0){v:V}:∀ {y:Value},repCk h1 v y=true→Rep (gOf prg w h1) (W00 h0) h0 v y:=
 @V.rec (fun v=>∀ {y:Value},repCk h1 v y=true→Rep (gOf prg w h1) (W00 h0) h0 v y) (fun l=>∀ {ys:List Value},repCks h1 l ys=true→Reps (gOf prg w h1) (W00 h0) h0 l ys)
  (fun l=>∀ {es:List DictEntry},repCkd h1 l es=true→∃ kvs,Pairs (intKind prg w) es kvs∧kvs.map (·.1)=l.map (·.1)∧(∀ e∈es,∃ k,(intKind prg w).is k e.key=true∧e.hash=(intKind prg w).hash k)∧Repd (gOf prg w h1) (W00 h0) h0 l kvs)
  (fun _=>True) (fun p=>∀ {y:Value},repCk h1 p.2 y=true→Rep (gOf prg w h1) (W00 h0) h0 p.2 y) (fun _=>True)
  (fun {y} _=>.undef y) (fun {y} h=>of_decide_eq_true h▸.none) (fun b {y} h=>of_decide_eq_true h▸.bool b) (fun i {y} h=>exE (isInt_ok h) fun t e=>e▸.int i t) (fun s {y} h=>exE (isStr_ok h) fun t e=>e▸.str s t)
  (fun l ih {y} h=>aj h fun xs e h=>kidsE e fun a m e1 e2=>e1▸.tup (fg (kp _ _ e2)) (kp _ _ e2) (ih h))
  (fun l ih {y} h=>aj h fun xs e h=>kidsE e fun a m e1 e2=>e1▸.list (fg (kp _ _ e2)) (kp _ _ e2) (ih h))
  (fun l ih {y} h=>aj h fun es e h=>dictE' e fun a m e1 e2 e3=>exE (ih (aa h)) fun kvs z=>e1▸.dict e2 (fg (kp _ _ e3)) ⟨_,_,_,kp _ _ e3,⟨rfl,rfl,rfl⟩,rfl,fun e he=>z.2.2.1 e (List.mem_toArray.mp he),z.1,z.2.1▸of_decide_eq_true (a9 h)⟩ z.2.2.2)
  (fun l _ {y} h=>(Bool.false_ne_true h).elim) (fun c l _ {y} h=>(Bool.false_ne_true h).elim) (fun f {y} h=>of_decide_eq_true h▸.fn f)
  (fun {ys} h=>List.isEmpty_iff.mp h▸.nil) (fun v l ih1 ih2 {ys} h=>aj (a9 h) fun y e h1=>bm e▸.cons (ih1 h1) (ih2 (aa h)))
  (fun {es} h=>List.isEmpty_iff.mp h▸⟨[],.nil,rfl,fun e he=>(List.not_mem_nil he).elim,.nil⟩)
  (fun p l ih1 ih2 {es} h=>aj (a9 h) fun e he hh=>exE (ih2 (aa h)) fun kvs z=>bm he▸⟨(p.1,e.val)::kvs,.cons (a9 (a9 hh)) rfl z.1,congrArg (p.1::·) z.2.1,
   fun e' h'=>(List.mem_cons.mp h').elim (fun q=>q▸⟨p.1,a9 (a9 hh),eq_of_beq (aa (a9 hh))⟩) (z.2.2.1 e'),.cons (ih1 (aa hh)) z.2.2.2⟩)
  trivial (fun _ _ _ _=>trivial) (fun _ _ ih=>ih) (fun _ _ _=>trivial) v
theorem kOf_in(kp:Kept h1 h0):(kOf h1).In h0:=fun a o e=>kp a o (frag_in h1 _ a o e)
theorem meth_ok{K:PySem.W.Frag}{ca:Addr}{x:Str}{f:Nat}(h:methCk K h1 ca x f=true):PySem.W.findIn K (.ref ca) x=some (some (.ref (faOf h1 f)))∧PySem.W.typeIn K (.ref (faOf h1 f))=some (.type "function"):=⟨of_decide_eq_true (a9 h),of_decide_eq_true (aa h)⟩
theorem cls_ck(hc:chkCls h1=true)(c:Nat):clsCk (kOf h1) (gj h1 c)=true:=by
 cases c with
 | zero=>exact a9 (a9 (a9 (a9 hc)))
 | succ c=>exact aa (a9 (a9 (a9 hc)))
theorem cls_ok(hc:chkCls h1=true)(c:Nat):Cls (gOf prg w h1) (NOf h1) c:=
 have h:=cls_ck hc c
 have h7:=a9 h
 have h6:=a9 h7
 have h5:=a9 h6
 have h4:=a9 h5
 have h3:=a9 h4
 ⟨of_decide_eq_true (a9 (a9 h3)),of_decide_eq_true (aa (a9 h3)),of_decide_eq_true (aa h3),aa h4,aa h5,fun x hx=>of_decide_eq_true (List.all_eq_true.mp (aa h6) x hx),aa h7,fun x f hx=>by
  have m:=List.all_eq_true.mp (aa hc) (c,x,f) hx
  cases (eq_of_beq (a9 m):c=0)
  exact meth_ok (aa m)⟩
theorem base_ok(kp:Kept h1 h0)(hc:cP h1=true)(hb:Bi h0):bV (gOf prg w h1) h0 (NOf h1):=
 have hg:=a9 (a9 hc)
 have hcl:=aa (a9 hc)
 ⟨(Heap.Ns.of_isNs (aa (a9 hg))).at' fun o e=>kp _ _ e,hb,kOf_in kp,cls_ok hcl,fun c hc=>by
   rcases c with _ | _ | c
   ·exact meth_ok (aa (a9 (a9 hcl)))
   ·exact meth_ok (aa (a9 hcl))
   ·exact absurd hc (Nat.not_lt.mpr (Nat.le_add_left ..)),
  fun x v hx=>aj (List.all_eq_true.mp (a9 (a9 (a9 (a9 hg)))) (x,v) hx) fun y e h=>⟨y,e,repCk_ok kp h⟩⟩
theorem dflt_keep(kp:Kept h1 h0){y:Value}(h:dfltOk h1 y=true):dfltOk h0 y=true:=
 (Bool.or_eq_true_iff.mp h).elim (fun e=>Bool.or_eq_true_iff.mpr (.inl e)) fun e=>Bool.or_eq_true_iff.mpr (.inr (aj e fun a e1 e=>aj e fun o e2 e=>by rw[e1,Option.any_some,kp _ _ e2];exact e))
theorem code_ok(kp:Kept h1 h0){q:Str}{y:Value}(h:codeCk h1 q y=true):h0.CodeRec y q:=
 aj h fun c e1 h=>aj h fun o e2 h=>aj h fun vs e3 h=>aj h fun v e4 h=>exE (isStr_ok h) fun t e5=>⟨c,o,vs,t,yRef_ok e1,kp _ _ e2,oFields_ok e3,e5▸e4⟩
theorem fns_ok(kp:Kept h1 h0)(hc:chkFns h1=true){f:Nat}{fn:Fn}(e:prog f=some fn):
  ∃ nm fd o body,FnOK (gOf prg w h1) h0 f fn fd o body nm (glOf fd) (celOf fd)∧ckL (ckS T0 12 fn.lo 8 (ctxOf nm (glOf fd) (celOf fd))) body fn.body=true:=by
 have hf:f<45:=(of_decide_eq_true (a9 hc):fns.length=45)▸(List.getElem?_eq_some_iff.mp (show fns[f]?=some fn from e)).1
 refine aj (List.all_eq_true.mp (aa hc) f (List.mem_range.mpr hf)) fun fn' e1 h=>aj h fun nm e2 h=>aj h fun o e3 h=>aj h fun fd e4 h=>?_
 cases (Option.some.inj ((show fns[f]?=some fn from e).symm.trans e1):fn=fn')
 have h4:=a9 h
 have h3:=a9 h4
 have h2:=a9 h3
 refine aj (a9 h2) fun body e5 hb=>?_
 have d:=of_decide_eq_true (aa h2)
 exact⟨nm,fd,o,body,⟨kp _ _ e3,oFunc_ok e4,d.1,d.2.1,bodyS_ok e5,code_ok kp (aa h),d.2.2.1,d.2.2.2.1,d.2.2.2.2.1,d.2.2.2.2.2.1,
  fun s ks vs hl=>argsOk_ok (aa h3) (dflt_keep kp (aa h4)) s ks vs (hl.trans ((List.length_take ..).trans (Nat.min_eq_left d.2.2.2.2.2.2.1)).symm),d.2.2.2.2.2.2.1,d.2.2.2.2.2.2.2.1,d.2.2.2.2.2.2.2.2.1,d.2.2.2.2.2.2.2.2.2.1,d.2.2.2.2.2.2.2.2.2.2⟩,hb⟩
theorem fix_ok(kp:Kept h1 h0)(hc:cP h1=true)(hb:Bi h0){n:Nat}{Φ:Nat→List Own→Option (Own×Own)}(FF:Funs (gOf prg w h1) h0 n Φ):Fix (gOf prg w h1) h0 (NOf h1) n T0 Φ:=
 have hg:=a9 (a9 hc)
 have hcl:=aa (a9 hc)
 have g3:=of_decide_eq_true (aa (a9 (a9 hg)))
 ⟨base_ok kp hc hb,FF,rfl,rfl,fun x hx=>Option.isNone_iff_eq_none.mp (List.all_eq_true.mp (aa (a9 (a9 (a9 hg)))) x hx),fun cc h=>by
   rcases cc with _ | _ | c
   ·exact⟨g3.1,aa (cls_ck hcl 0)⟩
   ·exact⟨g3.2,aa (cls_ck hcl 1)⟩
   ·exact absurd h (Nat.not_lt.mpr (Nat.le_add_left ..)),
  exE (Option.isSome_iff_exists.mp (aa hg)) fun o ho=>by rw[kp _ _ ho];rfl⟩
theorem funs_ok(kp:Kept h1 h0)(hc:cP h1=true)(hb:Bi h0)(hl:h0.NoLimit)(Wf D:Nat)(k:Nat):Funs (gOf prg w h1) h0 k (callN prog Wf D k):=by
 induction k with
 | zero=>exact⟨fun f args r e=>noE e,fun f args r e=>noE e⟩
 | succ k ih=>exact⟨fun f args r e=>bE e fun fn e1 e2=>exE (fns_ok (prg:=prg) (w:=w) kp (aa hc) e1) fun nm z=>exE z fun fd z=>exE z fun o z=>exE z fun body z=>⟨o,fd,z.1.at_,z.1.data⟩,
   fun f args r e=>bE e fun fn e1 e2=>exE (fns_ok (prg:=prg) (w:=w) kp (aa hc) e1) fun nm z=>exE z fun fd z=>exE z fun o z=>exE z fun body z W s xs A Rz=>fun_ok z.1 hl (ckB_ok (fix_ok kp hc hb ih) z.2 D) args r e2 W s xs A Rz⟩
end
end Mine
namespace Mine
inductive SV where
 | a (n:Nat)
 | i (n:Nat)
 | undef
 | none
 | bool (b:Bool)
 | int (i:Int)
 | str (s:List Nat)
 | fn (f:Nat)
 | k (v:V)
 | tup (l:List SV)
 | list (b:Option Nat) (l:List SV)
 | dict (n:Nat)
 | sdict (n:Nat)
 | inst (c:Nat) (l:List SV)
structure Val where
 v:Nat→V
 i:Nat→Int
 l:Nat→List V
 d:Nat→List (Int×V)
 s:Nat→List (List Nat×V)
 hv:∀ n,v n≠.undef
 hl:∀ n,(l n).length≤5000
 hd:∀ n,(d n).length≤5000
 hs:∀ n,(s n).length≤5000
noncomputable def Val.base(σ:Val):Option Nat→List V
 | none=>[]
 | some n=>σ.l n
mutual
noncomputable def den(σ:Val):SV→V
 | .a n=>σ.v n
 | .i n=>.int (σ.i n)
 | .undef=>.undef
 | .none=>.none
 | .bool b=>.bool b
 | .int i=>.int i
 | .str s=>.str s
 | .fn f=>.fn f
 | .k v=>v
 | .tup l=>.tup (aE σ l)
 | .list b l=>.list (σ.base b++aE σ l)
 | .dict n=>.dict (σ.d n)
 | .sdict n=>.sdict (σ.s n)
 | .inst c l=>.inst c (aE σ l)
noncomputable def aE(σ:Val):List SV→List V
 | []=>[]
 | x::l=>den σ x::aE σ l
end
inductive SO1 where
 | v (x:SV)
 | list (b:Option Nat) (l:List SV)
inductive SO where
 | v (x:SV)
 | list (b:Option Nat) (l:List SV)
 | dict (n:Nat)
 | sdict (n:Nat)
 | inst (c:Nat) (l:List SO1)
noncomputable def SO1.den(σ:Val):SO1→O1
 | .v x=>.v (Mine.den σ x)
 | .list b l=>.list (σ.base b++aE σ l)
noncomputable def SO.den(σ:Val):SO→Own
 | .v x=>.v (Mine.den σ x)
 | .list b l=>.list (σ.base b++aE σ l)
 | .dict n=>.dict (σ.d n)
 | .sdict n=>.sdict (σ.s n)
 | .inst c l=>.inst c (l.map (SO1.den σ))
noncomputable def SO1.frz:SO1→SV
 | .v x=>x
 | .list b l=>.list b l
noncomputable def SO.frz:SO→SV
 | .v x=>x
 | .list b l=>.list b l
 | .dict n=>.dict n
 | .sdict n=>.sdict n
 | .inst c l=>.inst c (l.map SO1.frz)
noncomputable abbrev SFr:=List SO
noncomputable def am(σ:Val)(fr:SFr):Fr:=fr.map (SO.den σ)
noncomputable def oeq:Option Nat→Option Nat→Bool
 | none,none=>true
 | some a,some b=>a==b
 | _,_=>false
noncomputable def opt{α:Type}(x:Option α)(p:α→Bool):Bool:=match x with
 | some a=>p a
 | none=>false
noncomputable def svAt:SV→Option (Nat×Nat)
 | .a m=>some (0,m)
 | .i m=>some (1,m)
 | .dict m=>some (2,m)
 | .sdict m=>some (3,m)
 | _=>none
noncomputable def SV.isAt(k n:Nat)(y:SV):Bool:=opt (svAt y) fun p=>p.1==k&&p.2==n
noncomputable def svNil:SV→Option Nat
 | .none=>some 0
 | .undef=>some 1
 | _=>none
noncomputable def svBool:SV→Option Bool
 | .bool b=>some b
 | _=>none
noncomputable def cR:SV→Option Int
 | .int i=>some i
 | _=>none
noncomputable def svStr:SV→Option (List Nat)
 | .str s=>some s
 | _=>none
noncomputable def svFn:SV→Option Nat
 | .fn s=>some s
 | _=>none
noncomputable def svTup:SV→Option (List SV)
 | .tup s=>some s
 | _=>none
noncomputable def dW:SV→Option (Option Nat×List SV)
 | .list b l=>some (b,l)
 | _=>none
noncomputable def fx:SV→Option (Nat×List SV)
 | .inst b l=>some (b,l)
 | _=>none
mutual
noncomputable def SV.eq:SV→SV→Bool
 | .a n,y=>y.isAt 0 n
 | .i n,y=>y.isAt 1 n
 | .none,y=>svNil y==some 0
 | .undef,y=>svNil y==some 1
 | .bool x,y=>opt (svBool y) (x==·)
 | .int x,y=>opt (cR y) (x==·)
 | .str x,y=>opt (svStr y) (x==·)
 | .fn x,y=>opt (svFn y) (x==·)
 | .k _,_=>false
 | .tup x,y=>opt (svTup y) (SV.eqs x)
 | .list b x,y=>opt (dW y) fun p=>oeq b p.1&&SV.eqs x p.2
 | .dict n,y=>y.isAt 2 n
 | .sdict n,y=>y.isAt 3 n
 | .inst c x,y=>opt (fx y) fun p=>c==p.1&&SV.eqs x p.2
noncomputable def SV.eqs:List SV→List SV→Bool
 | [],y=>y.isEmpty
 | x::l,y=>opt y.head? (SV.eq x)&&SV.eqs l y.tail&&!y.isEmpty
end
noncomputable def SV.eqp:List (SV×SV)→List (SV×SV)→Bool
 | [],y=>y.isEmpty
 | x::l,y=>opt y.head? (fun y=>SV.eq x.1 y.1&&SV.eq x.2 y.2)&&SV.eqp l y.tail&&!y.isEmpty
noncomputable def SO1.tag:SO1→Bool
 | .v _=>true
 | .list _ _=>false
noncomputable def SO.tag:SO→Nat
 | .v _=>0
 | .list _ _=>1
 | .dict _=>2
 | .sdict _=>3
 | .inst _ _=>4
noncomputable def SO1.val:SO1→SV
 | .v x=>x
 | .list b l=>.list b l
noncomputable def SO.parts:SO→List SO1
 | .inst _ l=>l
 | _=>[]
noncomputable def SO.val:SO→SV
 | .v x=>x
 | .list b l=>.list b l
 | .dict n=>.dict n
 | .sdict n=>.sdict n
 | .inst c _=>.int c
noncomputable def SO1.eq(x y:SO1):Bool:=x.tag==y.tag&&SV.eq x.val y.val
noncomputable def SO1.eqs:List SO1→List SO1→Bool
 | [],y=>y.isEmpty
 | x::l,y=>opt y.head? (SO1.eq x)&&SO1.eqs l y.tail&&!y.isEmpty
noncomputable def SO.eq(x y:SO):Bool:=x.tag==y.tag&&SV.eq x.val y.val&&SO1.eqs x.parts y.parts
noncomputable def Op.n:Op→Nat
 | .add=>0 | .sub=>1 | .mul=>2 | .mod=>3 | .fdiv=>4
noncomputable def Cmp.n:Cmp→Nat
 | .eq=>0 | .ne=>1 | .lt=>2 | .le=>3 | .gt=>4 | .ge=>5 | .isIn=>6 | .notIn=>7
noncomputable def Prim.n:Prim→Nat
 | .sorted=>0 | .sum=>1 | .all=>2 | .str=>3 | .abs=>4 | .isStr=>5 | .list=>6
structure b6 where
 item:List (SV×SV×SV):=[]
 len:List (SV×SV):=[]
 slice:List (SV×SV×SV×SO):=[]
 pop:List (Nat×SV×Nat):=[]
 dset:List (Nat×SV×SV×Nat):=[]
 sset:List (Nat×SV×SV×Nat):=[]
 lset:List (Nat×SV×SV×Nat):=[]
 dlit:List (List (SV×SV)×Nat):=[]
 slit:List Nat:=[]
 cmp:List (Cmp×SV×SV×Bool):=[]
 bin:List (Op×SV×SV×SO):=[]
 prim:List (Prim×SV×SO):=[]
 call:List (Nat×List SV×SO):=[]
 new:List (Nat×List SV×SO):=[]
 meth:List (Nat×SO×List SV×SO×SO):=[]
noncomputable def dOpt(σ:Val):SV→Option V
 | .undef=>none
 | x=>some (den σ x)
structure FOk (Φ:Nat→List Own→Option (Own×Own)) (σ:Val) (F:b6):Prop where
 item:∀ x k r,(x,k,r)∈F.item→(den σ x).item (den σ k)=some (den σ r)∧den σ r≠.undef
 len:∀ x r,(x,r)∈F.len→∃ n,(den σ x).len=some n∧den σ r=.int n
 slice:∀ x l h r,(x,l,h,r)∈F.slice→∃ l' h',dt (dOpt σ l)=some l'∧dt (dOpt σ h)=some h'∧(den σ x).slice l' h'=some (r.den σ)
 pop:∀ b r b',(b,r,b')∈F.pop→σ.l b=σ.l b'++[den σ r]∧den σ r≠.undef
 dset:∀ d k v d',(d,k,v,d')∈F.dset→∃ i,den σ k=.int i∧σ.d d'=Mine.dset (σ.d d) i (den σ v)
 sset:∀ d k v d',(d,k,v,d')∈F.sset→∃ i,den σ k=.str i∧σ.s d'=Mine.dset (σ.s d) i (den σ v)
 lset:∀ b k v b',(b,k,v,b')∈F.lset→∃ i:Nat,den σ k=.int i∧i<(σ.l b).length∧σ.l b'=(σ.l b).set i (den σ v)
 dlit:∀ kvs d,(kvs,d)∈F.dlit→mkDict (kvs.map fun p=>(den σ p.1,den σ p.2)) []=some (σ.d d)
 slit:∀ d,d∈F.slit→σ.s d=[]
 cmp:∀ o x y b,(o,x,y,b)∈F.cmp→aH o (den σ x) (den σ y)=some b
 bin:∀ o x y r,(o,x,y,r)∈F.bin→bH o (den σ x) (den σ y)=some (r.den σ)
 prim:∀ p x r,(p,x,r)∈F.prim→Mine.prim p (den σ x)=some (r.den σ)
 call:∀ f l r,(f,l,r)∈F.call→∃ z,Φ f ((aE σ l).map .v)=some (r.den σ,z)
 new:∀ c l r,(c,l,r)∈F.new→Φ c (.inst c (List.replicate 17 (.v .undef))::(aE σ l).map .v)=some (.v .none,r.den σ)
 meth:∀ f s l r s',(f,s,l,r,s')∈F.meth→Φ f (s.den σ::(aE σ l).map .v)=some (r.den σ,s'.den σ)
noncomputable def SV.def:SV→Bool
 | .undef=>false
 | .k .undef=>false
 | _=>true
noncomputable def look{α β:Type}(l:List α)(p:α→Bool)(f:α→β)(d:Option β):Option β:=match l.find? p with
 | some a=>some (f a)
 | none=>d
noncomputable def sInts:List SV→Option (List Int)
 | []=>some []
 | x::r=>(cR x).bind fun i=>(sInts r).bind fun r=>some (i::r)
noncomputable def sIdx(l:List SV)(i:Int):Option SV:=if l.length≤5000 then (if 0≤i then l[i.toNat]? else if 0≤i+l.length then l[(i+l.length).toNat]? else none) else none
noncomputable def f9:SV→Option (List SV)
 | .tup l=>some l
 | .list none l=>some l
 | _=>none
noncomputable def sItem0(x k:SV):Option SV:=(f9 x).bind fun l=>(cR k).bind fun i=>(sIdx l i).bind fun r=>if r.def then some r else none
noncomputable def sItem(F:b6)(x k:SV):Option SV:=look F.item (fun f=>SV.eq f.1 x&&SV.eq f.2.1 k) (·.2.2) (sItem0 x k)
noncomputable def sLen0(x:SV):Option SV:=(f9 x).bind fun l=>if l.length≤5000 then some (.int l.length) else none
noncomputable def sLen(F:b6)(x:SV):Option SV:=look F.len (fun f=>SV.eq f.1 x) (·.2) (sLen0 x)
noncomputable def iCmp:Cmp→Int→Int→Option Bool
 | .eq,a,b=>some (a==b)
 | .ne,a,b=>some (!(a==b))
 | .lt,a,b=>some (decide (a<b))
 | .le,a,b=>some (decide (a≤b))
 | .gt,a,b=>some (decide (b<a))
 | .ge,a,b=>some (decide (b≤a))
 | _,_,_=>none
noncomputable def tCmp:Cmp→Int→List Int→Option Bool
 | .isIn,a,l=>some (l.contains a)
 | .notIn,a,l=>some (!l.contains a)
 | _,_,_=>none
noncomputable def strCmp:Cmp→List Nat→List Nat→Option Bool
 | .eq,a,b=>some (a==b)
 | _,_,_=>none
noncomputable def eCmp:Cmp→Option Nat→List SV→Option Bool
 | .ne,b,l=>if l.isEmpty then (if b.isNone then some false else none) else some true
 | _,_,_=>none
noncomputable def sCmpI(o:Cmp)(x y:SV):Option Bool:=(cR x).bind fun a=>(cR y).bind fun b=>iCmp o a b
noncomputable def sCmpT(o:Cmp)(x y:SV):Option Bool:=(cR x).bind fun a=>(svTup y).bind fun l=>(sInts l).bind fun l=>tCmp o a l
noncomputable def sCmpS(o:Cmp)(x y:SV):Option Bool:=(svStr x).bind fun a=>(svStr y).bind fun b=>strCmp o a b
noncomputable def sCmpE(o:Cmp)(x y:SV):Option Bool:=(dW x).bind fun p=>(dW y).bind fun q=>if q.1.isNone&&q.2.isEmpty then eCmp o p.1 p.2 else none
noncomputable def sCmp0(o:Cmp)(x y:SV):Option Bool:=(sCmpI o x y).or ((sCmpT o x y).or ((sCmpS o x y).or (sCmpE o x y)))
noncomputable def sCmp(F:b6)(o:Cmp)(x y:SV):Option Bool:=look F.cmp (fun f=>f.1.n==o.n&&SV.eq f.2.1 x&&SV.eq f.2.2.1 y) (·.2.2.2) (sCmp0 o x y)
noncomputable def iBin:Op→Int→Int→Option SO
 | .add,a,b=>some (.v (.int (a+b)))
 | .sub,a,b=>some (.v (.int (a - b)))
 | _,_,_=>none
noncomputable def lBin:Op→Option Nat→List SV→List SV→Option SO
 | .add,b,l,m=>if l.length+m.length≤5000 then some (.list b (l++m)) else none
 | _,_,_,_=>none
noncomputable def tBin:Op→List SV→List SV→Option SO
 | .add,l,m=>if l.length+m.length≤5000 then some (.v (.tup (l++m))) else none
 | _,_,_=>none
noncomputable def sBinI(o:Op)(x y:SV):Option SO:=(cR x).bind fun a=>(cR y).bind fun b=>iBin o a b
noncomputable def sBinL(o:Op)(x y:SV):Option SO:=(dW x).bind fun p=>(dW y).bind fun q=>if q.1.isNone then lBin o p.1 p.2 q.2 else none
noncomputable def sBinT(o:Op)(x y:SV):Option SO:=(svTup x).bind fun p=>(svTup y).bind fun q=>tBin o p q
noncomputable def sBin0(o:Op)(x y:SV):Option SO:=(sBinI o x y).or ((sBinL o x y).or (sBinT o x y))
noncomputable def sBin(F:b6)(o:Op)(x y:SV):Option SO:=look F.bin (fun f=>f.1.n==o.n&&SV.eq f.2.1 x&&SV.eq f.2.2.1 y) (·.2.2.2) (sBin0 o x y)
noncomputable def sPrim0(p:Prim)(x:SV):Option SO:=match p with
 | .isStr=>((svStr x).bind fun _=>some (.v (.bool true))).or ((svTup x).bind fun _=>some (.v (.bool false)))
 | .list=>(dW x).bind fun q=>if q.2.length≤5000 then some (.list q.1 q.2) else none
 | _=>none
noncomputable def sPrim(F:b6)(p:Prim)(x:SV):Option SO:=look F.prim (fun f=>f.1.n==p.n&&SV.eq f.2.1 x) (·.2.2) (sPrim0 p x)
noncomputable def sSlice(F:b6)(x l h:SV):Option SO:=look F.slice (fun f=>SV.eq f.1 x&&SV.eq f.2.1 l&&SV.eq f.2.2.1 h) (·.2.2.2) none
noncomputable def sIsNone:SV→Option Bool
 | .a _=>none
 | .undef=>none
 | .k _=>none
 | .none=>some true
 | _=>some false
noncomputable def sPop(F:b6)(b:Option Nat)(l:List SV):Option (SV×Option Nat×List SV):=match l.getLast? with
 | some y=>if y.def&&decide (l.length≤4001) then some (y,b,l.dropLast) else none
 | none=>b.bind fun b=>look F.pop (fun f=>f.1==b) (fun f=>(f.2.1,some f.2.2,[])) none
theorem oeq_ok:∀ {a b:Option Nat},oeq a b=true→a=b
 | none,none,_=>rfl
 | some a,some b,h=>by rw[eq_of_beq h]
 | none,some _,h=>nomatch h
 | some _,none,h=>nomatch h
theorem optE{α:Type}{x:Option α}{p:α→Bool}(h:opt x p=true){G:Prop}(k:∀ a,x=some a→p a=true→G):G:=by
 cases x with
 | none=>cases h
 | some a=>exact k a rfl h
theorem dg{α β:Type}{l:List α}{p:α→Bool}{f:α→β}{d:Option β}{r:β}{G:Prop}(h:look l p f d=some r)(k:∀ a,a∈l→p a=true→f a=r→G)(k2:d=some r→G):G:=by
 unfold look at h
 cases e:l.find? p with
 | none=>rw[e] at h;exact k2 h
 | some a=>rw[e] at h;exact k a (List.mem_of_find?_eq_some e) (List.find?_some e) (Option.some.inj h)
noncomputable def svOf(k n:Nat):SV:=match k with
 | 0=>.a n
 | 1=>.i n
 | 2=>.dict n
 | _=>.sdict n
theorem dU{α:Type}{f:SV→Option α}{g:α→SV}(hh:∀ y,(f y).elim y g=y){y:SV}{b:α}(h:f y=some b):y=g b:=by rw[← hh y,h];rfl
theorem svAt_ok{y:SV}{k n:Nat}(h:y.isAt k n=true):svOf k n=y:=optE h fun p e q=>by
 rw[dU (f:=svAt) (g:=fun p=>svOf p.1 p.2) (fun y=>by cases y <;> rfl) e,← eq_of_beq (a9 q),← eq_of_beq (aa q)]
noncomputable def svLit(k:Nat):SV:=match k with
 | 0=>.none
 | _=>.undef
theorem svLit_ok{y:SV}{k:Nat}(h:(svNil y==some k)=true):svLit k=y:=(dU (f:=svNil) (g:=svLit) (fun y=>by cases y <;> rfl) (eq_of_beq h)).symm
theorem svBool_ok{y:SV}{b:Bool}(h:svBool y=some b):y=.bool b:=dU (fun y=>by cases y <;> rfl) h
theorem cn{y:SV}{b:Int}(h:cR y=some b):y=.int b:=dU (fun y=>by cases y <;> rfl) h
theorem fQ{y:SV}{b:List Nat}(h:svStr y=some b):y=.str b:=dU (fun y=>by cases y <;> rfl) h
theorem svFn_ok{y:SV}{b:Nat}(h:svFn y=some b):y=.fn b:=dU (fun y=>by cases y <;> rfl) h
theorem eK{y:SV}{b:List SV}(h:svTup y=some b):y=.tup b:=dU (fun y=>by cases y <;> rfl) h
theorem cD{y:SV}{b:Option Nat×List SV}(h:dW y=some b):y=.list b.1 b.2:=dU (g:=fun b=>.list b.1 b.2) (fun y=>by cases y <;> rfl) h
theorem svInst_ok{y:SV}{b:Nat×List SV}(h:fx y=some b):y=.inst b.1 b.2:=dU (g:=fun b=>.inst b.1 b.2) (fun y=>by cases y <;> rfl) h
theorem list_ok{α β:Type}{p:α→β→Bool}{f:α→β}{x:α}{l:List α}{m:List β}(h1:∀ y,p x y=true→f x=y)(h2:l.map f=m.tail)(h:(opt m.head? (p x))=true):(x::l).map f=m:=by
 cases m with
 | nil=>cases h
 | cons y m=>rw[List.map_cons,h1 y h,h2];rfl
theorem SV.eq_all(x:SV):∀ y,SV.eq x y=true→x=y:=
 SV.rec (motive_1:=fun x=>∀ y,SV.eq x y=true→x=y) (motive_2:=fun l=>∀ m,SV.eqs l m=true→l=m)
  (fun n y h=>svAt_ok (k:=0) h) (fun n y h=>svAt_ok (k:=1) h) (fun y h=>svLit_ok (k:=1) h) (fun y h=>svLit_ok (k:=0) h)
  (fun b y h=>optE h fun a e p=>(svBool_ok (e.trans (congrArg some (eq_of_beq p).symm))).symm) (fun b y h=>optE h fun a e p=>(cn (e.trans (congrArg some (eq_of_beq p).symm))).symm)
  (fun b y h=>optE h fun a e p=>(fQ (e.trans (congrArg some (eq_of_beq p).symm))).symm) (fun b y h=>optE h fun a e p=>(svFn_ok (e.trans (congrArg some (eq_of_beq p).symm))).symm)
  (fun v y h=>nomatch h)
  (fun l ih y h=>optE h fun a e p=>(eK (e.trans (congrArg some (ih a p).symm))).symm)
  (fun b l ih y h=>optE h fun a e p=>by rw[cD e,oeq_ok (a9 p),ih _ (aa p)])
  (fun n y h=>svAt_ok (k:=2) h) (fun n y h=>svAt_ok (k:=3) h)
  (fun c l ih y h=>optE h fun a e p=>by rw[svInst_ok e,eq_of_beq (a9 p),ih _ (aa p)])
  (fun m h=>(List.isEmpty_iff.mp h).symm) (fun x l h1 h2 m h=>(List.map_id _).symm.trans (list_ok (f:=id) h1 ((List.map_id _).trans (h2 _ (aa (a9 h)))) (a9 (a9 h)))) x
theorem SV.eq_ok{x y:SV}(h:SV.eq x y=true):x=y:=SV.eq_all x y h
theorem SV.eqs_ok{x:List SV}:∀ {y:List SV},SV.eqs x y=true→x=y:=by
 induction x with
 | nil=>intro m h;exact(List.isEmpty_iff.mp h).symm
 | cons x l ih=>intro m h;exact(List.map_id _).symm.trans (list_ok (f:=id) (SV.eq_all x) ((List.map_id _).trans (ih (aa (a9 h)))) (a9 (a9 h)))
theorem SV.eqp_ok{x:List (SV×SV)}:∀ {y:List (SV×SV)},SV.eqp x y=true→x=y:=by
 induction x with
 | nil=>intro m h;exact(List.isEmpty_iff.mp h).symm
 | cons x l ih=>
  intro m h
  have h:(opt m.head? (fun y=>SV.eq x.1 y.1&&SV.eq x.2 y.2)&&SV.eqp l m.tail&&!m.isEmpty)=true:=h
  exact(List.map_id _).symm.trans (list_ok (p:=fun (x y:SV×SV)=>SV.eq x.1 y.1&&SV.eq x.2 y.2) (f:=id) (fun y h=>Prod.ext (SV.eq_ok (a9 h)) (SV.eq_ok (aa h))) ((List.map_id _).trans (ih (aa (a9 h)))) (a9 (a9 h)))
theorem SO1.eq_ok{x y:SO1}(h:SO1.eq x y=true):x=y:=by
 have a:=eq_of_beq (a9 h)
 have b:=SV.eq_ok (aa h)
 cases x <;> cases y <;> cases a <;> cases b <;> rfl
theorem SO1.eqs_ok{x:List SO1}:∀ {y:List SO1},SO1.eqs x y=true→x=y:=by
 induction x with
 | nil=>intro m h;exact(List.isEmpty_iff.mp h).symm
 | cons x l ih=>intro m h;exact(List.map_id _).symm.trans (list_ok (f:=id) (fun y h=>SO1.eq_ok h) ((List.map_id _).trans (ih (aa (a9 h)))) (a9 (a9 h)))
noncomputable def SO.mk(tag:Nat)(v:SV)(l:List SO1):SO:=match tag with
 | 0=>.v v
 | 1=>(match dW v with | some p=>.list p.1 p.2 | none=>.v v)
 | 2=>(match v with | .dict n=>.dict n | _=>.v v)
 | 3=>(match v with | .sdict n=>.sdict n | _=>.v v)
 | _=>(match cR v with | some i=>.inst i.toNat l | none=>.v v)
theorem SO.mk_ok(x:SO):SO.mk x.tag x.val x.parts=x:=by cases x <;> rfl
theorem SO.eq_ok{x y:SO}(h:SO.eq x y=true):x=y:=by
 rw[← SO.mk_ok x,← SO.mk_ok y,eq_of_beq (a9 (a9 h)),SV.eq_ok (aa (a9 h)),SO1.eqs_ok (aa h)]
theorem num_inj{α:Type}{n:α→Nat}{inv:Nat→α}(h:∀ a,inv (n a)=a){a b:α}(e:(n a==n b)=true):a=b:=by rw[← h a,eq_of_beq e,h]
theorem Op.n_inj{a b:Op}(h:(a.n==b.n)=true):a=b:=num_inj (inv:=fun n=>match n with | 0=>.add | 1=>.sub | 2=>.mul | 3=>.mod | _=>.fdiv) (fun a=>by cases a <;> rfl) h
theorem Cmp.n_inj{a b:Cmp}(h:(a.n==b.n)=true):a=b:=num_inj (inv:=fun n=>match n with | 0=>.eq | 1=>.ne | 2=>.lt | 3=>.le | 4=>.gt | 5=>.ge | 6=>.isIn | _=>.notIn) (fun a=>by cases a <;> rfl) h
theorem Prim.n_inj{a b:Prim}(h:(a.n==b.n)=true):a=b:=num_inj (inv:=fun n=>match n with | 0=>.sorted | 1=>.sum | 2=>.all | 3=>.str | 4=>.abs | 5=>.isStr | _=>.list) (fun a=>by cases a <;> rfl) h
section
variable {Φ:Nat→List Own→Option (Own×Own)} {σ:Val} {F:b6}
theorem bp(l:List SV):aE σ l=l.map (den σ):=by induction l with | nil=>rfl | cons x l ih=>rw[aE,ih];rfl
theorem dK(l m:List SV):aE σ (l++m)=aE σ l++aE σ m:=by rw[bp,bp,bp,List.map_append]
theorem c5(l:List SV):(aE σ l).length=l.length:=by rw[bp,List.length_map]
theorem base_le(b:Option Nat):(σ.base b).length≤5000:=by cases b with | none=>exact Nat.zero_le _ | some n=>exact σ.hl n
theorem ga{b:Option Nat}{l:List SV}{n:Nat}(h:l.length≤n)(hn:n≤90000):(σ.base b++aE σ l).length≤cap:=by
 have:=base_le (σ:=σ) b
 rw[List.length_append,c5];unfold cap;lia
theorem list_lt{b:Option Nat}{l:List SV}{n:Nat}(h:l.length<n)(hn:n≤90000):(σ.base b++aE σ l).length<cap:=by
 have:=base_le (σ:=σ) b
 rw[List.length_append,c5];unfold cap;lia
theorem o1_frz(o:SO1):den σ o.frz=(o.den σ).frz:=by cases o <;> rfl
theorem o_frz(o:SO):den σ o.frz=(o.den σ).frz:=by
 cases o with
 | inst c l=>
  show V.inst c (aE σ (l.map SO1.frz))=V.inst c ((l.map (SO1.den σ)).map O1.frz)
  rw[bp,List.map_map,List.map_map]
  exact congrArg _ (List.map_congr_left fun o _=>o1_frz o)
 | _=>rfl
theorem v_def{v:V}(h:SV.def (.k v)=true):v≠.undef:=fun e=>by rw[e] at h;cases h
theorem def_ok{x:SV}(h:x.def=true):den σ x≠.undef:=by
 cases x with
 | a n=>exact σ.hv n
 | undef=>cases h
 | k v=>exact v_def h
 | _=>exact fun e=>nomatch e
theorem ok_of{x:V}(h:x≠.undef):x.ok=some x:=by cases x <;> first | rfl | exact absurd rfl h
theorem items_ok{x:SV}{l:List SV}(h:f9 x=some l):den σ x=.tup (aE σ l)∨den σ x=.list (aE σ l):=by
 have key:∀ x,(f9 x).elim True fun l=>den σ x=.tup (aE σ l)∨den σ x=.list (aE σ l):=fun x=>by
  cases x with
  | tup m=>exact .inl rfl
  | list b m=>cases b with
   | none=>exact .inr rfl
   | some b=>trivial
  | _=>trivial
 have:=key x
 rw[h] at this;exact this
theorem idx_ok{l:List SV}{i:Int}{r:SV}(h:sIdx l i=some r):(Mine.place (aE σ l).length i).bind (fun j=>(aE σ l)[j]?)=some (den σ r):=by
 unfold sIdx at h
 unfold Mine.place
 rw[c5,bp]
 refine ifE h fun hc h=>?_
 rw[if_pos (Nat.le_trans hc (by decide))]
 by_cases hi:0≤i
 ·rw[if_pos hi] at h ⊢
  have:=(List.getElem?_eq_some_iff.mp h).1
  rw[if_pos (by lia),Option.bind_some,List.getElem?_map,h];rfl
 ·rw[if_neg hi] at h ⊢
  refine ifE h fun h2 h=>?_
  rw[if_pos h2,Option.bind_some,List.getElem?_map,h];rfl
theorem item_okL{F:b6}(H:FOk Φ σ F){x k r:SV}(h:sItem F x k=some r):(den σ x).item (den σ k)=some (den σ r)∧den σ r≠.undef:=
 dg h (fun f m p e=>by rw[← SV.eq_ok (a9 p),← SV.eq_ok (aa p),← e];exact H.item _ _ _ m) fun h=>
  bE h fun l h1 h=>bE h fun i h2 h=>bE h fun y h3 h=>ifE h fun hd e=>by
   cases e
   rw[cn h2]
   exact⟨(items_ok (σ:=σ) h1).elim (fun e=>by rw[e];exact item_tupE.trans (idx_ok h3)) (fun e=>by rw[e];exact item_listE.trans (idx_ok h3)),def_ok hd⟩
theorem len_ok'{F:b6}(H:FOk Φ σ F){x r:SV}(h:sLen F x=some r):∃ n,(den σ x).len=some n∧den σ r=.int n:=
 dg h (fun f m p e=>by rw[← SV.eq_ok p,← e];exact H.len _ _ m) fun h=>
  bE h fun l h1 h=>ifE h fun hc e=>by
   cases e
   exact⟨l.length,(items_ok (σ:=σ) h1).elim (fun e=>by rw[e,len_tupE];exact(if_pos (by rw[c5];exact Nat.le_trans hc (by decide))).trans (congrArg some (c5 l))) (fun e=>by rw[e,len_listE];exact(if_pos (by rw[c5];exact Nat.le_trans hc (by decide))).trans (congrArg some (c5 l))),rfl⟩
theorem ints_ok{l:List SV}:∀ {x:List Int},sInts l=some x→aP (aE σ l)=some x:=by
 induction l with
 | nil=>intro x h;exact h
 | cons y l ih=>
  intro x h
  refine bE h fun i h1 h=>bE h fun r h2 h=>?_
  cases h
  rw[cn h1]
  show (aP (aE σ l)).bind _=_
  rw[ih h2];rfl
theorem iCmp_ok{o:Cmp}{a b:Int}{r:Bool}(h:iCmp o a b=some r):aH o (.int a) (.int b)=some r:=by cases o <;> first | exact h | cases h
theorem tCmp_ok{o:Cmp}{a:Int}{l:List V}{x:List Int}{r:Bool}(hl:aP l=some x)(h:tCmp o a x=some r):aH o (.int a) (.tup l)=some r:=by
 cases o with
 | isIn=>show (aP l).bind _=_;rw[hl];exact h
 | notIn=>show ((aP l).bind _).bind _=_;rw[hl];exact h
 | _=>cases h
theorem strCmp_ok{o:Cmp}{a b:List Nat}{r:Bool}(h:strCmp o a b=some r):aH o (.str a) (.str b)=some r:=by cases o <;> first | exact h | cases h
theorem ne_nil{b:Option Nat}{x:SV}{l:List SV}:aH .ne (den σ (.list b (x::l))) (.list [])=some true:=by
 show (if (σ.base b++den σ x::aE σ l).length==0 then _ else some false:Option Bool).bind _=some true
 rw[if_neg (by simp)];rfl
theorem eCmp_ok{o:Cmp}{b:Option Nat}{l:List SV}{r:Bool}(h:eCmp o b l=some r):aH o (den σ (.list b l)) (.list [])=some r:=by
 cases o with
 | ne=>cases l with
  | nil=>
   refine ifE (c:=b.isNone=true) h fun hb h=>?_
   cases Option.isNone_iff_eq_none.mp hb
   exact h
  | cons x l=>exact ne_nil.trans h
 | _=>cases h
theorem cmp_ok'{F:b6}(H:FOk Φ σ F){o:Cmp}{x y:SV}{r:Bool}(h:sCmp F o x y=some r):aH o (den σ x) (den σ y)=some r:=
 dg h (fun f m p e=>by rw[← Cmp.n_inj (a9 (a9 p)),← SV.eq_ok (aa (a9 p)),← SV.eq_ok (aa p),← e];exact H.cmp _ _ _ _ m) fun h=>
  orE h (fun h=>bE h fun a h1 h=>bE h fun b h2 h=>by rw[cn h1,cn h2];exact iCmp_ok h) fun h=>
  orE h (fun h=>bE h fun a h1 h=>bE h fun b h2 h=>bE h fun l h3 h=>by rw[cn h1,eK h2];exact tCmp_ok (ints_ok h3) h) fun h=>
  orE h (fun h=>bE h fun a h1 h=>bE h fun b h2 h=>by rw[fQ h1,fQ h2];exact strCmp_ok h) fun h=>bE h fun p h1 h=>bE h fun q h2 h=>ifE h fun hc h=>by
   rw[cD h1,cD h2,Option.isNone_iff_eq_none.mp (a9 hc),List.isEmpty_iff.mp (aa hc)]
   exact eCmp_ok h
theorem iBin_ok{o:Op}{a b:Int}{r:SO}(h:iBin o a b=some r):bH o (.int a) (.int b)=some (r.den σ):=by cases o <;> cases h <;> rfl
theorem lBin_ok{o:Op}{b:Option Nat}{l m:List SV}{r:SO}(h:lBin o b l m=some r):bH o (den σ (.list b l)) (.list (aE σ m))=some (r.den σ):=by
 cases o with
 | add=>
  refine ifE h fun hc h=>?_
  cases h
  refine add_listE.trans ((if_pos ?_).trans ?_)
  ·rw[← List.length_append,List.append_assoc,← dK]
   exact ga (by rw[List.length_append];exact hc) (by decide)
  ·rw[List.append_assoc,← dK];rfl
 | _=>cases h
theorem tBin_ok{o:Op}{l m:List SV}{r:SO}(h:tBin o l m=some r):bH o (.tup (aE σ l)) (.tup (aE σ m))=some (r.den σ):=by
 cases o with
 | add=>
  refine ifE h fun hc h=>?_
  cases h
  refine add_tupE.trans ((if_pos ?_).trans ?_)
  ·rw[c5,c5];exact Nat.le_trans hc (by decide)
  ·rw[← dK];rfl
 | _=>cases h
theorem bin_ok{F:b6}(H:FOk Φ σ F){o:Op}{x y:SV}{r:SO}(h:sBin F o x y=some r):bH o (den σ x) (den σ y)=some (r.den σ):=
 dg h (fun f m p e=>by rw[← Op.n_inj (a9 (a9 p)),← SV.eq_ok (aa (a9 p)),← SV.eq_ok (aa p),← e];exact H.bin _ _ _ _ m) fun h=>
  orE h (fun h=>bE h fun a h1 h=>bE h fun b h2 h=>by rw[cn h1,cn h2];exact iBin_ok h) fun h=>
  orE h (fun h=>bE h fun p h1 h=>bE h fun q h2 h=>ifE h fun hc h=>by rw[cD h1,cD h2,Option.isNone_iff_eq_none.mp hc];exact lBin_ok h)
   fun h=>bE h fun p h1 h=>bE h fun q h2 h=>by rw[eK h1,eK h2];exact tBin_ok h
theorem prim_ok'{F:b6}(H:FOk Φ σ F){p:Prim}{x:SV}{r:SO}(h:sPrim F p x=some r):prim p (den σ x)=some (r.den σ):=
 dg h (fun f m q e=>by rw[← Prim.n_inj (a9 q),← SV.eq_ok (aa q),← e];exact H.prim _ _ _ m) fun h=>by
  clear H
  cases p with
  | isStr=>exact orE h (fun h=>bE h fun a h1 h=>by cases h;rw[fQ h1];rfl) fun h=>bE h fun a h1 h=>by cases h;rw[eK h1];rfl
  | list=>exact bE h fun q h1 h=>ifE h fun hc h=>by cases h;rw[cD h1];exact if_pos (ga hc (by decide))
  | _=>cases h
theorem slice_ok'{F:b6}(H:FOk Φ σ F){x l h:SV}{r:SO}(e:sSlice F x l h=some r):∃ l' h',dt (dOpt σ l)=some l'∧dt (dOpt σ h)=some h'∧(den σ x).slice l' h'=some (r.den σ):=
 dg e (fun f m p e=>by rw[← SV.eq_ok (a9 (a9 p)),← SV.eq_ok (aa (a9 p)),← SV.eq_ok (aa p),← e];exact H.slice _ _ _ _ m) fun h=>nomatch h
theorem isNone_ok'{x:SV}{b:Bool}(h:sIsNone x=some b):(den σ x).isNone=some b:=by
 cases x <;> first | (cases h;done) | exact h
theorem pop_ok{F:b6}(H:FOk Φ σ F){b:Option Nat}{l:List SV}{r:SV×Option Nat×List SV}(h:sPop F b l=some r):
  σ.base b++aE σ l=(σ.base r.2.1++aE σ r.2.2)++[den σ r.1]∧den σ r.1≠.undef∧(σ.base b++aE σ l).length≤cap:=by
 unfold sPop at h
 cases e:l.getLast? with
 | some y=>
  rw[e] at h
  refine ifE h fun hz h=>?_
  cases h
  have e1:l=l.dropLast++[y]:=by
   have hne:l≠[]:=fun h=>by rw[h] at e;cases e
   rw[List.getLast?_eq_some_getLast hne] at e
   have:=(List.dropLast_concat_getLast hne).symm
   rwa [Option.some.inj e] at this
  refine⟨?_,def_ok (a9 hz),ga (of_decide_eq_true (aa hz)) (by decide)⟩
  show σ.base b++aE σ l=(σ.base b++aE σ l.dropLast)++aE σ [y]
  rw[List.append_assoc,← dK,← e1]
 | none=>
  rw[e] at h
  have e1:l=[]:=List.getLast?_eq_none_iff.mp e
  subst e1
  refine bE h fun b' hb h=>?_
  cases hb
  refine dg h (fun f m p e=>?_) fun h=>nomatch h
  obtain ⟨p1,p2⟩:=H.pop _ _ _ m
  have p1:σ.l b'=σ.l f.2.2++[den σ f.2.1]:=by rw[← eq_of_beq p];exact p1
  cases e
  refine⟨?_,p2,ga (Nat.zero_le 1) (by decide)⟩
  show σ.l b'++[]=(σ.l f.2.2++[])++[den σ f.2.1]
  rw[List.append_nil,List.append_nil,p1]
end
inductive SFl where
 | next
 | cont
 | brk
 | ret (o:SO)
noncomputable def SFl.den(σ:Val):SFl→Fl
 | .next=>.next
 | .cont=>.cont
 | .brk=>.brk
 | .ret o=>.ret (o.den σ)
structure SRec where
 ev:E→SFr→Option (SO×SFr)
 ex:S→SFr→Option (SFl×SFr)
inductive SH where
 | val (x:SV)
 | var (i:Nat)
noncomputable def soList:SO→Option (Option Nat×List SV)
 | .list b l=>some (b,l)
 | _=>none
noncomputable def fy:SO→Option (Nat×List SO1)
 | .inst c l=>some (c,l)
 | _=>none
noncomputable def soV:SO→Option SV
 | .v x=>some x
 | _=>none
noncomputable def s1List:SO1→Option (Option Nat×List SV)
 | .list b l=>some (b,l)
 | _=>none
noncomputable def fX(x:SV):Option SV:=if x.def then some x else none
noncomputable def SH.get:SH→SFr→Option SV
 | .val x,_=>some x
 | .var i,fr=>fr[i]?.bind fun o=>fX o.frz
section
variable (F:b6) (R:SRec) (lo:Nat)
noncomputable def sV(e:E)(fr:SFr):Option (SV×SFr):=(R.ev e fr).bind fun p=>some (p.1.frz,p.2)
noncomputable def sVs:List E→SFr→Option (List SV×SFr)
 | [],fr=>some ([],fr)
 | e::es,fr=>(sV R e fr).bind fun p=>(sVs es p.2).bind fun q=>some (p.1::q.1,q.2)
noncomputable def sOs:List E→SFr→Option (List SO×SFr)
 | [],fr=>some ([],fr)
 | e::es,fr=>(R.ev e fr).bind fun p=>(sOs es p.2).bind fun q=>some (p.1::q.1,q.2)
noncomputable def sB(e:E)(fr:SFr):Option (Bool×SFr):=(sV R e fr).bind fun p=>(svBool p.1).bind fun b=>some (b,p.2)
noncomputable def sH(e:E)(fr:SFr):Option (SH×SFr):=match cA e with
 | some i=>fr[i]?.bind fun o=>(fX o.frz).bind fun _=>some (.var i,fr)
 | none=>(sV R e fr).bind fun p=>some (.val p.1,p.2)
noncomputable def sAttr(i a:Nat)(fr:SFr):Option SV:=fr[i]?.bind fun o=>((fy o).bind fun p=>p.2[a]?.bind fun o=>fX o.frz).or ((soV o).bind fun x=>(fx x).bind fun p=>p.2[a]?.bind fX)
noncomputable def sA(e:E)(fr:SFr):Option (SH×SFr):=match eAttr e with
 | some q=>(sAttr q.1 q.2 fr).bind fun x=>some (.val x,fr)
 | none=>sH R e fr
noncomputable def sOpt(e:Option E)(fr:SFr):Option (SV×SFr):=match e with
 | none=>some (.undef,fr)
 | some e=>(sV R e fr).bind fun p=>(fX p.1).bind fun x=>some (x,p.2)
noncomputable def sAnd:List E→SFr→Option (Bool×SFr)
 | [],fr=>some (true,fr)
 | e::es,fr=>(sB R e fr).bind fun p=>if p.1 then sAnd es p.2 else some (false,p.2)
noncomputable def sOr:List E→SFr→Option (Bool×SFr)
 | [],fr=>some (false,fr)
 | e::es,fr=>(sB R e fr).bind fun p=>if p.1 then some (true,p.2) else sOr es p.2
noncomputable def sPairs:List (E×E)→SFr→Option (List (SV×SV)×SFr)
 | [],fr=>some ([],fr)
 | kv::r,fr=>(sV R kv.1 fr).bind fun p=>(sV R kv.2 p.2).bind fun q=>(sPairs r q.2).bind fun z=>some ((p.1,q.1)::z.1,z.2)
noncomputable def sGetL(p:P)(fr:SFr):Option (Option Nat×List SV):=match p with
 | .var i=>fr[i]?.bind soList
 | .at i a=>fr[i]?.bind fun o=>(fy o).bind fun q=>q.2[a]?.bind s1List
noncomputable def sPutL(p:P)(b:Option Nat)(l:List SV)(fr:SFr):SFr:=match p with
 | .var i=>fr.set i (.list b l)
 | .at i a=>match fr[i]? with
  | some (.inst c as)=>fr.set i (.inst c (as.set a (.list b l)))
  | _=>fr
mutual
noncomputable def sBind:T→SV→SFr→Option SFr
 | .var i,v,fr=>if lo≤i∧i<fr.length then some (fr.set i (.v v)) else none
 | .tup ts,.tup l,fr=>sBinds ts l fr
 | .tup _,_,_=>none
noncomputable def sBinds:List T→List SV→SFr→Option SFr
 | [],[],fr=>some fr
 | t::ts,v::vs,fr=>(sBind t v fr).bind fun fr=>sBinds ts vs fr
 | _,_,_=>none
end
noncomputable def sRange(lo hi:Int):List SV:=(List.range (hi - lo).toNat).map fun (i:Nat)=>.int (lo+(i:Int))
noncomputable def sEnum(l:List SV):List SV:=l.zipIdx.map fun p=>.tup [.int (p.2:Int),p.1]
noncomputable def sLst(x:SV):Option (List SV):=(dW x).bind fun p=>if p.1.isNone then some p.2 else none
noncomputable def sIt(it:It)(fr:SFr):Option (List SV×SFr):=match it with
 | .val e=>(sV R e fr).bind fun p=>(f9 p.1).bind fun l=>some (l,p.2)
 | .range none hi=>(sV R hi fr).bind fun p=>(cR p.1).bind fun h=>if cp 0 h then some (sRange 0 h,p.2) else none
 | .range (some lo) hi=>(sV R lo fr).bind fun p=>(sV R hi p.2).bind fun q=>(cR p.1).bind fun l=>(cR q.1).bind fun h=>if cp l h then some (sRange l h,q.2) else none
 | .enum e=>(sV R e fr).bind fun p=>(sLst p.1).bind fun l=>some (sEnum l,p.2)
 | .values _=>none
mutual
noncomputable def sClear:T→SFr→SFr
 | .var i,fr=>fr.set i (.v .undef)
 | .tup ts,fr=>sClears ts fr
noncomputable def sClears:List T→SFr→SFr
 | [],fr=>fr
 | t::ts,fr=>sClears ts (sClear t fr)
end
noncomputable def sCond(c:Option E)(fr:SFr):Option (Bool×SFr):=match c with
 | none=>some (true,fr)
 | some c=>sB R c fr
noncomputable def sComp(t:T)(c:Option E)(elt:E):List SV→List SV→SFr→Option (List SV×SFr)
 | [],acc,fr=>some (acc,fr)
 | x::xs,acc,fr=>(sBind lo t x fr).bind fun fr=>(sCond R c fr).bind fun p=>if p.1 then (sV R elt p.2).bind fun q=>if acc.length<4000 then sComp t c elt xs (acc++[q.1]) q.2 else none else sComp t c elt xs acc p.2
noncomputable def sInst0(i:Nat)(fr:SFr):Bool:=opt (fr[i]?) fun o=>opt (fy o) (fun p=>p.1==0)||opt ((soV o).bind fx) (fun p=>p.1==0)
noncomputable def sFn(i:Nat)(fr:SFr):Option Nat:=fr[i]?.bind fun o=>(soV o).bind svFn
noncomputable def lift:V→SV
 | .none=>.none
 | .bool b=>.bool b
 | .int i=>.int i
 | .str s=>.str s
 | .fn f=>.fn f
 | v=>.k v
noncomputable def aOwn(i a:Nat)(fr:SFr):Option (SO×SFr):=fr[i]?.bind fun o=>((fy o).bind fun p=>p.2[a]?.bind fun o=>(fX o.frz).bind fun x=>some (.v x,fr.set i (.inst p.1 (p.2.set a (.v x))))).or ((soV o).bind fun x=>(fx x).bind fun p=>p.2[a]?.bind fun x=>(fX x).bind fun x=>some (.v x,fr))
noncomputable def sCall(F:b6)(f:Nat)(l:List SV):Option SO:=look F.call (fun q=>q.1==f&&SV.eqs q.2.1 l) (·.2.2) none
noncomputable def sStepEv(e:E)(fr:SFr):Option (SO×SFr):=match e with
 | .stuck=>none
 | .const v=>some (.v (lift v),fr)
 | .var i=>fr[i]?.bind fun o=>(fX o.frz).bind fun x=>some (.v x,fr.set i (.v x))
 | .bin o a b=>(sV R a fr).bind fun p=>(sV R b p.2).bind fun q=>(sBin F o p.1 q.1).bind fun r=>some (r,q.2)
 | .neg a=>(sV R a fr).bind fun p=>(cR p.1).bind fun i=>some (.v (.int (-i)),p.2)
 | .cmp o a b=>(sH R a fr).bind fun p=>(sH R b p.2).bind fun q=>(p.1.get q.2).bind fun x=>(q.1.get q.2).bind fun y=>(sCmp F o x y).bind fun r=>some (.v (.bool r),q.2)
 | .isNone a=>(sH R a fr).bind fun p=>(p.1.get p.2).bind fun x=>(sIsNone x).bind fun r=>some (.v (.bool r),p.2)
 | .notNone a=>(sH R a fr).bind fun p=>(p.1.get p.2).bind fun x=>(sIsNone x).bind fun r=>some (.v (.bool (!r)),p.2)
 | .not a=>(sB R a fr).bind fun p=>some (.v (.bool (!p.1)),p.2)
 | .and es=>(sAnd R es fr).bind fun p=>some (.v (.bool p.1),p.2)
 | .or es=>(sOr R es fr).bind fun p=>some (.v (.bool p.1),p.2)
 | .ite c a b=>(sB R c fr).bind fun p=>if p.1 then R.ev a p.2 else R.ev b p.2
 | .tup es=>if es.length≤cap then (sVs R es fr).bind fun p=>some (.v (.tup p.1),p.2) else none
 | .list es=>if es.length≤cap then (sVs R es fr).bind fun p=>some (.list none p.1,p.2) else none
 | .dict b kvs=>if b then (if kvs.isEmpty then F.slit.head?.bind fun d=>some (.sdict d,fr) else none) else (sPairs R kvs fr).bind fun p=>(look F.dlit (fun f=>SV.eqp f.1 p.1) (·.2) none).bind fun d=>some (.dict d,p.2)
 | .call f es=>(sVs R es fr).bind fun p=>(sCall F f p.1).bind fun r=>some (r,p.2)
 | .callv i es=>(sFn i fr).bind fun f=>(sVs R es fr).bind fun p=>(sCall F f p.1).bind fun r=>some (r,p.2)
 | .new c es=>(sVs R es fr).bind fun p=>(look F.new (fun q=>q.1==c&&SV.eqs q.2.1 p.1) (·.2.2) none).bind fun r=>some (r,p.2)
 | .meth f i es=>if sInst0 i fr then (sVs R es fr).bind fun p=>p.2[i]?.bind fun o=>(fX o.frz).bind fun _=>(look F.meth (fun q=>q.1==f&&SO.eq q.2.1 o&&SV.eqs q.2.2.1 p.1) (·.2.2.2) none).bind fun r=>some (r.1,p.2.set i r.2) else none
 | .attr e a=>match cA e with
  | some i=>aOwn i a fr
  | none=>(sV R e fr).bind fun p=>(fx p.1).bind fun as=>as.2[a]?.bind fun x=>(fX x).bind fun x=>some (.v x,p.2)
 | .sub e k=>(sA R e fr).bind fun p=>(sV R k p.2).bind fun q=>(p.1.get q.2).bind fun x=>(sItem F x q.1).bind fun r=>some (.v r,q.2)
 | .slice e l h=>(sH R e fr).bind fun p=>(sOpt R l p.2).bind fun q=>(sOpt R h q.2).bind fun r=>(p.1.get r.2).bind fun x=>(sSlice F x q.1 r.1).bind fun o=>some (o,r.2)
 | .len e=>(sA R e fr).bind fun p=>(p.1.get p.2).bind fun x=>(sLen F x).bind fun n=>some (.v n,p.2)
 | .prim q e=>(sH R e fr).bind fun p=>(p.1.get p.2).bind fun x=>(sPrim F q x).bind fun o=>some (o,p.2)
 | .lrange e=>(sV R e fr).bind fun p=>(cR p.1).bind fun n=>if cp 0 n then some (.list none (sRange 0 n),p.2) else none
 | .comp t it c elt=>(sIt R it fr).bind fun p=>(sComp R lo t c elt p.1 [] (sClear t p.2)).bind fun q=>some (.list none q.1,sClear t q.2)
 | .app q e=>(sGetL q fr).bind fun _=>(sV R e fr).bind fun p=>(sGetL q p.2).bind fun l=>if l.2.length<4000 then some (.v .none,sPutL q l.1 (l.2++[p.1]) p.2) else none
 | .ext q e=>(sGetL q fr).bind fun _=>(sV R e fr).bind fun p=>(sGetL q p.2).bind fun l=>(sLst p.1).bind fun m=>if l.2.length+m.length<4000 then some (.v .none,sPutL q l.1 (l.2++m) p.2) else none
 | .pop q o=>match o with
  | none=>(sGetL q fr).bind fun l=>(sPop F l.1 l.2).bind fun r=>some (.v r.1,sPutL q r.2.1 r.2.2 fr)
  | some _=>none
noncomputable def fW:List S→SFr→Option (SFl×SFr)
 | [],fr=>some (.next,fr)
 | s::r,fr=>(R.ex s fr).bind fun p=>match p.1 with
  | .next=>fW r p.2
  | f=>some (f,p.2)
noncomputable def syFor(t:T)(b:List S):List SV→SFr→Option (SFl×SFr)
 | [],fr=>some (.next,fr)
 | x::xs,fr=>(sBind lo t x fr).bind fun fr=>(fW R b fr).bind fun p=>match p.1 with
  | .next=>syFor t b xs p.2
  | .cont=>syFor t b xs p.2
  | .brk=>some (.next,p.2)
  | .ret o=>some (.ret o,p.2)
noncomputable def SO.toO1:SO→SO1
 | .list b l=>.list b l
 | o=>.v o.frz
noncomputable def sSetAll:List Nat→List SO→SFr→Option SFr
 | [],[],fr=>some fr
 | i::is,o::os,fr=>if lo≤i∧i<fr.length then sSetAll is os (fr.set i o) else none
 | _,_,_=>none
noncomputable def sAsgD(fr:SFr)(i:Nat)(k v:SV):SO→Option SFr
 | .dict d=>(look F.dset (fun q=>q.1==d&&SV.eq q.2.1 k&&SV.eq q.2.2.1 v) (·.2.2.2) none).bind fun d=>some (fr.set i (.dict d))
 | .sdict d=>(look F.sset (fun q=>q.1==d&&SV.eq q.2.1 k&&SV.eq q.2.2.1 v) (·.2.2.2) none).bind fun d=>some (fr.set i (.sdict d))
 | _=>none
noncomputable def soIsD:SO→Bool
 | .dict _=>true
 | .sdict _=>true
 | _=>false
noncomputable def sIsPl(p:P)(fr:SFr):Bool:=match p with
 | .var i=>opt (fr[i]?) soIsD
 | .at i a=>(sGetL (.at i a) fr).isSome
noncomputable def sAsgP(p:P)(k v:SV)(fr:SFr):Option SFr:=match p with
 | .var i=>fr[i]?.bind fun o=>sAsgD F fr i k v o
 | .at i a=>(sGetL (.at i a) fr).bind fun l=>if l.2.isEmpty then l.1.bind fun b=>(look F.lset (fun q=>q.1==b&&SV.eq q.2.1 k&&SV.eq q.2.2.1 v) (·.2.2.2) none).bind fun b=>some (sPutL (.at i a) (some b) [] fr) else none
noncomputable def sStepEx(la:Nat)(s:S)(fr:SFr):Option (SFl×SFr):=match s with
 | .stuck=>none
 | .expr e=>(R.ev e fr).bind fun p=>some (.next,p.2)
 | .asg t e=>match t with
  | .t (.var i)=>(R.ev e fr).bind fun p=>if lo≤i∧i<p.2.length then some (.next,p.2.set i p.1) else none
  | .t (.tup ts)=>(sV R e fr).bind fun p=>(sBind lo (.tup ts) p.1 p.2).bind fun fr=>some (.next,fr)
  | .attr i a=>(R.ev e fr).bind fun p=>p.2[i]?.bind fun o=>(fy o).bind fun q=>if la≤i∧a<q.2.length then some (.next,p.2.set i (.inst q.1 (q.2.set a p.1.toO1))) else none
  | .sub q k=>(sV R e fr).bind fun p=>if sIsPl q p.2 then (sV R k p.2).bind fun z=>(sAsgP F q z.1 p.1 z.2).bind fun fr=>some (.next,fr) else none
 | .asgT is es=>(sOs R es fr).bind fun p=>(sSetAll lo is p.1 p.2).bind fun fr=>some (.next,fr)
 | .iff c a b=>(sB R c fr).bind fun p=>fW R (if p.1 then a else b) p.2
 | .forr t it b=>(sIt R it fr).bind fun p=>syFor R lo t b p.1 p.2
 | .whil _ _=>none
 | .ret e=>match cA e with
  | some i=>fr[i]?.bind fun o=>(fX o.frz).bind fun _=>if la≤i then some (.ret o,fr.set i (.v .undef)) else none
  | none=>(R.ev e fr).bind fun p=>some (.ret p.1,p.2)
 | .cont=>some (.cont,fr)
 | .brk=>some (.brk,fr)
end
noncomputable def fw(F:b6)(lo la:Nat):Nat→SRec
 | 0=>⟨fun _ _=>none,fun _ _=>none⟩
 | n+1=>⟨sStepEv F (fw F lo la n) lo,sStepEx F (fw F lo la n) lo la⟩
noncomputable def Lf{α β:Type}(d:α→β)(x:Option α)(y:Option β):Prop:=∀ a,x=some a→y=some (d a)
theorem Lf.bind{α β γ δ:Type}{d:α→β}{e:γ→δ}{x:Option α}{y:Option β}{f:α→Option γ}{g:β→Option δ}(h:Lf d x y)(k:∀ a,x=some a→Lf e (f a) (g (d a))):Lf e (x.bind f) (y.bind g):=fun r hr=>
 bE hr fun a h1 h2=>by rw[h a h1];exact k a h1 r h2
theorem Lf.ret{α β:Type}{d:α→β}{a:α}{b:β}(h:d a=b):Lf d (some a) (some b):=fun r hr=>by cases hr;rw[h]
theorem Lf.no{α β:Type}{d:α→β}{y:Option β}:Lf d none y:=fun r hr=>nomatch hr
theorem Lf.ite{α β:Type}{d:α→β}{p q:Prop} [Decidable p] [Decidable q] {x:Option α} {y:Option β} (h:p→q) (k:p→Lf d x y):Lf d (if p then x else none) (if q then y else none):=fun r hr=>
 ifE hr fun hp hx=>by rw[if_pos (h hp)];exact k hp r hx
theorem Lf.cond{α β:Type}{d:α→β}{b:Bool}{x x':Option α}{y y':Option β}(k:Lf d x y)(k':Lf d x' y'):Lf d (if b then x else x') (if b then y else y'):=by cases b <;> assumption
theorem Lf.pre{α γ β:Type}{d:γ→β}{x:Option α}{f:α→Option γ}{y:Option β}(k:∀ a,x=some a→Lf d (f a) y):Lf d (x.bind f) y:=fun r hr=>bE hr fun a h1 h2=>k a h1 r h2
theorem Lf.map{α β:Type}{d:α→β}{x:Option α}:Lf d x (x.map d):=fun a h=>by rw[h];rfl
noncomputable def dO(σ:Val)(p:SO×SFr):Own×Fr:=(p.1.den σ,am σ p.2)
noncomputable def dV(σ:Val)(p:SV×SFr):V×Fr:=(den σ p.1,am σ p.2)
noncomputable def dVs(σ:Val)(p:List SV×SFr):List V×Fr:=(aE σ p.1,am σ p.2)
noncomputable def dB(σ:Val)(p:Bool×SFr):Bool×Fr:=(p.1,am σ p.2)
noncomputable def dOs(σ:Val)(p:List SO×SFr):List Own×Fr:=(p.1.map (SO.den σ),am σ p.2)
noncomputable def SH.den(σ:Val):SH→H
 | .val x=>.val (Mine.den σ x)
 | .var i=>.var i
noncomputable def dH(σ:Val)(p:SH×SFr):H×Fr:=(p.1.den σ,am σ p.2)
noncomputable def dOp(σ:Val)(p:SV×SFr):Option V×Fr:=(dOpt σ p.1,am σ p.2)
noncomputable def dPs(σ:Val)(p:List (SV×SV)×SFr):List (V×V)×Fr:=(p.1.map fun q=>(den σ q.1,den σ q.2),am σ p.2)
noncomputable def dL(σ:Val)(p:Option Nat×List SV):List V:=σ.base p.1++aE σ p.2
noncomputable def dX(σ:Val)(p:SFl×SFr):Fl×Fr:=(p.1.den σ,am σ p.2)
structure Sim (σ:Val) (R:SRec) (R':Rec):Prop where
 ev:∀ e fr,Lf (dO σ) (R.ev e fr) (R'.ev e (am σ fr))
 ex:∀ s fr,Lf (dX σ) (R.ex s fr) (R'.ex s (am σ fr))
theorem bnd{α β:Type}{a:Option α}{f:α→Option β}{r:β}(h:a.bind f=some r):∃ x,a=some x∧f x=some r:=Option.bind_eq_some_iff.mp h
theorem ac{α β:Type}{a:Option α}{f:α→Option β}{r:β}{x:α}(h:a=some x)(h2:f x=some r):a.bind f=some r:=by rw[h];exact h2
section
variable {Φ:Nat→List Own→Option (Own×Own)} {σ:Val} {F:b6} {R:SRec} {R':Rec} {lo la W:Nat}
theorem denF_at{fr:SFr}{i:Nat}:Lf (SO.den σ) fr[i]? (am σ fr)[i]?:=by unfold am;rw[List.getElem?_map];exact .map
theorem bq(fr:SFr)(i:Nat)(o:SO):am σ (fr.set i o)=(am σ fr).set i (o.den σ):=by unfold am;rw[List.map_set]
theorem denF_len(fr:SFr):(am σ fr).length=fr.length:=List.length_map ..
theorem o1_at{l:List SO1}{a:Nat}:Lf (SO1.den σ) l[a]? (l.map (SO1.den σ))[a]?:=by rw[List.getElem?_map];exact .map
theorem sv_at{l:List SV}{a:Nat}:Lf (den σ) l[a]? (aE σ l)[a]?:=by rw[bp,List.getElem?_map];exact .map
theorem def_L(x:SV):Lf (den σ) (fX x) (den σ x).ok:=fun r h=>ifE h fun hd e=>by cases e;exact ok_of (def_ok hd)
theorem defO_L(o:SO):Lf (den σ) (fX o.frz) (o.den σ).frz.ok:=by rw[← o_frz];exact def_L _
theorem def1_L(o:SO1):Lf (den σ) (fX o.frz) (o.den σ).frz.ok:=by rw[← o1_frz];exact def_L _
theorem so_inv{α:Type}{f:SO→Option α}{g:α→SO}(hh:∀ y,(f y).elim y g=y){y:SO}{b:α}(h:f y=some b):y=g b:=by rw[← hh y,h];rfl
theorem soList_ok{y:SO}{b:Option Nat×List SV}(h:soList y=some b):y=.list b.1 b.2:=so_inv (g:=fun b=>.list b.1 b.2) (fun y=>by cases y <;> rfl) h
theorem soInst_ok{y:SO}{b:Nat×List SO1}(h:fy y=some b):y=.inst b.1 b.2:=so_inv (g:=fun b=>.inst b.1 b.2) (fun y=>by cases y <;> rfl) h
theorem soV_ok{y:SO}{b:SV}(h:soV y=some b):y=.v b:=so_inv (fun y=>by cases y <;> rfl) h
theorem s1List_ok{y:SO1}{b:Option Nat×List SV}(h:s1List y=some b):y=.list b.1 b.2:=by cases y <;> cases h;rfl
theorem bK(S:Sim σ R R')(e:E)(fr:SFr):Lf (dV σ) (sV R e fr) (evV R' e (am σ fr)):=(S.ev e fr).bind fun p _=>.ret (Prod.ext (o_frz p.1) rfl)
theorem sVs_ok(S:Sim σ R R')(es:List E):∀ fr:SFr,Lf (dVs σ) (sVs R es fr) (evs R' es (am σ fr)):=by
 induction es with
 | nil=>intro fr;exact .ret rfl
 | cons e es ih=>intro fr;exact(bK S e fr).bind fun p _=>(ih p.2).bind fun q _=>.ret rfl
theorem sOs_ok(S:Sim σ R R')(es:List E):∀ fr:SFr,Lf (dOs σ) (sOs R es fr) (evOs R' es (am σ fr)):=by
 induction es with
 | nil=>intro fr;exact .ret rfl
 | cons e es ih=>intro fr;exact(S.ev e fr).bind fun p _=>(ih p.2).bind fun q _=>.ret rfl
theorem bool_L(x:SV):Lf id (svBool x) (vBool (den σ x)):=fun b h=>by rw[svBool_ok h];rfl
theorem int_L(x:SV):Lf id (cR x) (vInt (den σ x)):=fun b h=>by rw[cn h];rfl
theorem fn_L(x:SV):Lf id (svFn x) (vFn (den σ x)):=fun b h=>by rw[svFn_ok h];rfl
noncomputable def dI(σ:Val)(p:Nat×List SV):Nat×List V:=(p.1,aE σ p.2)
noncomputable def dI1(σ:Val)(p:Nat×List SO1):Nat×List O1:=(p.1,p.2.map (SO1.den σ))
theorem inst_L(x:SV):Lf (dI σ) (fx x) (vInst (den σ x)):=fun b h=>by rw[svInst_ok h];rfl
theorem oV_L(x:SO):Lf (den σ) (soV x) (oV (x.den σ)):=fun b h=>by rw[soV_ok h];rfl
theorem oInst_L(x:SO):Lf (dI1 σ) (fy x) (oInst (x.den σ)):=fun b h=>by rw[soInst_ok h];rfl
theorem oList_L(x:SO):Lf (dL σ) (soList x) (oList (x.den σ)):=fun b h=>by rw[soList_ok h];rfl
theorem o1List_L(x:SO1):Lf (dL σ) (s1List x) (o1List (x.den σ)):=fun b h=>by rw[s1List_ok h];rfl
theorem seq_L(x:SV):Lf (aE σ) (f9 x) (vSeq (den σ x)):=fun b h=>by rcases items_ok (σ:=σ) h with e | e <;> (rw[e];rfl)
theorem sB_ok(S:Sim σ R R')(e:E)(fr:SFr):Lf (dB σ) (sB R e fr) (evB R' e (am σ fr)):=(bK S e fr).bind fun p _=>(bool_L p.1).bind fun b _=>.ret rfl
theorem eT(h:SH)(fr:SFr):Lf (den σ) (h.get fr) ((h.den σ).get (am σ fr)):=by
 cases h with
 | val x=>exact .ret rfl
 | var i=>exact denF_at.bind fun o _=>defO_L o
theorem sH_ok(S:Sim σ R R')(e:E)(fr:SFr):Lf (dH σ) (sH R e fr) (evH R' e (am σ fr)):=by
 unfold sH evH
 cases cA e with
 | some i=>exact denF_at.bind fun o _=>(defO_L o).bind fun x _=>.ret rfl
 | none=>exact(bK S _ fr).bind fun p _=>.ret rfl
theorem Lf.or2{α β:Type}{d:α→β}{x x':Option α}{y y':Option β}(k:Lf d x y)(k':Lf d x' y')(h:∀ a,x'=some a→y=none):Lf d (x.or x') (y.or y'):=fun r hr=>orE hr (fun h=>by rw[k r h];rfl) fun h2=>by rw[h r h2];exact k' r h2
theorem v_not{o:SO}{α β γ:Type}{f:SV→Option α}{g:Nat×List O1→Option β}{r:α}(h:(soV o).bind f=some r):(oInst (o.den σ)).bind g=none:=bE h fun x hx _=>by rw[soV_ok hx];rfl
theorem sAttr_ok(i a:Nat)(fr:SFr):Lf (den σ) (sAttr i a fr) (attrOf i a (am σ fr)):=denF_at.bind fun o _=>
 .or2 ((oInst_L o).bind fun p _=>o1_at.bind fun o _=>def1_L o) ((oV_L o).bind fun x _=>(inst_L x).bind fun p _=>sv_at.bind fun x _=>def_L x) fun r h=>v_not (γ:=Unit) h
theorem sA_ok(S:Sim σ R R')(e:E)(fr:SFr):Lf (dH σ) (sA R e fr) (evA R' e (am σ fr)):=by
 unfold sA evA
 cases eAttr e with
 | some q=>exact(sAttr_ok q.1 q.2 fr).bind fun x _=>.ret rfl
 | none=>exact sH_ok S _ fr
theorem opt_def{x:SV}(h:x.def=true):dOpt σ x=some (den σ x):=by cases x <;> first | rfl | cases h
theorem sOpt_ok(S:Sim σ R R')(e:Option E)(fr:SFr):Lf (dOp σ) (sOpt R e fr) (evOpt R' e (am σ fr)):=by
 cases e with
 | none=>exact .ret rfl
 | some e=>exact(bK S e fr).bind fun p _=>.pre fun x hx=>ifE hx fun hd hx=>by cases hx;exact .ret (Prod.ext (opt_def hd) rfl)
theorem sAnd_ok(S:Sim σ R R')(es:List E):∀ fr:SFr,Lf (dB σ) (sAnd R es fr) (evAnd R' es (am σ fr)):=by
 induction es with
 | nil=>intro fr;exact .ret rfl
 | cons e es ih=>intro fr;exact(sB_ok S e fr).bind fun p _=>.cond (ih p.2) (.ret rfl)
theorem sOr_ok(S:Sim σ R R')(es:List E):∀ fr:SFr,Lf (dB σ) (sOr R es fr) (evOr R' es (am σ fr)):=by
 induction es with
 | nil=>intro fr;exact .ret rfl
 | cons e es ih=>intro fr;exact(sB_ok S e fr).bind fun p _=>.cond (.ret rfl) (ih p.2)
theorem sPairs_ok(S:Sim σ R R')(es:List (E×E)):∀ fr:SFr,Lf (dPs σ) (sPairs R es fr) (dh R' es (am σ fr)):=by
 induction es with
 | nil=>intro fr;exact .ret rfl
 | cons e es ih=>intro fr;exact(bK S e.1 fr).bind fun p _=>(bK S e.2 p.2).bind fun q _=>(ih q.2).bind fun z _=>.ret rfl
theorem eg(p:P)(fr:SFr):Lf (dL σ) (sGetL p fr) (aV p (am σ fr)):=by
 cases p with
 | var i=>exact denF_at.bind fun o _=>oList_L o
 | «at» i a=>exact denF_at.bind fun o _=>(oInst_L o).bind fun q _=>o1_at.bind fun o _=>o1List_L o
theorem putL_ok(p:P)(fr:SFr)(b:Option Nat)(l:List SV):am σ (sPutL p b l fr)=bv p (σ.base b++aE σ l) (am σ fr):=by
 cases p with
 | var i=>exact bq ..
 | «at» i a=>
  simp only[sPutL,bv]
  have hg:(am σ fr)[i]?=(fr[i]?).map (SO.den σ):=List.getElem?_map ..
  rw[hg]
  generalize fr[i]?=z
  cases z with
  | none=>rfl
  | some o=>cases o with
   | inst c as=>rw[bq];exact congrArg (fun l=>(am σ fr).set i (.inst c l)) (List.map_set ..)
   | _=>rfl
theorem bind_ok(t:T):∀ (v:SV) (fr:SFr),Lf (am σ) (sBind lo t v fr) (cj lo t (den σ v) (am σ fr)):=
 T.rec (motive_1:=fun t=>∀ (v:SV) (fr:SFr),Lf (am σ) (sBind lo t v fr) (cj lo t (den σ v) (am σ fr))) (motive_2:=fun ts=>∀ (vs:List SV) (fr:SFr),Lf (am σ) (sBinds lo ts vs fr) (bindTs lo ts (aE σ vs) (am σ fr)))
  (fun i v fr=>Lf.ite (x:=some (fr.set i (.v v))) (y:=some ((am σ fr).set i (.v (den σ v)))) (fun h=>⟨h.1,by rw[denF_len];exact h.2⟩) fun _=>.ret (bq ..))
  (fun ts ih v fr=>by cases v <;> first | exact ih _ fr | exact fun r hr=>nomatch hr)
  (fun vs fr=>by cases vs <;> first | exact .ret rfl | exact .no)
  (fun t ts h1 h2 vs fr=>by cases vs <;> first | exact .no | exact(h1 _ fr).bind fun fr _=>h2 _ fr) t
theorem clear_ok(t:T):∀ (fr:SFr),am σ (sClear t fr)=t.clear (am σ fr):=
 T.rec (motive_1:=fun t=>∀ (fr:SFr),am σ (sClear t fr)=t.clear (am σ fr)) (motive_2:=fun ts=>∀ (fr:SFr),am σ (sClears ts fr)=eW ts (am σ fr))
  (fun i fr=>bq ..) (fun ts ih fr=>ih fr) (fun fr=>rfl) (fun t ts h1 h2 fr=>(h2 (sClear t fr)).trans (congrArg (eW ts) (h1 fr))) t
theorem range_ok(lo hi:Int):aE σ (sRange lo hi)=b9 lo hi:=by rw[bp];unfold sRange b9;rw[List.map_map];rfl
theorem enum_ok(l:List SV):aE σ (sEnum l)=di (aE σ l):=by
 rw[bp,bp];unfold sEnum di
 rw[List.map_map,List.zipIdx_map,List.map_map]
 rfl
theorem lst_ok{x:SV}{l:List SV}(h:sLst x=some l):den σ x=.list (aE σ l):=bE h fun p h1 h=>ifE h fun hb h=>by
 cases h
 rw[cD h1,Option.isNone_iff_eq_none.mp hb];rfl
theorem lst_L(x:SV):Lf (aE σ) (sLst x) (d2 (den σ x)):=fun l h=>by rw[lst_ok h];rfl
theorem sIt_ok(S:Sim σ R R')(it:It)(fr:SFr):Lf (dVs σ) (sIt R it fr) (bZ R' it (am σ fr)):=by
 cases it with
 | val e=>exact(bK S e fr).bind fun p _=>(seq_L p.1).bind fun l _=>.ret rfl
 | range l hi=>
  cases l with
  | none=>exact(bK S hi fr).bind fun p _=>(int_L p.1).bind fun i _=>.ite id fun _=>.ret (Prod.ext (range_ok ..) rfl)
  | some l=>exact(bK S l fr).bind fun p _=>(bK S hi p.2).bind fun q _=>(int_L p.1).bind fun i _=>(int_L q.1).bind fun j _=>.ite id fun _=>.ret (Prod.ext (range_ok ..) rfl)
 | enum e=>exact(bK S e fr).bind fun p _=>(lst_L p.1).bind fun l _=>.ret (Prod.ext (enum_ok _) rfl)
 | values e=>exact .no
theorem sCond_ok(S:Sim σ R R')(c:Option E)(fr:SFr):Lf (dB σ) (sCond R c fr) (evCond R' c (am σ fr)):=by
 cases c with
 | none=>exact .ret rfl
 | some c=>exact sB_ok S c fr
theorem sComp_ok(S:Sim σ R R'){t:T}{c:Option E}{elt:E}(xs:List SV):∀ (acc:List SV) (fr:SFr),Lf (dVs σ) (sComp R lo t c elt xs acc fr) (bt R' lo t c elt (aE σ xs) (aE σ acc) (am σ fr)):=by
 induction xs with
 | nil=>intro acc fr;exact .ret rfl
 | cons x xs ih=>
  intro acc fr
  refine(bind_ok t x fr).bind fun fr1 _=>(sCond_ok S c fr1).bind fun p _=>.cond ((bK S elt p.2).bind fun q _=>.ite (fun h=>by rw[c5];exact Nat.lt_trans h (by decide)) fun _=>?_) (ih acc p.2)
  have:=ih (acc++[q.1]) q.2
  rwa [dK] at this
end
section
variable {Φ:Nat→List Own→Option (Own×Own)} {σ:Val} {F:b6} {R:SRec} {R':Rec} {lo la W:Nat}
theorem lift_ok(v:V):den σ (lift v)=v:=by cases v <;> rfl
theorem call_ok(H:FOk Φ σ F)(f:Nat)(l:List SV){α:Type}{k:SO→Option α}{k':Own×Own→Option (Own×Fr)}{d:α→Own×Fr}(hk:∀ r z,Lf d (k r) (k' (r.den σ,z))):Lf d ((sCall F f l).bind k) ((Φ f ((aE σ l).map .v)).bind k'):=.pre fun r hr=>
 dg hr (fun q m p e=>by
  cases e
  obtain ⟨z,hz⟩:=H.call _ _ _ m
  rw[← SV.eqs_ok (aa p),← eq_of_beq (a9 p),hz]
  exact hk _ z) noE
theorem aOwn_ok(i a:Nat)(fr:SFr):Lf (dO σ) (aOwn i a fr) (attrO i a (am σ fr)):=denF_at.bind fun o _=>
 .or2 ((oInst_L o).bind fun p _=>o1_at.bind fun o _=>(def1_L o).bind fun x _=>.ret (Prod.ext rfl ((bq ..).trans (congrArg (fun l=>(am σ fr).set i (.inst p.1 l)) (List.map_set ..)))))
  ((oV_L o).bind fun x _=>(inst_L x).bind fun p _=>sv_at.bind fun x _=>(def_L x).bind fun x _=>.ret rfl) fun r h=>v_not (γ:=Unit) h
theorem inst0_ok{i:Nat}{fr:SFr}(h:sInst0 i fr=true):isInst i (am σ fr)=some ():=optE h fun o ho hc=>by
 unfold isInst
 rw[denF_at o ho]
 rcases Bool.or_eq_true_iff.mp hc with hc | hc
 ·refine optE hc fun p hp h0=>?_
  rw[soInst_ok hp]
  exact congrArg (fun x=>Option.or x _) (if_pos (eq_of_beq h0))
 ·refine optE hc fun p hp h0=>bE hp fun x hx hp=>?_
  rw[soV_ok hx,svInst_ok hp]
  exact if_pos (eq_of_beq h0)
theorem app_den(b:Option Nat)(l m:List SV):σ.base b++aE σ (l++m)=(σ.base b++aE σ l)++aE σ m:=by rw[dK,List.append_assoc]
theorem sStepEv_ok(H:FOk Φ σ F)(S:Sim σ R R')(e:E)(fr:SFr):Lf (dO σ) (sStepEv F R lo e fr) (al R' lo Φ e (am σ fr)):=by
 cases e with
 | stuck=>exact .no
 | const v=>exact .ret (Prod.ext (congrArg Own.v (lift_ok v)) rfl)
 | var i=>exact denF_at.bind fun o _=>(defO_L o).bind fun x _=>.ret (Prod.ext rfl (bq ..))
 | bin o a b=>exact(bK S a fr).bind fun p _=>(bK S b p.2).bind fun q _=>Lf.bind (d:=SO.den σ) (fun r h=>bin_ok H h) fun r _=>.ret rfl
 | neg a=>exact(bK S a fr).bind fun p _=>(int_L p.1).bind fun i _=>.ret rfl
 | cmp o a b=>exact(sH_ok S a fr).bind fun p _=>(sH_ok S b p.2).bind fun q _=>(eT p.1 q.2).bind fun x _=>(eT q.1 q.2).bind fun y _=>Lf.bind (d:=id) (fun r h=>cmp_ok' H h) fun r _=>.ret rfl
 | isNone a=>exact(sH_ok S a fr).bind fun p _=>(eT p.1 p.2).bind fun x _=>Lf.bind (d:=id) (fun r h=>isNone_ok' h) fun r _=>.ret rfl
 | notNone a=>exact(sH_ok S a fr).bind fun p _=>(eT p.1 p.2).bind fun x _=>Lf.bind (d:=id) (fun r h=>isNone_ok' h) fun r _=>.ret rfl
 | not a=>exact(sB_ok S a fr).bind fun p _=>.ret rfl
 | and es=>exact(sAnd_ok S es fr).bind fun p _=>.ret rfl
 | or es=>exact(sOr_ok S es fr).bind fun p _=>.ret rfl
 | ite c a b=>exact(sB_ok S c fr).bind fun p _=>.cond (S.ev a p.2) (S.ev b p.2)
 | tup es=>exact .ite id fun _=>(sVs_ok S es fr).bind fun p _=>.ret rfl
 | list es=>exact .ite id fun _=>(sVs_ok S es fr).bind fun p _=>.ret rfl
 | dict b kvs=>
  cases b with
  | true=>
   exact fun r h=>ifE h fun hc h=>bE h fun d h1 h=>by
    cases h
    rw[List.isEmpty_iff.mp hc]
    show some (Own.sdict [],_)=some (Own.sdict (σ.s d),_)
    rw[H.slit d (List.mem_of_head? h1)]
  | false=>
   exact(sPairs_ok S kvs fr).bind fun p _=>Lf.bind (d:=σ.d) (fun d h=>dg h (fun f m q e=>by
    rw[← e,show dPs σ p=(p.1.map fun q=>(den σ q.1,den σ q.2),am σ p.2) from rfl,← SV.eqp_ok q]
    exact H.dlit _ _ m) noE) fun d _=>.ret rfl
 | call f es=>exact(sVs_ok S es fr).bind fun p _=>call_ok H f p.1 fun r z=>.ret rfl
 | callv i es=>exact Lf.bind (d:=id) (denF_at.bind fun o _=>(oV_L o).bind fun x _=>fn_L x) fun f _=>(sVs_ok S es fr).bind fun p _=>call_ok H f p.1 fun r z=>.ret rfl
 | new c es=>
  exact(sVs_ok S es fr).bind fun p _=>.pre fun r hr=>dg hr (fun q m e h=>by
   cases h
   refine fun x hx=>ac (x:=(.v .none,q.2.2.den σ)) ?_ ?_
   ·rw[← H.new _ _ _ m,eq_of_beq (a9 e),SV.eqs_ok (aa e)];rfl
   ·cases hx;rfl) noE
 | meth f i es=>
  exact fun r h=>ifE h fun hc h=>ac (inst0_ok hc) ((Lf.bind (e:=dO σ) (sVs_ok S es fr) fun p _=>denF_at.bind fun o _=>(defO_L o).bind fun _ _=>.pre fun r hr=>dg hr (fun q m e h=>by
   cases h
   refine fun x hx=>ac (x:=(q.2.2.2.1.den σ,q.2.2.2.2.den σ)) ?_ ?_
   ·rw[← H.meth _ _ _ _ _ m,eq_of_beq (a9 (a9 e)),SO.eq_ok (aa (a9 e)),SV.eqs_ok (aa e)];rfl
   ·cases hx;exact congrArg some (Prod.ext rfl (bq ..).symm)) noE) r h)
 | attr e a=>
  show Lf _ (match cA e with | some i=>aOwn i a fr | none=>_) (match cA e with | some i=>attrO i a (am σ fr) | none=>_)
  cases cA e with
  | some i=>exact aOwn_ok i a fr
  | none=>exact(bK S e fr).bind fun p _=>(inst_L p.1).bind fun as _=>sv_at.bind fun x _=>(def_L x).bind fun x _=>.ret rfl
 | sub e k=>exact(sA_ok S e fr).bind fun p _=>(bK S k p.2).bind fun q _=>(eT p.1 q.2).bind fun x _=>Lf.bind (d:=den σ) (fun r h=>(item_okL H h).1) fun r h=>fun z hz=>ac (ok_of (item_okL H h).2) (by cases hz;rfl)
 | slice e l hh=>
  exact(sH_ok S e fr).bind fun p _=>(sOpt_ok S l p.2).bind fun q _=>(sOpt_ok S hh q.2).bind fun r _=>(eT p.1 r.2).bind fun x _=>.pre fun o ho z hz=>by
   obtain ⟨l',h',s1,s2,s3⟩:=slice_ok' H ho
   cases hz
   exact ac s1 (ac s2 (ac s3 rfl))
 | len e=>
  exact(sA_ok S e fr).bind fun p _=>(eT p.1 p.2).bind fun x _=>.pre fun o ho z hz=>by
   obtain ⟨n,l1,l2⟩:=len_ok' H ho
   cases hz
   exact ac l1 (congrArg (fun v=>some (Own.v v,am σ p.2)) l2.symm)
 | prim q e=>exact(sH_ok S e fr).bind fun p _=>(eT p.1 p.2).bind fun x _=>Lf.bind (d:=SO.den σ) (fun r h=>prim_ok' H h) fun r _=>.ret rfl
 | lrange e=>exact(bK S e fr).bind fun p _=>(int_L p.1).bind fun i _=>.ite id fun _=>.ret (Prod.ext (congrArg Own.list (range_ok (σ:=σ) ..)) rfl)
 | comp t it c elt=>
  refine(sIt_ok S it fr).bind fun p _=>Lf.bind (d:=dVs σ) ?_ fun q _=>.ret (Prod.ext rfl (clear_ok ..))
  show Lf _ _ (bt _ _ _ _ _ _ [] (t.clear (am σ p.2)))
  rw[← clear_ok];exact sComp_ok S _ [] _
 | app q e=>exact(eg q fr).bind fun _ _=>(bK S e fr).bind fun p _=>(eg q p.2).bind fun l _=>.ite (fun h=>list_lt h (by decide)) fun _=>.ret (Prod.ext rfl ((putL_ok ..).trans (congrArg (fun l=>bv q l (am σ p.2)) (app_den ..))))
 | ext q e=>
  exact(eg q fr).bind fun _ _=>(bK S e fr).bind fun p _=>(eg q p.2).bind fun l _=>(lst_L p.1).bind fun m _=>
   .ite (fun h=>by show (σ.base l.1++aE σ l.2).length+(aE σ m).length≤cap;rw[← List.length_append,← app_den];exact ga (Nat.le_of_lt (by rw[List.length_append];exact h)) (by decide)) fun _=>
   .ret (Prod.ext rfl ((putL_ok ..).trans (congrArg (fun l=>bv q l (am σ p.2)) (app_den ..))))
 | pop q o=>
  cases o with
  | some k=>exact .no
  | none=>
   exact(eg q fr).bind fun l _=>.pre fun r hr z hz=>by
    obtain ⟨p1,p2,p3⟩:=pop_ok H hr
    cases hz
    show (if (σ.base l.1++aE σ l.2).length≤cap then (σ.base l.1++aE σ l.2).getLast?.bind _ else none)=_
    rw[if_pos p3,p1]
    refine ac (List.getLast?_concat ..) (ac (ok_of p2) ?_)
    show some (Own.v (den σ r.1),bv q (σ.base l.1++aE σ l.2).dropLast (am σ fr))=some (_,am σ (sPutL q r.2.1 r.2.2 fr))
    rw[p1,List.dropLast_concat,putL_ok];rfl
theorem sExs_ok(S:Sim σ R R')(b:List Mine.S):∀ (fr:SFr),Lf (dX σ) (fW R b fr) (exs R' b (am σ fr)):=by
 induction b with
 | nil=>intro fr;exact .ret rfl
 | cons s b ih=>
  intro fr
  refine(S.ex s fr).bind fun p _=>?_
  obtain ⟨f,fr1⟩:=p
  cases f <;> first | exact ih fr1 | exact .ret rfl
theorem syFor_ok(S:Sim σ R R'){t:T}{b:List Mine.S}(xs:List SV):∀ (fr:SFr),Lf (dX σ) (syFor R lo t b xs fr) (cF R' lo t b (aE σ xs) (am σ fr)):=by
 induction xs with
 | nil=>intro fr;exact .ret rfl
 | cons x xs ih=>
  intro fr
  refine(bind_ok t x fr).bind fun fr1 _=>(sExs_ok S b fr1).bind fun p _=>?_
  obtain ⟨f,fr1⟩:=p
  cases f <;> first | exact ih fr1 | exact .ret rfl
theorem toO1_ok(o:SO):o.toO1.den σ=(o.den σ).toO1:=by
 cases o with
 | inst c l=>exact congrArg O1.v (o_frz (.inst c l))
 | _=>rfl
theorem sSetAll_ok(is:List Nat):∀ (os:List SO) (fr:SFr),Lf (am σ) (sSetAll lo is os fr) (bX lo is (os.map (SO.den σ)) (am σ fr)):=by
 induction is with
 | nil=>intro os fr;cases os <;> first | exact .ret rfl | exact .no
 | cons i is ih=>
  intro os fr
  cases os with
  | nil=>exact .no
  | cons o os=>
   refine .ite (fun h=>⟨h.1,by rw[denF_len];exact h.2⟩) fun _=>?_
   rw[← bq]
   exact ih os _
theorem isPl_ok{p:P}{fr:SFr}(h:sIsPl p fr=true):isPl p (am σ fr)=some ():=by
 cases p with
 | var i=>exact optE h fun o ho hd=>ac (denF_at o ho) (if_pos (by cases o <;> first | rfl | cases hd))
 | «at» i a=>
  obtain ⟨l,hl⟩:=Option.isSome_iff_exists.mp h
  show (aV (.at i a) (am σ fr)).map _=_
  rw[eg _ _ _ hl];rfl
theorem asgP_ok(H:FOk Φ σ F)(p:P)(k v:SV)(fr:SFr):Lf (am σ) (sAsgP F p k v fr) (asgP p (den σ k) (den σ v) (am σ fr)):=by
 cases p with
 | var i=>
  refine denF_at.bind fun o _=>?_
  cases o with
  | dict d=>
   exact .pre fun r hr=>dg hr (fun q m p e z hz=>by
    obtain ⟨j,e1,e2⟩:=H.dset _ _ _ _ m
    cases hz
    rw[SV.eq_ok (aa (a9 p))] at e1
    rw[SV.eq_ok (aa p),eq_of_beq (a9 (a9 p)),e] at e2
    rw[e1]
    refine(if_pos (Nat.le_trans (σ.hd d) (by decide))).trans ?_
    rw[bq,← e2];rfl) noE
  | sdict d=>
   exact .pre fun r hr=>dg hr (fun q m p e z hz=>by
    obtain ⟨j,e1,e2⟩:=H.sset _ _ _ _ m
    cases hz
    rw[SV.eq_ok (aa (a9 p))] at e1
    rw[SV.eq_ok (aa p),eq_of_beq (a9 (a9 p)),e] at e2
    rw[e1]
    refine(if_pos (Nat.le_trans (σ.hs d) (by decide))).trans ?_
    rw[bq,← e2];rfl) noE
  | _=>exact .no
 | «at» i a=>
  exact fun r h=>bE h fun l h1 h=>ifE h fun hl h=>bE h fun b hb h=>bE h fun b' hr hz=>dg hr (fun q m p e=>by
   obtain ⟨j,e1,e2,e3⟩:=H.lset _ _ _ _ m
   cases hz
   rw[SV.eq_ok (aa (a9 p))] at e1
   rw[eq_of_beq (a9 (a9 p))] at e2 e3
   rw[SV.eq_ok (aa p),e] at e3
   have hg:aV (.at i a) (am σ fr)=some (σ.l b):=by
    rw[eg _ _ _ h1];unfold dL;rw[hb,List.isEmpty_iff.mp hl]
    exact congrArg some (List.append_nil _)
   rw[e1]
   refine ac hg ((if_pos ⟨Int.natCast_nonneg j,by exact_mod_cast e2,Nat.le_trans (σ.hl b) (by decide)⟩).trans ?_)
   rw[putL_ok]
   show some (bv _ _ _)=some (bv _ (σ.l b'++[]) _)
   rw[List.append_nil,e3,Int.toNat_natCast]) noE
theorem sStepEx_ok(H:FOk Φ σ F)(S:Sim σ R R')(s:Mine.S)(fr:SFr):Lf (dX σ) (sStepEx F R lo la s fr) (aY R' lo la W s (am σ fr)):=by
 cases s with
 | stuck=>exact .no
 | expr e=>exact(S.ev e fr).bind fun p _=>.ret rfl
 | asg t e=>
  cases t with
  | t t=>
   cases t with
   | var i=>exact(S.ev e fr).bind fun p _=>.ite (fun h=>⟨h.1,by show i<(am σ p.2).length;rw[denF_len];exact h.2⟩) fun _=>.ret (Prod.ext rfl (bq ..))
   | tup ts=>exact(bK S e fr).bind fun p _=>(bind_ok (.tup ts) p.1 p.2).bind fun fr _=>.ret rfl
  | attr i a=>
   exact(S.ev e fr).bind fun p _=>denF_at.bind fun o _=>(oInst_L o).bind fun q _=>.ite (fun h=>⟨h.1,by show a<(q.2.map (SO1.den σ)).length;rw[List.length_map];exact h.2⟩) fun _=>
    .ret (Prod.ext rfl ((bq ..).trans (congrArg (fun l=>(am σ p.2).set i (.inst q.1 l)) ((List.map_set ..).trans (congrArg (List.set _ a) (toO1_ok p.1))))))
  | sub q k=>exact(bK S e fr).bind fun p _=>fun r h=>ifE h fun hc h=>ac (isPl_ok hc) ((Lf.bind (e:=dX σ) (bK S k p.2) fun z _=>Lf.bind (e:=dX σ) (asgP_ok H q z.1 p.1 z.2) fun fr _=>.ret rfl) r h)
 | asgT is es=>exact(sOs_ok S es fr).bind fun p _=>(sSetAll_ok is p.1 p.2).bind fun fr _=>.ret rfl
 | iff c a b=>exact(sB_ok S c fr).bind fun p _=>sExs_ok S _ _
 | forr t it b=>exact(sIt_ok S it fr).bind fun p _=>syFor_ok S _ _
 | whil c b=>exact .no
 | ret e=>
  show Lf _ (match cA e with | some i=>_ | none=>_) (match cA e with | some i=>_ | none=>_)
  cases cA e with
  | some i=>exact denF_at.bind fun o _=>(defO_L o).bind fun x _=>.ite id fun _=>.ret (Prod.ext rfl (bq ..))
  | none=>exact(S.ev e fr).bind fun p _=>.ret rfl
 | cont=>exact .ret rfl
 | brk=>exact .ret rfl
theorem sym_ok(H:FOk Φ σ F)(n:Nat):Sim σ (fw F lo la n) (sem Φ lo la W n):=by
 induction n with
 | zero=>exact⟨fun _ _=>.no,fun _ _=>.no⟩
 | succ n ih=>exact⟨sStepEv_ok H ih,sStepEx_ok H ih⟩
end
noncomputable abbrev PN(k:Nat):=callN prog 1000 40 k
noncomputable def All{α:Type}(P:α→Prop):List α→Prop
 | []=>True
 | x::l=>P x∧All P l
theorem All.mem{α:Type}{P:α→Prop}{l:List α}(h:All P l):∀ x∈l,P x:=by
 induction l with
 | nil=>intro x hx;cases hx
 | cons y l ih=>
  intro x hx
  rcases List.mem_cons.mp hx with rfl | hx
  ·exact h.1
  ·exact ih h.2 x hx
structure FA (Φ:Nat→List Own→Option (Own×Own)) (σ:Val) (F:b6):Prop where
 item:All (fun f=>(den σ f.1).item (den σ f.2.1)=some (den σ f.2.2)∧den σ f.2.2≠.undef) F.item:=by exact trivial
 len:All (fun f=>∃ n,(den σ f.1).len=some n∧den σ f.2=.int n) F.len:=by exact trivial
 slice:All (fun f=>∃ l' h',dt (dOpt σ f.2.1)=some l'∧dt (dOpt σ f.2.2.1)=some h'∧(den σ f.1).slice l' h'=some (f.2.2.2.den σ)) F.slice:=by exact trivial
 pop:All (fun f=>σ.l f.1=σ.l f.2.2++[den σ f.2.1]∧den σ f.2.1≠.undef) F.pop:=by exact trivial
 dset:All (fun f=>∃ i,den σ f.2.1=.int i∧σ.d f.2.2.2=Mine.dset (σ.d f.1) i (den σ f.2.2.1)) F.dset:=by exact trivial
 sset:All (fun f=>∃ i,den σ f.2.1=.str i∧σ.s f.2.2.2=Mine.dset (σ.s f.1) i (den σ f.2.2.1)) F.sset:=by exact trivial
 lset:All (fun f=>∃ i:Nat,den σ f.2.1=.int i∧i<(σ.l f.1).length∧σ.l f.2.2.2=(σ.l f.1).set i (den σ f.2.2.1)) F.lset:=by exact trivial
 dlit:All (fun f=>mkDict (f.1.map fun p=>(den σ p.1,den σ p.2)) []=some (σ.d f.2)) F.dlit:=by exact trivial
 slit:All (fun d=>σ.s d=[]) F.slit:=by exact trivial
 cmp:All (fun f=>aH f.1 (den σ f.2.1) (den σ f.2.2.1)=some f.2.2.2) F.cmp:=by exact trivial
 bin:All (fun f=>bH f.1 (den σ f.2.1) (den σ f.2.2.1)=some (f.2.2.2.den σ)) F.bin:=by exact trivial
 prim:All (fun f=>Mine.prim f.1 (den σ f.2.1)=some (f.2.2.den σ)) F.prim:=by exact trivial
 call:All (fun f=>∃ z,Φ f.1 ((aE σ f.2.1).map .v)=some (f.2.2.den σ,z)) F.call:=by exact trivial
 new:All (fun f=>Φ f.1 (.inst f.1 (List.replicate 17 (.v .undef))::(aE σ f.2.1).map .v)=some (.v .none,f.2.2.den σ)) F.new:=by exact trivial
 meth:All (fun f=>Φ f.1 (f.2.1.den σ::(aE σ f.2.2.1).map .v)=some (f.2.2.2.1.den σ,f.2.2.2.2.den σ)) F.meth:=by exact trivial
theorem FA.ok{Φ:Nat→List Own→Option (Own×Own)}{σ:Val}{F:b6}(h:FA Φ σ F):FOk Φ σ F:=
 ⟨fun x k r m=>h.item.mem _ m,fun x r m=>h.len.mem _ m,fun x l hh r m=>h.slice.mem _ m,fun b r b' m=>h.pop.mem _ m,fun d k v d' m=>h.dset.mem _ m,fun d k v d' m=>h.sset.mem _ m,fun b k v b' m=>h.lset.mem _ m,
  fun kvs d m=>h.dlit.mem _ m,fun d m=>h.slit.mem _ m,fun o x y b m=>h.cmp.mem _ m,fun o x y r m=>h.bin.mem _ m,fun p x r m=>h.prim.mem _ m,fun f l r m=>h.call.mem _ m,fun c l r m=>h.new.mem _ m,fun f s l r s' m=>h.meth.mem _ m⟩
noncomputable def mkσ(vs:List V)(is:List Int)(ls:List (List V))(ds:List (List (Int×V)))(ss:List (List (List Nat×V)))(hv:All (·≠.undef) vs)(hl:All (fun l=>l.length≤5000) ls)(hd:All (fun l=>l.length≤5000) ds)(hs:All (fun l=>l.length≤5000) ss):Val where
 v n:=vs.getD n .none
 i n:=is.getD n 0
 l n:=ls.getD n []
 d n:=ds.getD n []
 s n:=ss.getD n []
 hv n:=by
  rw[List.getD_eq_getElem?_getD]
  cases h:vs[n]? with
  | none=>intro e;cases e
  | some x=>exact hv.mem x (List.mem_of_getElem? h)
 hl n:=by
  rw[List.getD_eq_getElem?_getD]
  cases h:ls[n]? with
  | none=>exact Nat.zero_le _
  | some x=>exact hl.mem x (List.mem_of_getElem? h)
 hd n:=by
  rw[List.getD_eq_getElem?_getD]
  cases h:ds[n]? with
  | none=>exact Nat.zero_le _
  | some x=>exact hd.mem x (List.mem_of_getElem? h)
 hs n:=by
  rw[List.getD_eq_getElem?_getD]
  cases h:ss[n]? with
  | none=>exact Nat.zero_le _
  | some x=>exact hs.mem x (List.mem_of_getElem? h)
theorem ao{k f:Nat}{fn:Fn}{args:List Own}(h:prog f=some fn)(hf:2≤f):PN (k+1) f args=runFn (PN k) 1000 40 1 fn args:=by
 show (prog f).bind _=_
 rw[h]
 show runFn _ _ _ (if f<2 then 0 else 1) _ _=_
 rw[if_neg (Nat.not_lt.mpr hf)]
noncomputable def selfOf(fn:Fn)(fr:Fr):Own:=if fn.lo==0 then .v .undef else fr.getD 0 (.v .undef)
theorem aq{Φ:Nat→List Own→Option (Own×Own)}{la:Nat}{fn:Fn}{args:List Own}{o:Own}{fr:Fr}(hl:args.length=fn.np)(h:exs (sem Φ fn.lo la 1000 40) fn.body (args++List.replicate (fn.ns - fn.np) (.v .undef))=some (.ret o,fr)):
  runFn Φ 1000 40 la fn args=some (o,selfOf fn fr):=by
 unfold runFn
 rw[if_pos (by rw[hl];exact beq_self_eq_true _),h];rfl
theorem run_next{Φ:Nat→List Own→Option (Own×Own)}{la:Nat}{fn:Fn}{args:List Own}{fr:Fr}(hl:args.length=fn.np)(h:exs (sem Φ fn.lo la 1000 40) fn.body (args++List.replicate (fn.ns - fn.np) (.v .undef))=some (.next,fr)):
  runFn Φ 1000 40 la fn args=some (.v .none,selfOf fn fr):=by
 unfold runFn
 rw[if_pos (by rw[hl];exact beq_self_eq_true _),h];rfl
section
variable {R:Rec} {lo:Nat}
theorem ak{s:S}{r:List S}{fr fr1:Fr}{p:Option (Fl×Fr)}(h1:R.ex s fr=some (.next,fr1))(h2:exs R r fr1=p):exs R (s::r) fr=p:=by
 show (R.ex s fr).bind _=_
 rw[h1];exact h2
theorem exs_one{s:S}{fr fr1:Fr}{f:Fl}(h:exs R [s] fr=some (f,fr1)):R.ex s fr=some (f,fr1):=by
 obtain ⟨⟨f',fr'⟩,h1,h2⟩:=bnd (show (R.ex s fr).bind _=_ from h)
 cases f' <;> (cases h2;exact h1)
theorem aW{s:S}{r:List S}{fr fr1:Fr}{o:Own}(h1:R.ex s fr=some (.ret o,fr1)):exs R (s::r) fr=some (.ret o,fr1):=by
 show (R.ex s fr).bind _=_
 rw[h1];rfl
theorem aS{t:T}{b:List S}{x:V}{xs:List V}{fr fr1 fr2:Fr}{p:Option (Fl×Fr)}(h1:cj lo t x fr=some fr1)(h2:exs R b fr1=some (.next,fr2))(h3:cF R lo t b xs fr2=p):cF R lo t b (x::xs) fr=p:=by
 show (cj lo t x fr).bind _=_
 rw[h1];show (exs R b fr1).bind _=_;rw[h2];exact h3
theorem for_ret{t:T}{b:List S}{x:V}{xs:List V}{fr fr1 fr2:Fr}{o:Own}(h1:cj lo t x fr=some fr1)(h2:exs R b fr1=some (.ret o,fr2)):cF R lo t b (x::xs) fr=some (.ret o,fr2):=by
 show (cj lo t x fr).bind _=_
 rw[h1];show (exs R b fr1).bind _=_;rw[h2];rfl
theorem c6{c:E}{b:List S}{n:Nat}{fr fr1 fr2:Fr}{p:Option (Fl×Fr)}(h1:evB R c fr=some (true,fr1))(h2:exs R b fr1=some (.next,fr2))(h3:bL R c b n fr2=p):bL R c b (n+1) fr=p:=by
 show (evB R c fr).bind _=_
 rw[h1];show (exs R b fr1).bind _=_;rw[h2];exact h3
theorem while_cont{c:E}{b:List S}{n:Nat}{fr fr1 fr2:Fr}{p:Option (Fl×Fr)}(h1:evB R c fr=some (true,fr1))(h2:exs R b fr1=some (.cont,fr2))(h3:bL R c b n fr2=p):bL R c b (n+1) fr=p:=by
 show (evB R c fr).bind _=_
 rw[h1];show (exs R b fr1).bind _=_;rw[h2];exact h3
theorem cB{c:E}{b:List S}{n:Nat}{fr fr1:Fr}(h1:evB R c fr=some (false,fr1)):bL R c b (n+1) fr=some (.next,fr1):=by
 show (evB R c fr).bind _=_
 rw[h1];rfl
end
section
variable {Φ:Nat→List Own→Option (Own×Own)} {σ:Val} {F:b6} {la lo W:Nat}
theorem ag(H:FA Φ σ F){n:Nat}{b:List S}{fr fr':SFr}{f:SFl}(h:fW (fw F lo la n) b fr=some (f,fr')):exs (sem Φ lo la W n) b (am σ fr)=some (f.den σ,am σ fr'):=sExs_ok (sym_ok H.ok n) _ _ _ h
theorem bu(H:FA Φ σ F){n:Nat}{e:E}{fr fr':SFr}{o:SV}(h:sV (fw F lo la n) e fr=some (o,fr')):evV (sem Φ lo la W n) e (am σ fr)=some (den σ o,am σ fr'):=bK (sym_ok H.ok n) _ _ _ h
theorem cH(H:FA Φ σ F){n:Nat}{e:E}{fr fr':SFr}{b:Bool}(h:sB (fw F lo la n) e fr=some (b,fr')):evB (sem Φ lo la W n) e (am σ fr)=some (b,am σ fr'):=sB_ok (sym_ok H.ok n) _ _ _ h
end
set_option maxRecDepth 4000
noncomputable def enc:Option Nat→V
 | none=>.none
 | some n=>.int n
noncomputable def encI(p:Nat×Option Nat):V:=.tup [.int p.1,enc p.2]
noncomputable abbrev Cd:=List (Nat×Option Nat)
noncomputable def af(c:Cd):List V:=c.map encI
theorem item_list{l:List V}{i:Nat}{v:V}(h:l[i]?=some v)(hc:l.length≤5000):V.item (.list l) (.int i)=some v:=by
 have hi:i<l.length:=(List.getElem?_eq_some_iff.mp h).1
 rw[item_listE]
 unfold place
 rw[if_pos (Nat.le_trans hc (by decide)),if_pos (Int.natCast_nonneg i),if_pos (Int.ofNat_lt.mpr hi)]
 exact h
theorem encC_get{c:Cd}{i:Nat}{p:Nat×Option Nat}(h:c[i]?=some p):(af c)[i]?=some (encI p):=by
 unfold af;rw[List.getElem?_map,h];rfl
theorem bn(c:Cd):(af c).length=c.length:=List.length_map ..
theorem len_list{l:List V}(hc:l.length≤5000):V.len (.list l)=some l.length:=len_listE.trans (if_pos (Nat.le_trans hc (by decide)))
theorem aQ{c:Cd}{i:Nat}{p:Nat×Option Nat}(h:c[i]?=some p)(hc:c.length≤5000):V.item (.list (af c)) (.int i)=some (encI p):=item_list (encC_get h) (by rw[bn];exact hc)
theorem bl{c:Cd}(hc:c.length≤5000):V.len (.list (af c))=some c.length:=by rw[len_list (by rw[bn];exact hc),bn]
theorem ai{α:Type}{l:List α}{i:Nat}{x:α}(h:l[i]?=some x):i<l.length:=(List.getElem?_eq_some_iff.mp h).1
theorem cmp_ge{a b:Int}:aH .ge (.int a) (.int b)=some (decide (b≤a)):=rfl
theorem cmp_ne{a b:Int}:aH .ne (.int a) (.int b)=some (!(a==b)):=rfl
theorem ge_no{a b:Nat}(h:a<b):aH .ge (.int a) (.int b)=some false:=by rw[cmp_ge,decide_eq_false (by lia)]
theorem ne_yes{a b:Int}(h:a≠b):aH .ne (.int a) (.int b)=some true:=by rw[cmp_ne,beq_false_of_ne h];rfl
theorem ne_no(a:Int):aH .ne (.int a) (.int a)=some false:=by rw[cmp_ne,beq_self_eq_true];rfl
theorem a8{l:List V}:V.list l≠.undef:=fun e=>by cases e
theorem aD{l:List V}:V.tup l≠.undef:=fun e=>by cases e
theorem aL{i:Int}:V.int i≠.undef:=fun e=>by cases e
theorem nd_dict{l:List (Int×V)}:V.dict l≠.undef:=fun e=>by cases e
theorem cX{o:Option Nat}:enc o≠.undef:=by cases o <;> intro e <;> cases e
noncomputable def pastB:List S:=[.iff (.or [(.cmp .ge (.var 1) (.len (.var 0))),(.cmp .ne (.sub (.sub (.var 0) (.var 1)) (.const (.int 0))) (.const (.int 58)))]) [.ret (.var 1)] [],
  .asg (.t (.var 1)) (.sub (.sub (.var 0) (.var 1)) (.const (.int 1)))]
section
variable {c:Cd} {pc o a:Nat} {ar:Option Nat} {Φ:Nat→List Own→Option (Own×Own)} {t:V} {n:Nat}
theorem past_stop(h:c[pc]?=some (o,ar))(ho:o≠58)(hc:c.length≤5000):
  ∃ fr,exs (sem Φ 0 1 1000 (n+9)) pastB [.v (.list (af c)),.v (.int pc),.v t]=some (.ret (.v (.int pc)),fr):=by
 let σ:=mkσ [.list (af c),enc ar] [pc,c.length,o] [] [] [] ⟨a8,cX,trivial⟩ trivial trivial trivial
 have H:FA Φ σ { item:=[(.a 0,.i 0,.tup [.i 2,.a 1])],len:=[(.a 0,.i 1)],cmp:=[(.ge,.i 0,.i 1,false),(.ne,.i 2,.int 58,true)] }:=
  { item:=⟨⟨aQ h hc,aD⟩,trivial⟩,len:=⟨⟨_,bl hc,rfl⟩,trivial⟩,cmp:=⟨ge_no (ai h),ne_yes (a:=(o:Int)) (b:=58) (by lia),trivial⟩ }
 exact⟨_,ag (lo:=0) (la:=1) (W:=1000) H (n:=n+9) (fr:=[.v (.a 0),.v (.i 0),.v (.k t)]) (f:=.ret (.v (.i 0))) (fr':=[.v (.a 0),.v .undef,.v (.k t)]) rfl⟩
theorem past_go(h:c[pc]?=some (58,some a))(hc:c.length≤5000):
  exs (sem Φ 0 1 1000 (n+9)) pastB [.v (.list (af c)),.v (.int pc),.v t]=some (.next,[.v (.list (af c)),.v (.int a),.v t]):=by
 let σ:=mkσ [.list (af c)] [pc,c.length,a] [] [] [] ⟨a8,trivial⟩ trivial trivial trivial
 have H:FA Φ σ { item:=[(.a 0,.i 0,.tup [.int 58,.i 2])],len:=[(.a 0,.i 1)],cmp:=[(.ge,.i 0,.i 1,false)] }:=
  { item:=⟨⟨aQ h hc,aD⟩,trivial⟩,len:=⟨⟨_,bl hc,rfl⟩,trivial⟩,cmp:=⟨ge_no (ai h),trivial⟩ }
 exact ag (lo:=0) (la:=1) (W:=1000) H (n:=n+9) (fr:=[.v (.a 0),.v (.i 0),.v (.k t)]) (f:=.next) (fr':=[.v (.a 0),.v (.i 2),.v (.k t)]) rfl
theorem it_rng{R:Rec}{e:E}{fr fr1:Fr}{h:Nat}(h1:evV R e fr=some (.int h,fr1))(hh:h≤5000):bZ R (.range none e) fr=some (b9 0 h,fr1):=by
 show (evV R e fr).bind _=_
 rw[h1]
 show (if cp 0 (h:Int)=true then _ else _)=_
 rw[show cp 0 (h:Int)=true from decide_eq_true (by lia)];rfl
theorem rng_cons{h:Nat}(hh:0<h):∃ r,b9 0 h=.int 0::r∧r.length=h - 1:=by
 obtain ⟨m,rfl⟩:∃ m,h=m+1:=⟨h - 1,by lia⟩
 refine⟨((List.range m).map Nat.succ).map fun (i:Nat)=>.int (0+(i:Int)),?_,by simp⟩
 unfold b9
 rw[show ((m+1:Nat):Int) - 0=((m+1:Nat):Int) by lia,Int.toNat_natCast,List.range_succ_eq_map];rfl
theorem past_it{k:Nat}(hc:c.length≤5000):bZ (sem (PN k) 0 1 1000 39) (.range none (.len (.var 0))) [.v (.list (af c)),.v (.int pc),.v .undef]=some (b9 0 c.length,[.v (.list (af c)),.v (.int pc),.v .undef]):=by
 let σ:=mkσ [.list (af c)] [pc,c.length] [] [] [] ⟨a8,trivial⟩ trivial trivial trivial
 have H:FA (PN k) σ { len:=[(.a 0,.i 1)] }:={ len:=⟨⟨_,bl hc,rfl⟩,trivial⟩ }
 exact it_rng (bu (lo:=0) (la:=1) (W:=1000) H (n:=39) (fr:=[.v (.a 0),.v (.i 0),.v .undef]) (o:=.i 1) (fr':=[.v (.a 0),.v (.i 0),.v .undef]) rfl) hc
theorem past1{k:Nat}(h:c[pc]?=some (o,ar))(ho:o≠58)(hc:c.length≤5000):PN (k+1) 42 [.v (.list (af c)),.v (.int pc)]=some (.v (.int pc),.v .undef):=by
 obtain ⟨r,hr,_⟩:=rng_cons (Nat.lt_of_le_of_lt (Nat.zero_le _) (ai h))
 obtain ⟨fr,hb⟩:=past_stop (Φ:=PN k) (t:=.int 0) (n:=30) h ho hc
 rw[ao (fn:=fG) rfl (by decide)]
 refine aq (fr:=fr) rfl (aW (ac (past_it hc) ?_))
 show cF _ _ _ _ (b9 0 c.length) _=_
 rw[hr]
 exact for_ret rfl hb
theorem past2{k:Nat}(h:c[pc]?=some (58,some a))(h2:c[a]?=some (o,ar))(ho:o≠58)(hc:c.length≤5000):PN (k+1) 42 [.v (.list (af c)),.v (.int pc)]=some (.v (.int a),.v .undef):=by
 obtain ⟨r,hr,hl⟩:=rng_cons (Nat.lt_of_le_of_lt (Nat.zero_le _) (ai h))
 have hr2:∃ t r2,r=t::r2:=by
  cases r with
  | cons t r2=>exact⟨t,r2,rfl⟩
  | nil=>
   have h3:=ai h
   have h4:=ai h2
   have:c.length=1:=by simp at hl;lia
   have e1:pc=0:=by lia
   have e2:a=0:=by lia
   rw[e1] at h;rw[e2,h] at h2
   cases h2;exact absurd rfl ho
 obtain ⟨t,r2,rfl⟩:=hr2
 have hb:=past_go (Φ:=PN k) (t:=.int 0) (n:=30) h hc
 obtain ⟨fr,hb2⟩:=past_stop (Φ:=PN k) (t:=t) (n:=30) h2 ho hc
 rw[ao (fn:=fG) rfl (by decide)]
 refine aq (fr:=fr) rfl (aW (ac (past_it hc) ?_))
 show cF _ _ _ _ (b9 0 c.length) _=_
 rw[hr]
 exact aS rfl hb (for_ret rfl hb2)
end
noncomputable def bJ(l:List S)(i:Nat):List S:=match l[i]? with
 | some (.whil _ b)=>b
 | some (.forr _ _ b)=>b
 | _=>[]
noncomputable def cv(l:List S)(i:Nat):E:=match l[i]? with
 | some (.whil c _)=>c
 | _=>.stuck
noncomputable abbrev Rw:=Nat×List Nat
noncomputable def aK(l:List Nat):V:=.list (l.map fun (n:Nat)=>.int n)
noncomputable def c4(w:List Rw):List V:=w.map fun p=>.tup [.int p.1,aK p.2]
theorem encW_get{w:List Rw}{i:Nat}{p:Rw}(h:w[i]?=some p):(c4 w)[i]?=some (.tup [.int p.1,aK p.2]):=by
 unfold c4;rw[List.getElem?_map,h];rfl
theorem encW_len(w:List Rw):(c4 w).length=w.length:=List.length_map ..
theorem item_ways{w:List Rw}{i:Nat}{p:Rw}(h:w[i]?=some p)(hc:w.length≤5000):V.item (.list (c4 w)) (.int i)=some (.tup [.int p.1,aK p.2]):=item_list (encW_get h) (by rw[encW_len];exact hc)
noncomputable def eD:List (Int×V):=[(5,.int 1),(1,.int 1),(0,.int 1),(2,.int 1),(3,.int 1),(7,.int 1),(53,.int 0),(6,.int (-1)),(59,.int (-1)),(60,.int (-1)),(65,.int (-1))]
theorem grown_ok{k:Nat}:PN (k+1) 37 []=some (.dict eD,.v .undef):=by
 rw[ao (fn:=f_law_grown) rfl (by decide)];rfl
noncomputable def ent(r p:Nat)(h:Int):V:=.tup [.int r,.int p,.int h]
noncomputable def ffr(c:Cd)(w:List Rw)(D:List (Int×V))(L:List V)(j:Nat→V):Fr:=[.v (.list (af c)),.v (.list (c4 w)),.dict D,.list L,.v (j 4),.v (j 5),.v (j 6),.v (j 7),.v (j 8),.v (j 9),.v (j 10)]
noncomputable def sfr(d:Nat)(l:SO)(j:Nat→V):SFr:=[.v (.a 0),.v (.a 1),.dict d,l,.v (.k (j 4)),.v (.k (j 5)),.v (.k (j 6)),.v (.k (j 7)),.v (.k (j 8)),.v (.k (j 9)),.v (.k (j 10))]
noncomputable abbrev foundB:List S:=bJ f_law_found.body 1
section
variable {c:Cd} {w:List Rw} {D:List (Int×V)} {L:List V} {r p:Nat} {h:Int} {k:Nat} {j:Nat→V}
theorem fnd_old(hin:V.mem (.int r) (.dict D)=some true)(hit:V.item (.dict D) (.int r)=some (.tup [.int p,.int h]))(hL:L.length≤5000)(hD:D.length≤5000):
  ∃ j',exs (sem (PN k) 0 1 1000 39) foundB (ffr c w D (L++[ent r p h]) j)=some (.cont,ffr c w D (L++[]) j'):=by
 let σ:=mkσ [.list (af c),.list (c4 w)] [r,p,h] [L] [D] [] ⟨a8,a8,trivial⟩ ⟨hL,trivial⟩ ⟨hD,trivial⟩ trivial
 have H:FA (PN k) σ { item:=[(.dict 0,.i 0,.tup [.i 1,.i 2])],cmp:=[(.isIn,.i 0,.dict 0,true),(.ne,.tup [.i 1,.i 2],.tup [.i 1,.i 2],false)] }:=
  { item:=⟨⟨hit,aD⟩,trivial⟩,cmp:=⟨hin,by
    show (some ([(p:Int),h]==[(p:Int),h])).map (!·)=some false
    rw[beq_self_eq_true];rfl,trivial⟩ }
 exact⟨fun i=>if i=4 then .int r else if i=5 then .int p else if i=6 then .int h else j i,ag (lo:=0) (la:=1) (W:=1000) H (n:=39) (fr:=sfr 0 (.list (some 0) [.tup [.i 0,.i 1,.i 2]]) j) (f:=.cont)
  (fr':=[.v (.a 0),.v (.a 1),.dict 0,.list (some 0) [],.v (.i 0),.v (.i 1),.v (.i 2),.v (.k (j 7)),.v (.k (j 8)),.v (.k (j 9)),.v (.k (j 10))]) (by kernel_rfl)⟩
noncomputable def jset(j:Nat→V)(r p:Nat)(h:Int)(o:Nat)(gs:List Nat)(b:Int)(sp:V):Nat→V:=fun i=>if i=4 then .int r else if i=5 then .int p else if i=6 then .int h else if i=7 then .int o else if i=8 then aK gs else if i=9 then .int b else if i=10 then sp else j i
theorem in_no{o:Nat}(h:o≠59∧o≠60):aH .isIn (.int o) (.tup [.int 59,.int 60])=some false:=by
 show some ([59,60].contains (o:Int))=some false
 rw[List.contains_eq_mem,decide_eq_false]
 simp only[List.mem_cons,List.not_mem_nil,or_false]
 lia
theorem in_yes{o:Nat}(h:o=59∨o=60):aH .isIn (.int o) (.tup [.int 59,.int 60])=some true:=by rcases h with rfl | rfl <;> rfl
theorem add_int{a b:Int}:bH .add (.int a) (.int b)=some (.v (.int (a+b))):=rfl
theorem dset_len{K:Type} [BEq K] {l:List (K×V)} {k:K} {v:V}:(dset l k v).length≤l.length+1:=by
 unfold dset;split <;> simp
theorem fnd_branch{o s g0 g1 q0 q1:Nat}{g:Int}(hin:V.mem (.int r) (.dict D)=some false)(hcode:c[p]?=some (o,some s))(hway:w[r]?=some (o,[g0,g1]))(hop:o=59∨o=60)(hgr:db eD (o:Int)=some (.int g))
  (h0:PN (k+1) 42 [.v (.list (af c)),.v (.int s)]=some (.v (.int q0),.v .undef)) (h1:PN (k+1) 42 [.v (.list (af c)),.v (.int ((p:Int)+1))]=some (.v (.int q1),.v .undef))
  (hL:L.length≤5000) (hD:D.length≤4000) (hc:c.length≤5000) (hw:w.length≤5000):
  ∃ j',exs (sem (PN (k+1)) 0 1 1000 39) foundB (ffr c w D (L++[ent r p h]) j)=some (.next,ffr c w (dset D (r:Int) (.tup [.int p,.int h])) (L++[ent g0 q0 (h+g),ent g1 q1 (h+g)]) j'):=by
 have hD':(dset D (r:Int) (.tup [.int p,.int h])).length≤5000:=Nat.le_trans dset_len (by lia)
 let σ:=mkσ [.list (af c),.list (c4 w)] [r,p,h,c.length,o,g,h+g,s,q0,(p:Int)+1,q1,g0,g1] [L] [D,dset D (r:Int) (.tup [.int p,.int h]),eD] [] ⟨a8,a8,trivial⟩ ⟨hL,trivial⟩ ⟨Nat.le_trans hD (by decide),hD',by decide,trivial⟩ trivial
 have H:FA (PN (k+1)) σ { item:=[(.a 0,.i 1,.tup [.i 4,.i 7]),(.a 1,.i 0,.tup [.i 4,.list none [.i 11,.i 12]]),(.dict 2,.i 4,.i 5)],len:=[(.a 0,.i 3)],cmp:=[(.isIn,.i 0,.dict 0,false),(.ge,.i 1,.i 3,false),(.ne,.i 4,.i 4,false),(.isIn,.i 4,.tup [.int 59,.int 60],true)],dset:=[(0,.i 0,.tup [.i 1,.i 2],1)],call:=[(37,[],.dict 2),(42,[.a 0,.i 7],.v (.i 8)),(42,[.a 0,.i 9],.v (.i 10))],bin:=[(.add,.i 2,.i 5,.v (.i 6)),(.add,.i 1,.int 1,.v (.i 9))] }:=
  { item:=⟨⟨aQ hcode hc,aD⟩,⟨item_ways hway hw,aD⟩,⟨item_dictE.trans hgr,aL⟩,trivial⟩,len:=⟨⟨_,bl hc,rfl⟩,trivial⟩,cmp:=⟨hin,ge_no (ai hcode),ne_no _,in_yes hop,trivial⟩,dset:=⟨⟨_,rfl,rfl⟩,trivial⟩,call:=⟨⟨_,grown_ok⟩,⟨_,h0⟩,⟨_,h1⟩,trivial⟩,bin:=⟨add_int,add_int,trivial⟩ }
 exact⟨jset j r p h o [g0,g1] (h+g) (.int s),ag (lo:=0) (la:=1) (W:=1000) H (n:=39) (fr:=sfr 0 (.list (some 0) [.tup [.i 0,.i 1,.i 2]]) j) (f:=.next)
  (fr':=[.v (.a 0),.v (.a 1),.dict 1,.list (some 0) [.tup [.i 11,.i 8,.i 6],.tup [.i 12,.i 10,.i 6]],.v (.i 0),.v (.i 1),.v (.i 2),.v (.i 4),.v (.list none [.i 11,.i 12]),.v (.i 6),.v (.i 7)]) (by kernel_rfl)⟩
theorem fnd_plain{o g0 q1:Nat}{g:Int}(hin:V.mem (.int r) (.dict D)=some false)(hcode:c[p]?=some (o,none))(hway:w[r]?=some (o,[g0]))(hop:o≠59∧o≠60)(hgr:db eD (o:Int)=some (.int g))
  (h1:PN (k+1) 42 [.v (.list (af c)),.v (.int ((p:Int)+1))]=some (.v (.int q1),.v .undef))
  (hL:L.length≤5000) (hD:D.length≤4000) (hc:c.length≤5000) (hw:w.length≤5000):
  ∃ j',exs (sem (PN (k+1)) 0 1 1000 39) foundB (ffr c w D (L++[ent r p h]) j)=some (.next,ffr c w (dset D (r:Int) (.tup [.int p,.int h])) (L++[ent g0 q1 (h+g)]) j'):=by
 have hD':(dset D (r:Int) (.tup [.int p,.int h])).length≤5000:=Nat.le_trans dset_len (by lia)
 let σ:=mkσ [.list (af c),.list (c4 w)] [r,p,h,c.length,o,g,h+g,g0,q1,(p:Int)+1] [L] [D,dset D (r:Int) (.tup [.int p,.int h]),eD] [] ⟨a8,a8,trivial⟩ ⟨hL,trivial⟩ ⟨Nat.le_trans hD (by decide),hD',by decide,trivial⟩ trivial
 have H:FA (PN (k+1)) σ { item:=[(.a 0,.i 1,.tup [.i 4,.none]),(.a 1,.i 0,.tup [.i 4,.list none [.i 7]]),(.dict 2,.i 4,.i 5)],len:=[(.a 0,.i 3)],cmp:=[(.isIn,.i 0,.dict 0,false),(.ge,.i 1,.i 3,false),(.ne,.i 4,.i 4,false),(.isIn,.i 4,.tup [.int 59,.int 60],false)],dset:=[(0,.i 0,.tup [.i 1,.i 2],1)],call:=[(37,[],.dict 2),(42,[.a 0,.i 9],.v (.i 8))],bin:=[(.add,.i 2,.i 5,.v (.i 6)),(.add,.i 1,.int 1,.v (.i 9))] }:=
  { item:=⟨⟨aQ hcode hc,aD⟩,⟨item_ways hway hw,aD⟩,⟨item_dictE.trans hgr,aL⟩,trivial⟩,len:=⟨⟨_,bl hc,rfl⟩,trivial⟩,cmp:=⟨hin,ge_no (ai hcode),ne_no _,in_no hop,trivial⟩,dset:=⟨⟨_,rfl,rfl⟩,trivial⟩,call:=⟨⟨_,grown_ok⟩,⟨_,h1⟩,trivial⟩,bin:=⟨add_int,add_int,trivial⟩ }
 exact⟨jset j r p h o [g0] (h+g) .none,ag (lo:=0) (la:=1) (W:=1000) H (n:=39) (fr:=sfr 0 (.list (some 0) [.tup [.i 0,.i 1,.i 2]]) j) (f:=.next)
  (fr':=[.v (.a 0),.v (.a 1),.dict 1,.list (some 0) [.tup [.i 7,.i 8,.i 6]],.v (.i 0),.v (.i 1),.v (.i 2),.v (.i 4),.v (.list none [.i 7]),.v (.i 6),.v .none]) (by kernel_rfl)⟩
theorem fnd_last{o:Nat}{g:Int}(hin:V.mem (.int r) (.dict D)=some false)(hcode:c[p]?=some (o,none))(hway:w[r]?=some (o,[]))(hop:o≠59∧o≠60)(hgr:db eD (o:Int)=some (.int g))
  (hL:L.length≤5000) (hD:D.length≤4000) (hc:c.length≤5000) (hw:w.length≤5000):
  ∃ j',exs (sem (PN (k+1)) 0 1 1000 39) foundB (ffr c w D (L++[ent r p h]) j)=some (.next,ffr c w (dset D (r:Int) (.tup [.int p,.int h])) (L++[]) j'):=by
 have hD':(dset D (r:Int) (.tup [.int p,.int h])).length≤5000:=Nat.le_trans dset_len (by lia)
 let σ:=mkσ [.list (af c),.list (c4 w)] [r,p,h,c.length,o,g,h+g] [L] [D,dset D (r:Int) (.tup [.int p,.int h]),eD] [] ⟨a8,a8,trivial⟩ ⟨hL,trivial⟩ ⟨Nat.le_trans hD (by decide),hD',by decide,trivial⟩ trivial
 have H:FA (PN (k+1)) σ { item:=[(.a 0,.i 1,.tup [.i 4,.none]),(.a 1,.i 0,.tup [.i 4,.list none []]),(.dict 2,.i 4,.i 5)],len:=[(.a 0,.i 3)],cmp:=[(.isIn,.i 0,.dict 0,false),(.ge,.i 1,.i 3,false),(.ne,.i 4,.i 4,false),(.isIn,.i 4,.tup [.int 59,.int 60],false)],dset:=[(0,.i 0,.tup [.i 1,.i 2],1)],call:=[(37,[],.dict 2)],bin:=[(.add,.i 2,.i 5,.v (.i 6))] }:=
  { item:=⟨⟨aQ hcode hc,aD⟩,⟨item_ways hway hw,aD⟩,⟨item_dictE.trans hgr,aL⟩,trivial⟩,len:=⟨⟨_,bl hc,rfl⟩,trivial⟩,cmp:=⟨hin,ge_no (ai hcode),ne_no _,in_no hop,trivial⟩,dset:=⟨⟨_,rfl,rfl⟩,trivial⟩,call:=⟨⟨_,grown_ok⟩,trivial⟩,bin:=⟨add_int,trivial⟩ }
 exact⟨jset j r p h o [] (h+g) .none,ag (lo:=0) (la:=1) (W:=1000) H (n:=39) (fr:=sfr 0 (.list (some 0) [.tup [.i 0,.i 1,.i 2]]) j) (f:=.next)
  (fr':=[.v (.a 0),.v (.a 1),.dict 1,.list (some 0) [],.v (.i 0),.v (.i 1),.v (.i 2),.v (.i 4),.v (.list none []),.v (.i 6),.v .none]) (by kernel_rfl)⟩
theorem fnd_test{x:V}(hL:L.length≤5000)(hD:D.length≤5000)(hx:x≠.undef):evB (sem (PN k) 0 1 1000 39) (cv f_law_found.body 1) (ffr c w D (L++[x]) j)=some (true,ffr c w D (L++[x]) j):=by
 let σ:=mkσ [.list (af c),.list (c4 w),x] [] [L] [D] [] ⟨a8,a8,hx,trivial⟩ ⟨hL,trivial⟩ ⟨hD,trivial⟩ trivial
 have H:FA (PN k) σ {}:={}
 exact cH (lo:=0) (la:=1) (W:=1000) H (n:=39) (fr:=sfr 0 (.list (some 0) [.a 2]) j) (fr':=sfr 0 (.list (some 0) [.a 2]) j) (by kernel_rfl)
theorem fnd_end(hD:D.length≤5000):evB (sem (PN k) 0 1 1000 39) (cv f_law_found.body 1) (ffr c w D [] j)=some (false,ffr c w D [] j):=by
 let σ:=mkσ [.list (af c),.list (c4 w)] [] [] [D] [] ⟨a8,a8,trivial⟩ trivial ⟨hD,trivial⟩ trivial
 have H:FA (PN k) σ {}:={}
 exact cH (lo:=0) (la:=1) (W:=1000) H (n:=39) (fr:=sfr 0 (.list none []) j) (fr':=sfr 0 (.list none []) j) (by kernel_rfl)
end
noncomputable def fj(c:Cd)(x y:Nat):Prop:=(y=x∧∃ o ar,c[x]?=some (o,ar)∧o≠58)∨∃ o ar,c[x]?=some (58,some y)∧c[y]?=some (o,ar)∧o≠58
theorem past_ok{c:Cd}{x y k:Nat}(h:fj c x y)(hc:c.length≤5000):PN (k+1) 42 [.v (.list (af c)),.v (.int x)]=some (.v (.int y),.v .undef):=by
 rcases h with ⟨rfl,o,ar,h1,h2⟩ | ⟨o,ar,h1,h2,h3⟩
 ·exact past1 h1 h2 hc
 ·exact past2 h1 h2 h3 hc
inductive Reach (w:List Rw):Nat→Prop
 | zero:Reach w 0
 | step {r g o:Nat} {gs:List Nat}:Reach w r→w[r]?=some (o,gs)→g∈gs→Reach w g
structure RowOK (c:Cd) (pl:Nat→Nat) (ht:Nat→Int) (r o:Nat) (gs:List Nat):Prop where
 gr:∃ g,db eD (o:Int)=some (.int g)∧∀ x∈gs,ht x=ht r+g
 no:o≠58
 st:(gs=[]∧c[pl r]?=some (o,none)∧o≠59∧o≠60)∨(∃ g,gs=[g]∧c[pl r]?=some (o,none)∧(o≠59∧o≠60)∧fj c (pl r+1) (pl g))∨
  ∃ g0 g1 s,gs=[g0,g1]∧c[pl r]?=some (o,some s)∧(o=59∨o=60)∧fj c s (pl g0)∧fj c (pl r+1) (pl g1)
structure Lay (c:Cd) (w:List Rw) (pl:Nat→Nat) (ht:Nat→Int):Prop where
 cl:c.length≤200
 wl:w.length≤100
 start:fj c 0 (pl 0)
 h0:ht 0=0
 row:∀ r,Reach w r→∃ o gs,w[r]?=some (o,gs)∧RowOK c pl ht r o gs
noncomputable def cq(pl:Nat→Nat)(ht:Nat→Int)(r:Nat):V:=.tup [.int (pl r),.int (ht r)]
noncomputable def dct(f:Nat→V)(ks:List Nat):List (Int×V):=ks.map fun (r:Nat)=>((r:Int),f r)
theorem dct_any{f:Nat→V}{ks:List Nat}{r:Nat}:(dct f ks).any (fun p=>p.1==(r:Int))=decide (r∈ks):=by
 induction ks with
 | nil=>rfl
 | cons x ks ih=>
  show ((x:Int)==(r:Int)||(dct f ks).any _)=_
  rw[ih]
  by_cases h:r=x
  ·subst h;simp
  ·have:((x:Int)==(r:Int))=false:=by rw[beq_eq_false_iff_ne];lia
   simp [this,h]
theorem dct_mem{f:Nat→V}{ks:List Nat}{r:Nat}:V.mem (.int r) (.dict (dct f ks))=some (decide (r∈ks)):=by
 show some _=_
 rw[dct_any]
theorem dct_get{f:Nat→V}{ks:List Nat}{r:Nat}(h:r∈ks):db (dct f ks) (r:Int)=some (f r):=by
 unfold db dct
 induction ks with
 | nil=>cases h
 | cons x ks ih=>
  rw[List.map_cons,List.find?_cons]
  by_cases hx:r=x
  ·subst hx;simp
  ·have:((x:Int)==(r:Int))=false:=by rw[beq_eq_false_iff_ne];lia
   dsimp only
   rw[this]
   exact ih ((List.mem_cons.mp h).resolve_left hx)
theorem gi{f:Nat→V}{ks:List Nat}{r:Nat}(h:r∈ks):V.item (.dict (dct f ks)) (.int r)=some (f r):=item_dictE.trans (dct_get h)
theorem dct_set{f:Nat→V}{ks:List Nat}{r:Nat}(h:r∉ks):dset (dct f ks) (r:Int) (f r)=dct f (ks++[r]):=by
 unfold dset
 rw[if_neg (by rw[dct_any];simpa using h)]
 unfold dct;rw[List.map_append];rfl
theorem cI{f:Nat→V}{ks:List Nat}:(dct f ks).length=ks.length:=List.length_map ..
noncomputable def fh(m:Nat)(ks:List Nat):Nat:=((List.range m).filter fun x=>decide (x∉ks)).length
theorem fO{m r:Nat}{ks:List Nat}(hr:r<m)(h:r∉ks):fh m (ks++[r])<fh m ks:=by
 unfold fh
 have e:(List.range m).filter (fun x=>decide (x∉ks++[r]))=((List.range m).filter fun x=>decide (x∉ks)).filter fun x=>decide (x≠r):=by
  rw[List.filter_filter]
  refine List.filter_congr fun x _=>?_
  simp [List.mem_append,not_or,and_comm]
 rw[e]
 exact List.length_filter_lt_length_iff_exists.mpr ⟨r,by simp [hr,h],by simp⟩
theorem todo_le{m:Nat}:fh m []≤m:=Nat.le_trans (List.length_filter_le ..) (by rw[List.length_range];exact Nat.le_refl _)
theorem fP{m:Nat}{ks:List Nat}(nd:ks.Nodup)(h:∀ r∈ks,r<m):ks.length+fh m ks≤m:=by
 revert nd h
 induction ks with
 | nil=>intro _ _;rw[List.length_nil,Nat.zero_add];exact todo_le
 | cons x ks ih=>
  intro nd h
  rw[List.nodup_cons] at nd
  have h1:=ih nd.2 fun r hr=>h r (List.mem_cons_of_mem _ hr)
  have h2:=fO (h x (List.mem_cons_self ..)) nd.1
  have h3:fh m (x::ks)=fh m (ks++[x]):=by
   unfold fh
   congr 1
   refine List.filter_congr fun y _=>?_
   simp [or_comm]
  rw[List.length_cons,h3];lia
section
variable {c:Cd} {w:List Rw} {pl:Nat→Nat} {ht:Nat→Int} {k:Nat}
structure FInv (w:List Rw) (ks ls:List Nat):Prop where
 nd:ks.Nodup
 reach:∀ r,r∈ks∨r∈ls→Reach w r
 clos:∀ r∈ks,∀ o gs,w[r]?=some (o,gs)→∀ g∈gs,g∈ks∨g∈ls
 zero:0∈ks∨0∈ls
noncomputable def ents(pl:Nat→Nat)(ht:Nat→Int)(ls:List Nat):List V:=ls.map fun r=>ent r (pl r) (ht r)
theorem FInv.add{w:List Rw}{ks ls gs:List Nat}{r o:Nat}(I:FInv w ks (ls++[r]))(hr:r∉ks)(hw:w[r]?=some (o,gs)):FInv w (ks++[r]) (ls++gs):=by
 have rr:=I.reach r (.inr (by simp))
 refine⟨?_,fun x hx=>?_,fun x hx o' gs' hx' g hg=>?_,?_⟩
 ·rw[List.nodup_append]
  exact⟨I.nd,by simp,fun a ha b hb e=>hr (by rw[List.mem_singleton.mp hb] at e;exact e▸ha)⟩
 ·rcases hx with hx | hx <;> rcases List.mem_append.mp hx with hx | hx
  ·exact I.reach x (.inl hx)
  ·rw[List.mem_singleton.mp hx];exact rr
  ·exact I.reach x (.inr (by simp [hx]))
  ·exact .step rr hw hx
 ·rcases List.mem_append.mp hx with hx | hx
  ·rcases I.clos x hx o' gs' hx' g hg with h | h
   ·exact .inl (by simp [h])
   ·rcases List.mem_append.mp h with h | h
    ·exact .inr (by simp [h])
    ·exact .inl (by simp [List.mem_singleton.mp h])
  ·rw[List.mem_singleton.mp hx,hw] at hx'
   cases hx'
   exact .inr (by simp [hg])
 ·rcases I.zero with h | h
  ·exact .inl (by simp [h])
  ·rcases List.mem_append.mp h with h | h
   ·exact .inr (by simp [h])
   ·exact .inl (by simp [List.mem_singleton.mp h])
theorem FInv.drop{w:List Rw}{ks ls:List Nat}{r:Nat}(I:FInv w ks (ls++[r]))(hr:r∈ks):FInv w ks ls:=by
 have key:∀ x,x∈ks∨x∈ls++[r]→x∈ks∨x∈ls:=fun x h=>h.elim .inl fun h=>(List.mem_append.mp h).elim .inr fun h=>.inl (by rw[List.mem_singleton.mp h];exact hr)
 exact⟨I.nd,fun x hx=>I.reach x (hx.imp id fun h=>by simp [h]),fun x hx o gs hw g hg=>key g (I.clos x hx o gs hw g hg),key 0 I.zero⟩
theorem ents_snoc{ls:List Nat}{r:Nat}:ents pl ht (ls++[r])=ents pl ht ls++[ent r (pl r) (ht r)]:=by unfold ents;rw[List.map_append];rfl
theorem le_step{L T T':Nat}(h:L+1≤1000 - 2*T)(ht:T'<T):L≤1000 - 2*T':=Nat.le_trans (Nat.le_of_succ_le h) (Nat.sub_le_sub_left (Nat.mul_le_mul_left 2 (Nat.le_of_lt ht)) 1000)
theorem fnd_loop(Y:Lay c w pl ht):∀ (n:Nat) (ks ls:List Nat) (j:Nat→V),FInv w ks ls→ls.length+2*fh w.length ks<n→ls.length≤1000 - 2*fh w.length ks→
  ∃ ks' j',bL (sem (PN (k+1)) 0 1 1000 39) (cv f_law_found.body 1) foundB n (ffr c w (dct (cq pl ht) ks) (ents pl ht ls) j)=some (.next,ffr c w (dct (cq pl ht) ks') [] j')∧FInv w ks' []:=by
 intro n
 induction n with
 | zero=>intro ks ls j I h;lia
 | succ n ih=>
  intro ks ls j I hn hb
  have hks:∀ r∈ks,r<w.length:=fun r hr=>by
   obtain ⟨o,gs,h,_⟩:=Y.row r (I.reach r (.inl hr));exact ai h
  have htd:=fP I.nd hks
  have hwl:=Y.wl
  have hD:(dct (cq pl ht) ks).length≤4000:=by rw[cI];lia
  have hc:c.length≤5000:=Nat.le_trans Y.cl (by decide)
  have hw5:w.length≤5000:=Nat.le_trans Y.wl (by decide)
  rcases List.eq_nil_or_concat ls with rfl | ⟨ls,r,rfl⟩
  ·exact⟨ks,j,cB (fnd_end (Nat.le_trans hD (by decide))),I⟩
  ·rw[List.concat_eq_append] at*
   rw[List.length_append,List.length_singleton] at hn hb
   rw[ents_snoc]
   have hL:(ents pl ht ls).length≤5000:=by unfold ents;rw[List.length_map];lia
   have test:=fnd_test (c:=c) (w:=w) (k:=k+1) (j:=j) (x:=ent r (pl r) (ht r)) hL (Nat.le_trans hD (by decide)) aD
   by_cases hr:r∈ks
   ·obtain ⟨j',hb'⟩:=fnd_old (c:=c) (w:=w) (k:=k+1) (j:=j) (r:=r) (p:=pl r) (h:=ht r) (L:=ents pl ht ls) (D:=dct (cq pl ht) ks) (by rw[dct_mem,decide_eq_true hr]) (gi (f:=cq pl ht) hr) hL (Nat.le_trans hD (by decide))
    rw[List.append_nil] at hb'
    obtain ⟨ks',j2,h1,h2⟩:=ih ks ls j' (I.drop hr) (by lia) (by lia)
    exact⟨ks',j2,while_cont test hb' h1,h2⟩
   ·obtain ⟨o,gs,hw,hrow⟩:=Y.row r (I.reach r (.inr (by simp)))
    have hlt:=fO (ai hw) hr
    have hin:V.mem (.int r) (.dict (dct (cq pl ht) ks))=some false:=by rw[dct_mem,decide_eq_false hr]
    have hset:=dct_set (f:=cq pl ht) hr
    have I':=I.add hr hw
    obtain ⟨g,hg1,hg2⟩:=hrow.gr
    rcases hrow.st with ⟨rfl,s1,s2,s3⟩ | ⟨g0,rfl,s1,s2,s3⟩ | ⟨g0,g1,s,rfl,s1,s2,s3,s4⟩
    ·obtain ⟨j',hb'⟩:=fnd_last (k:=k) (j:=j) (h:=ht r) (L:=ents pl ht ls) hin s1 hw ⟨s2,s3⟩ hg1 hL hD hc hw5
     rw[show (V.tup [.int (pl r),.int (ht r)])=cq pl ht r from rfl,hset,List.append_nil] at hb'
     rw[List.append_nil] at I'
     obtain ⟨ks',j2,h1,h2⟩:=ih _ ls j' I' (by lia) (le_step hb hlt)
     exact⟨ks',j2,c6 test hb' h1,h2⟩
    ·obtain ⟨j',hb'⟩:=fnd_plain (k:=k) (j:=j) (h:=ht r) (L:=ents pl ht ls) hin s1 hw s2 hg1 (past_ok (k:=k) s3 hc) hL hD hc hw5
     rw[show (V.tup [.int (pl r),.int (ht r)])=cq pl ht r from rfl,hset,← hg2 g0 (by simp),show ents pl ht ls++[ent g0 (pl g0) (ht g0)]=ents pl ht (ls++[g0]) from ents_snoc.symm] at hb'
     obtain ⟨ks',j2,h1,h2⟩:=ih _ (ls++[g0]) j' I' (by simp;lia) (by simp;lia)
     exact⟨ks',j2,c6 test hb' h1,h2⟩
    ·obtain ⟨j',hb'⟩:=fnd_branch (k:=k) (j:=j) (h:=ht r) (L:=ents pl ht ls) hin s1 hw s2 hg1 (past_ok (k:=k) s3 hc) (past_ok (k:=k) s4 hc) hL hD hc hw5
     have e2:ents pl ht ls++[ent g0 (pl g0) (ht r+g),ent g1 (pl g1) (ht r+g)]=ents pl ht (ls++[g0,g1]):=by
      unfold ents
      rw[List.map_append]
      simp [hg2 g0,hg2 g1]
     rw[show (V.tup [.int (pl r),.int (ht r)])=cq pl ht r from rfl,hset,e2] at hb'
     obtain ⟨ks',j2,h1,h2⟩:=ih _ (ls++[g0,g1]) j' I' (by simp;lia) (by simp;lia)
     exact⟨ks',j2,c6 test hb' h1,h2⟩
end
section
variable {c:Cd} {w:List Rw} {pl:Nat→Nat} {ht:Nat→Int} {k:Nat}
theorem found_ok(Y:Lay c w pl ht):∃ ks,PN (k+2) 43 [.v (.list (af c)),.v (.list (c4 w))]=some (.dict (dct (cq pl ht) ks),.v .undef)∧FInv w ks []:=by
 have hc:c.length≤5000:=Nat.le_trans Y.cl (by decide)
 have I:FInv w [] [0]:=⟨.nil,fun r h=>h.elim (fun h=>nomatch h) fun h=>by rw[List.mem_singleton.mp h];exact .zero,fun r h=>(nomatch h),.inr (List.mem_singleton.mpr rfl)⟩
 have hw:=Y.wl
 have ht0:=todo_le (m:=w.length)
 let j0:Nat→V:=fun _=>.undef
 obtain ⟨ks,j,h1,h2⟩:=fnd_loop (k:=k) Y 1000 [] [0] j0 I (by simp;lia) (by simp;lia)
 refine⟨ks,?_,h2⟩
 have hp:=past_ok (k:=k) Y.start hc
 let σ:=mkσ [.list (af c),.list (c4 w)] [pl 0] [] [[]] [] ⟨a8,a8,trivial⟩ trivial ⟨Nat.zero_le _,trivial⟩ trivial
 have H:FA (PN (k+1)) σ { dlit:=[([],0)],call:=[(42,[.a 0,.int 0],.v (.i 0))] }:={ dlit:=⟨rfl,trivial⟩,call:=⟨⟨_,hp⟩,trivial⟩ }
 have e1:=ag (lo:=0) (la:=1) (W:=1000) H (n:=40) (b:=f_law_found.body.take 1) (fr:=[.v (.a 0),.v (.a 1),.v .undef,.v .undef,.v .undef,.v .undef,.v .undef,.v .undef,.v .undef,.v .undef,.v .undef]) (f:=.next)
  (fr':=[.v (.a 0),.v (.a 1),.dict 0,.list none [.tup [.int 0,.i 0,.int 0]],.v .undef,.v .undef,.v .undef,.v .undef,.v .undef,.v .undef,.v .undef]) (by kernel_rfl)
 have e1':(sem (PN (k+1)) 0 1 1000 40).ex (.asgT [2,3] [(.dict false []),(.list [(.tup [(.const (.int 0)),(.call 42 [.var 0,(.const (.int 0))]),(.const (.int 0))])])]) _=some (.next,_):=exs_one e1
 rw[ao (fn:=f_law_found) rfl (by decide)]
 have h0:(am σ [.v (.a 0),.v (.a 1),.dict 0,.list none [.tup [.int 0,.i 0,.int 0]],.v .undef,.v .undef,.v .undef,.v .undef,.v .undef,.v .undef,.v .undef]:Fr)=ffr c w (dct (cq pl ht) []) (ents pl ht [0]) j0:=by
  show ffr c w [] [ent 0 (pl 0) 0] j0=ffr c w [] [ent 0 (pl 0) (ht 0)] j0
  rw[Y.h0]
 rw[h0] at e1'
 exact aq (fr:=_) rfl (ak e1' (ak h1 (aW rfl)))
end
noncomputable def bS:List Nat:=[0,1,2,3,5,6,7,53,65]
noncomputable def cz:List Nat:=[58,59,60]
noncomputable def tk(o:Nat):Nat:=if o=6∨o=7∨o=53∨o=65∨o=59∨o=60 then 1 else 0
noncomputable def pt(o:Nat):Nat:=if o=7 then 2 else if o=6∨o=65∨o=58∨o=59∨o=60 then 0 else 1
noncomputable def lst(o:Nat):Bool:=o==58||o==65
theorem cO{α β:Type}{l:List α}{f g:α→β}(h:l.map f=l.map g):∀ x∈l,f x=g x:=List.map_inj_left.mp h
theorem g7{l:List Nat}{f g:Nat→Option (Own×Own)}(h:l.map f=l.map g)(o:Nat)(ho:o∈l):f o=g o:=cO h o ho
theorem kind_N{k o:Nat}(h:o∈bS):PN (k+1) 2 [.v (.int o)]=some (.v (.str []),.v .undef):=g7 (f:=fun o=>PN (k+1) 2 [.v (.int o)]) (g:=fun _=>some (.v (.str []),.v .undef)) (by kernel_rfl) o h
theorem fF{k o:Nat}(h:o∈cz):PN (k+1) 2 [.v (.int o)]=some (.v (.str [116]),.v .undef):=g7 (f:=fun o=>PN (k+1) 2 [.v (.int o)]) (g:=fun _=>some (.v (.str [116]),.v .undef)) (by kernel_rfl) o h
theorem taken_N{k o:Nat}(h:o∈bS):PN (k+1) 3 [.v (.int o),.v .none]=some (.v (.int (tk o)),.v .undef):=g7 (f:=fun o=>PN (k+1) 3 [.v (.int o),.v .none]) (g:=fun o=>some (.v (.int (tk o)),.v .undef)) (by kernel_rfl) o h
theorem taken_J{k o:Nat}{a:Int}(h:o∈cz):PN (k+1) 3 [.v (.int o),.v (.int a)]=some (.v (.int (tk o)),.v .undef):=g7 (f:=fun o=>PN (k+1) 3 [.v (.int o),.v (.int a)]) (g:=fun o=>some (.v (.int (tk o)),.v .undef)) (by kernel_rfl) o h
theorem put_A{k o:Nat}(h:o∈bS++cz):PN (k+1) 4 [.v (.int o)]=some (.v (.int (pt o)),.v .undef):=g7 (f:=fun o=>PN (k+1) 4 [.v (.int o)]) (g:=fun o=>some (.v (.int (pt o)),.v .undef)) (by kernel_rfl) o h
theorem last_A{k o:Nat}(h:o∈bS++cz):PN (k+1) 5 [.v (.int o)]=some (.v (.bool (lst o)),.v .undef):=g7 (f:=fun o=>PN (k+1) 5 [.v (.int o)]) (g:=fun o=>some (.v (.bool (lst o)),.v .undef)) (by kernel_rfl) o h
theorem made_A{k o:Nat}(h:o∈bS++cz):PN (k+1) 30 [.v (.int o),.v (.int (pt o))]=some (.v (.tup (List.replicate (pt o) (.int (-1)))),.v .undef):=g7 (f:=fun o=>PN (k+1) 30 [.v (.int o),.v (.int (pt o))]) (g:=fun o=>some (.v (.tup (List.replicate (pt o) (.int (-1)))),.v .undef)) (by kernel_rfl) o h
theorem need_A{k o:Nat}{pc:Int}(h:o∈bS++cz):PN (k+1) 29 [.v (.tup (List.replicate (tk o) (.int (-1)))),.v (.int pc),.v (.bool false)]=some (.v .none,.v .undef):=g7 (f:=fun o=>PN (k+1) 29 [.v (.tup (List.replicate (tk o) (.int (-1)))),.v (.int pc),.v (.bool false)]) (g:=fun o=>some (.v .none,.v .undef)) (by kernel_rfl) o h
theorem thrown_A{k:Nat}{pc:Int}:PN (k+1) 27 [.v (.list []),.v (.int pc)]=some (.v .none,.v .undef):=by kernel_rfl
noncomputable def aw(c:Cd)(ln:List V):V:=.inst 1 [.str [98,108,111,99,107,115],.list [],.bool false,.list (af c),.list ln,.undef,.list [],.list [],.undef,.list [],.int 0,.int 0,.list [],.bool false,.none,.none,.list []]
noncomputable def aC(co li:SV):SV:=.inst 1 [.str [98,108,111,99,107,115],.list none [],.bool false,co,li,.undef,.list none [],.list none [],.undef,.list none [],.int 0,.int 0,.list none [],.bool false,.none,.none,.list none []]
noncomputable def vals(h:Nat):V:=.tup (List.replicate h (.int (-1)))
theorem rep_add{a b:Nat}:List.replicate a (V.int (-1))++List.replicate b (.int (-1))=List.replicate (a+b) (.int (-1)):=by rw[List.replicate_append_replicate]
theorem clip_sub{h t:Nat}(ht:t≤h):d6 h ((h:Int) - t)=h - t:=by
 unfold d6
 rw[if_neg (by lia),if_neg (by lia)];lia
theorem slice_hi{h t:Nat}(ht:t≤h)(hh:h≤100):V.slice (vals h) none (some ((h:Int) - t))=some (.v (vals (h - t))):=by
 show (if (List.replicate h (V.int (-1))).length≤cap then some (Own.v (.tup (((List.replicate h (V.int (-1))).take (d6 (List.replicate h (V.int (-1))).length ((h:Int) - t))).drop 0))) else none)=_
 rw[List.length_replicate,if_pos (Nat.le_trans hh (by decide)),clip_sub ht,List.drop_zero,List.take_replicate,Nat.min_eq_left (Nat.sub_le ..)];rfl
theorem slice_lo{h t:Nat}(ht:t≤h)(hh:h≤100):V.slice (vals h) (some ((h:Int) - t)) none=some (.v (vals t)):=by
 show (if (List.replicate h (V.int (-1))).length≤cap then some (Own.v (.tup (((List.replicate h (V.int (-1))).take (List.replicate h (V.int (-1))).length).drop (d6 (List.replicate h (V.int (-1))).length ((h:Int) - t))))) else none)=_
 rw[List.length_replicate,if_pos (Nat.le_trans hh (by decide)),clip_sub ht,List.take_replicate,Nat.min_self,List.drop_replicate,show h - (h - t)=t by lia];rfl
theorem len_vals{h:Nat}(hh:h≤100):V.len (vals h)=some h:=by
 refine len_tupE.trans ?_
 show (if (List.replicate h (V.int (-1))).length≤cap then some (List.replicate h (V.int (-1))).length else none)=_
 rw[List.length_replicate,if_pos (Nat.le_trans hh (by decide))]
theorem add_vals{a b:Nat}(h:a≤200)(h2:b≤200):bH .add (vals a) (vals b)=some (.v (vals (a+b))):=by
 refine add_tupE.trans ?_
 show (if (List.replicate a (V.int (-1))).length+(List.replicate b (V.int (-1))).length≤cap then some (Own.v (.tup (List.replicate a (.int (-1))++List.replicate b (.int (-1))))) else none)=_
 rw[List.length_replicate,List.length_replicate,if_pos (by unfold cap;lia),rep_add];rfl
theorem lt_no{a b:Nat}(h:b≤a):aH .lt (.int a) (.int b)=some false:=by
 show some (decide ((a:Int)<b))=_
 rw[decide_eq_false (by lia)]
theorem sub_int{a b:Int}:bH .sub (.int a) (.int b)=some (.v (.int (a - b))):=rfl
noncomputable def wayV(s h:Nat):V:=.tup [.int s,vals h]
section
variable {c:Cd} {ln:List V} {k pc h:Nat}
noncomputable def dA(n:Nat):SV:=.tup (List.replicate n (.int (-1)))
theorem waysN{o:Nat}(ho:o∈bS)(hcode:c[pc]?=some (o,none))(hc:c.length≤5000)(hh:tk o≤h)(h1:h≤100):
  PN (k+2) 31 [.v (aw c ln),.v (.int pc),.v (vals h)]=some (.list ((if lst o then [] else [pc+1]).map fun s=>wayV s (h - tk o+pt o)),.v .undef):=by
 have hA:o∈bS++cz:=List.mem_append_left _ ho
 let σ:=mkσ [.list (af c),vals h,vals (h - tk o),vals (h - tk o+pt o),.list ln] [pc,h,(h:Int) - tk o,(pc:Int)+1] [] [] [] ⟨a8,aD,aD,aD,a8,trivial⟩ trivial trivial trivial
 have hp:pt o≤2:=by unfold pt;split <;> (try split) <;> lia
 let F:Nat→b6:=fun o=>{ item:=[(.a 0,.i 0,.tup [.int o,.none])],len:=[(.a 1,.i 1)],cmp:=[(.lt,.i 1,.int (tk o),false)],bin:=[(.sub,.i 1,.int (tk o),.v (.i 2)),(.add,.a 2,dA (pt o),.v (.a 3)),(.add,.i 0,.int 1,.v (.i 3))],slice:=[(.a 1,.i 2,.undef,.v (dA (tk o))),(.a 1,.undef,.i 2,.v (.a 2))],call:=[(3,[.int o,.none],.v (.int (tk o))),(29,[dA (tk o),.i 0,.bool false],.v .none),(4,[.int o],.v (.int (pt o))),(30,[.int o,.int (pt o)],.v (dA (pt o))),(5,[.int o],.v (.bool (lst o))),(2,[.int o],.v (.str []))] }
 have dr:∀ n,den σ (dA n)=vals n:=fun n=>by
  show V.tup (aE σ (List.replicate n (.int (-1))))=_
  rw[bp,List.map_replicate];rfl
 have b1:bH .add (vals (h - tk o)) (den σ (dA (pt o)))=some (.v (vals (h - tk o+pt o))):=by rw[dr];exact add_vals (by lia) (by lia)
 have s1:V.slice (vals h) (some ((h:Int) - tk o)) none=some (.v (den σ (dA (tk o)))):=by rw[dr];exact slice_lo hh h1
 have c1:PN (k+1) 29 [.v (den σ (dA (tk o))),.v (.int pc),.v (.bool false)]=some (.v .none,.v .undef):=by rw[dr];exact need_A hA
 have c2:PN (k+1) 30 [.v (.int o),.v (.int (pt o))]=some (.v (den σ (dA (pt o))),.v .undef):=by rw[dr];exact made_A hA
 have H:FA (PN (k+1)) σ (F o):={ item:=⟨⟨aQ hcode hc,aD⟩,trivial⟩,len:=⟨⟨_,len_vals h1,rfl⟩,trivial⟩,cmp:=⟨lt_no hh,trivial⟩,bin:=⟨sub_int,b1,add_int,trivial⟩,slice:=⟨⟨_,_,rfl,rfl,s1⟩,⟨_,_,rfl,rfl,slice_hi hh h1⟩,trivial⟩,call:=⟨⟨_,taken_N ho⟩,⟨_,c1⟩,⟨_,put_A hA⟩,⟨_,c2⟩,⟨_,last_A hA⟩,⟨_,kind_N ho⟩,trivial⟩ }
 rw[ao (fn:=f_ways_on) rfl (by decide)]
 have e1:=cO (l:=bS) (f:=fun o=>fW (fw (F o) 0 1 40) f_ways_on.body [.v (aC (.a 0) (.a 4)),.v (.i 0),.v (.a 1),.v .undef,.v .undef,.v .undef,.v .undef,.v .undef,.v .undef,.v .undef])
  (g:=fun o=>some (.ret (.list none (if lst o then [] else [.tup [.i 3,.a 3]])),[.v (aC (.a 0) (.a 4)),.v (.i 0),.v (.a 1),.v (.int o),.v .none,.v (.int (tk o)),.v (dA (tk o)),.v (.a 2),.v (.a 3),.v .undef])) (by kernel_rfl) o ho
 have e2:=ag (lo:=0) (la:=1) (W:=1000) H (n:=40) e1
 have:=aq (fn:=f_ways_on) (la:=1) (args:=[.v (aw c ln),.v (.int pc),.v (vals h)]) rfl e2
 refine this.trans ?_
 by_cases hl:lst o=true
 ·simp only[hl,if_true];rfl
 ·simp only[hl];rfl
theorem waysJ{o:Nat}{s:Nat}(ho:o∈cz)(hcode:c[pc]?=some (o,some s))(hc:c.length≤5000)(hh:tk o≤h)(h1:h≤100):
  PN (k+2) 31 [.v (aw c ln),.v (.int pc),.v (vals h)]=some (.list ((if lst o then [s] else [pc+1,s]).map fun s=>wayV s (h - tk o+pt o)),.v .undef):=by
 have hA:o∈bS++cz:=List.mem_append_right _ ho
 let σ:=mkσ [.list (af c),vals h,vals (h - tk o),vals (h - tk o+pt o),.list ln] [pc,h,(h:Int) - tk o,(pc:Int)+1,s] [] [] [] ⟨a8,aD,aD,aD,a8,trivial⟩ trivial trivial trivial
 have hp:pt o≤2:=by unfold pt;split <;> (try split) <;> lia
 let F:Nat→b6:=fun o=>{ item:=[(.a 0,.i 0,.tup [.int o,.i 4])],len:=[(.a 1,.i 1)],cmp:=[(.lt,.i 1,.int (tk o),false)],bin:=[(.sub,.i 1,.int (tk o),.v (.i 2)),(.add,.a 2,dA (pt o),.v (.a 3)),(.add,.i 0,.int 1,.v (.i 3))],slice:=[(.a 1,.i 2,.undef,.v (dA (tk o))),(.a 1,.undef,.i 2,.v (.a 2))],call:=[(3,[.int o,.i 4],.v (.int (tk o))),(29,[dA (tk o),.i 0,.bool false],.v .none),(4,[.int o],.v (.int (pt o))),(30,[.int o,.int (pt o)],.v (dA (pt o))),(5,[.int o],.v (.bool (lst o))),(2,[.int o],.v (.str [116]))] }
 have dr:∀ n,den σ (dA n)=vals n:=fun n=>by
  show V.tup (aE σ (List.replicate n (.int (-1))))=_
  rw[bp,List.map_replicate];rfl
 have b1:bH .add (vals (h - tk o)) (den σ (dA (pt o)))=some (.v (vals (h - tk o+pt o))):=by rw[dr];exact add_vals (by lia) (by lia)
 have s1:V.slice (vals h) (some ((h:Int) - tk o)) none=some (.v (den σ (dA (tk o)))):=by rw[dr];exact slice_lo hh h1
 have c1:PN (k+1) 29 [.v (den σ (dA (tk o))),.v (.int pc),.v (.bool false)]=some (.v .none,.v .undef):=by rw[dr];exact need_A hA
 have c2:PN (k+1) 30 [.v (.int o),.v (.int (pt o))]=some (.v (den σ (dA (pt o))),.v .undef):=by rw[dr];exact made_A hA
 have H:FA (PN (k+1)) σ (F o):={ item:=⟨⟨aQ hcode hc,aD⟩,trivial⟩,len:=⟨⟨_,len_vals h1,rfl⟩,trivial⟩,cmp:=⟨lt_no hh,trivial⟩,bin:=⟨sub_int,b1,add_int,trivial⟩,slice:=⟨⟨_,_,rfl,rfl,s1⟩,⟨_,_,rfl,rfl,slice_hi hh h1⟩,trivial⟩,call:=⟨⟨_,taken_J ho⟩,⟨_,c1⟩,⟨_,put_A hA⟩,⟨_,c2⟩,⟨_,last_A hA⟩,⟨_,fF ho⟩,trivial⟩ }
 rw[ao (fn:=f_ways_on) rfl (by decide)]
 have e1:=cO (l:=cz) (f:=fun o=>fW (fw (F o) 0 1 40) f_ways_on.body [.v (aC (.a 0) (.a 4)),.v (.i 0),.v (.a 1),.v .undef,.v .undef,.v .undef,.v .undef,.v .undef,.v .undef,.v .undef])
  (g:=fun o=>some (.ret (.list none (if lst o then [.tup [.i 4,.a 3]] else [.tup [.i 3,.a 3],.tup [.i 4,.a 3]])),[.v (aC (.a 0) (.a 4)),.v (.i 0),.v (.a 1),.v (.int o),.v (.i 4),.v (.int (tk o)),.v (dA (tk o)),.v (.a 2),.v (.a 3),.v .undef])) (by kernel_rfl) o ho
 have e2:=ag (lo:=0) (la:=1) (W:=1000) H (n:=40) e1
 have:=aq (fn:=f_ways_on) (la:=1) (args:=[.v (aw c ln),.v (.int pc),.v (vals h)]) rfl e2
 refine this.trans ?_
 by_cases hl:lst o=true
 ·simp only[hl,if_true];rfl
 ·simp only[hl];rfl
end
inductive dT (nx:Nat→List Nat):Nat→Prop
 | zero:dT nx 0
 | step {x s:Nat}:dT nx x→s∈nx x→dT nx s
noncomputable def dR:List Nat→List Nat→List Nat→List Nat×List Nat
 | ks,ls,[]=>(ks,ls)
 | ks,ls,s::r=>if s∈ks then dR ks ls r else dR (ks++[s]) (ls++[s]) r
structure WInv (nx:Nat→List Nat) (m:Nat) (ks ls:List Nat):Prop where
 nd:ks.Nodup
 lt:∀ x∈ks,x<m
 sub:∀ x∈ls,x∈ks
 live:∀ x∈ks,dT nx x
 clos:∀ x∈ks,x∈ls∨∀ s∈nx x,s∈ks
 zero:0∈ks
structure AddS (nx:Nat→List Nat) (m:Nat) (ks ls news ks' ls':List Nat):Prop where
 k:∀ x∈ks,x∈ks'
 l:∀ x∈ls,x∈ls'
 new:∀ x∈news,x∈ks'
 kn:∀ x∈ks',x∈ks∨x∈ls'∧x∈news
 ln:∀ x∈ls',x∈ls∨x∈ks'
 nd:ks'.Nodup
 ms:ls'.length+fh m ks'≤ls.length+fh m ks
theorem addK_ok{nx:Nat→List Nat}{m:Nat}(news:List Nat):∀ (ks ls:List Nat),(∀ s∈news,s<m)→ks.Nodup→AddS nx m ks ls news (dR ks ls news).1 (dR ks ls news).2:=by
 induction news with
 | nil=>intro ks ls _ nd;exact⟨fun _ h=>h,fun _ h=>h,fun _ h=>(nomatch h),fun _ h=>.inl h,fun _ h=>.inl h,nd,Nat.le_refl _⟩
 | cons s r ih=>
  intro ks ls hm nd
  have hr:∀ x∈r,x<m:=fun x hx=>hm x (List.mem_cons_of_mem _ hx)
  by_cases hs:s∈ks
  ·have A:=ih ks ls hr nd
   rw[dR,if_pos hs]
   exact⟨A.k,A.l,fun x hx=>(List.mem_cons.mp hx).elim (fun e=>e▸A.k s hs) (A.new x),fun x hx=>(A.kn x hx).imp id fun h=>⟨h.1,List.mem_cons_of_mem _ h.2⟩,A.ln,A.nd,A.ms⟩
  ·have nd':(ks++[s]).Nodup:=by
    rw[List.nodup_append]
    exact⟨nd,by simp,fun a ha b hb e=>hs (by rw[List.mem_singleton.mp hb] at e;exact e▸ha)⟩
   have A:=ih (ks++[s]) (ls++[s]) hr nd'
   rw[dR,if_neg hs]
   have hsk:s∈ks++[s]:=List.mem_append_right _ (List.mem_singleton.mpr rfl)
   have hsl:s∈ls++[s]:=List.mem_append_right _ (List.mem_singleton.mpr rfl)
   refine⟨fun x hx=>A.k x (List.mem_append_left _ hx),fun x hx=>A.l x (List.mem_append_left _ hx),fun x hx=>(List.mem_cons.mp hx).elim (fun e=>e▸A.k s hsk) (A.new x),fun x hx=>?_,fun x hx=>?_,A.nd,?_⟩
   ·rcases A.kn x hx with h | h
    ·rcases List.mem_append.mp h with h | h
     ·exact .inl h
     ·rw[List.mem_singleton.mp h];exact .inr ⟨A.l s hsl,List.mem_cons_self ..⟩
    ·exact .inr ⟨h.1,List.mem_cons_of_mem _ h.2⟩
   ·rcases A.ln x hx with h | h
    ·rcases List.mem_append.mp h with h | h
     ·exact .inl h
     ·rw[List.mem_singleton.mp h];exact .inr (A.k s hsk)
    ·exact .inr h
   ·have h1:=A.ms
    have h2:=fO (hm s (List.mem_cons_self ..)) hs
    rw[List.length_append,List.length_singleton] at h1
    lia
theorem WInv.go{nx:Nat→List Nat}{m:Nat}{ks ls:List Nat}{x:Nat}(I:WInv nx m ks (ls++[x]))(hm:∀ s∈nx x,s<m):WInv nx m (dR ks ls (nx x)).1 (dR ks ls (nx x)).2:=by
 have A:=addK_ok (nx:=nx) (nx x) ks ls hm I.nd
 have hx:x∈ks:=I.sub x (List.mem_append_right _ (List.mem_singleton.mpr rfl))
 refine⟨A.nd,fun y hy=>?_,fun y hy=>?_,fun y hy=>?_,fun y hy=>?_,A.k 0 I.zero⟩
 ·exact(A.kn y hy).elim (I.lt y) fun h=>hm y h.2
 ·exact(A.ln y hy).elim (fun h=>A.k y (I.sub y (List.mem_append_left _ h))) id
 ·exact(A.kn y hy).elim (I.live y) fun h=>.step (I.live x hx) h.2
 ·rcases A.kn y hy with h | h
  ·rcases I.clos y h with h2 | h2
   ·rcases List.mem_append.mp h2 with h3 | h3
    ·exact .inl (A.l y h3)
    ·rw[List.mem_singleton.mp h3];exact .inr fun s hs=>A.new s hs
   ·exact .inr fun s hs=>A.k s (h2 s hs)
  ·exact .inl h.1
theorem WInv.start{nx:Nat→List Nat}{m:Nat}(h:0<m):WInv nx m [0] [0]:=
 ⟨by simp,fun x hx=>by rw[List.mem_singleton.mp hx];exact h,fun x hx=>hx,fun x hx=>by rw[List.mem_singleton.mp hx];exact .zero,fun x hx=>.inl hx,by simp⟩
theorem WInv.done{nx:Nat→List Nat}{m:Nat}{ks:List Nat}(I:WInv nx m ks []){x:Nat}(h:dT nx x):x∈ks:=by
 induction h with
 | zero=>exact I.zero
 | step _ hs ih=>exact((I.clos _ ih).resolve_left (fun h=>nomatch h)) _ hs
theorem WInv.len{nx:Nat→List Nat}{m:Nat}{ks ls:List Nat}(I:WInv nx m ks ls):ks.length≤m:=Nat.le_trans (Nat.le_add_right ..) (fP I.nd I.lt)
noncomputable def bI(pc:Nat):Nat×Option Nat→List Nat
 | (o,none)=>if lst o then [] else [pc+1]
 | (o,some s)=>if lst o then [s] else [pc+1,s]
noncomputable def nxt(c:Cd)(pc:Nat):List Nat:=match c[pc]? with
 | some p=>bI pc p
 | none=>[]
noncomputable def eH(p:Nat×Option Nat):Prop:=(p.1∈bS∧p.2=none)∨(p.1∈cz∧∃ s,p.2=some s)
structure Flow (c:Cd) (hh:Nat→Nat):Prop where
 cl:c.length≤200
 pos:0<c.length
 h0:hh 0=0
 at':∀ pc,dT (nxt c) pc→∃ p,c[pc]?=some p∧eH p∧tk p.1≤hh pc∧hh pc≤100∧∀ s∈bI pc p,s<c.length∧hh s=hh pc - tk p.1+pt p.1
section
variable {c:Cd} {ln:List V} {k pc h:Nat} {hh:Nat→Nat}
theorem waysA{p:Nat×Option Nat}(hp:eH p)(hcode:c[pc]?=some p)(hc:c.length≤5000)(hk:tk p.1≤h)(h1:h≤100):
  PN (k+2) 31 [.v (aw c ln),.v (.int pc),.v (vals h)]=some (.list ((bI pc p).map fun s=>wayV s (h - tk p.1+pt p.1)),.v .undef):=by
 obtain ⟨o,a⟩:=p
 rcases hp with ⟨h2,h3⟩ | ⟨h2,s,h3⟩
 ·have h3:a=none:=h3
  subst h3;exact waysN h2 hcode hc hk h1
 ·have h3:a=some s:=h3
  subst h3;exact waysJ h2 hcode hc hk h1
theorem thrown_ok{p:Nat×Option Nat}(hcode:c[pc]?=some p)(hc:c.length≤5000):PN (k+2) 28 [.v (aw c ln),.v (.int pc),.v (vals h)]=some (.list [],.v .undef):=by
 obtain ⟨o,a⟩:=p
 let σ:=mkσ [.list (af c),enc a,.list ln,vals h] [pc,o] [] [] [] ⟨a8,cX,a8,aD,trivial⟩ trivial trivial trivial
 have H:FA (PN (k+1)) σ { item:=[(.a 0,.i 0,.tup [.i 1,.a 1])],call:=[(27,[.list none [],.i 0],.v .none)] }:={ item:=⟨⟨aQ hcode hc,aD⟩,trivial⟩,call:=⟨⟨_,thrown_A⟩,trivial⟩ }
 rw[ao (fn:=f_ways_thrown) rfl (by decide)]
 have e:=ag (lo:=0) (la:=1) (W:=1000) H (n:=40) (b:=f_ways_thrown.body) (fr:=[.v (aC (.a 0) (.a 2)),.v (.i 0),.v (.a 3),.v .undef,.v .undef,.v .undef]) (f:=.ret (.list none []))
  (fr':=[.v (aC (.a 0) (.a 2)),.v (.i 0),.v (.a 3),.v .none,.v (.i 1),.v (.a 1)]) (by kernel_rfl)
 exact aq (fn:=f_ways_thrown) (la:=1) (args:=[.v (aw c ln),.v (.int pc),.v (vals h)]) rfl e
noncomputable abbrev stkW:List S:=bJ f_stacks_of.body 1
noncomputable abbrev stkF:List S:=bJ stkW 3
noncomputable def stF(c:Cd)(ln:List V)(D:List (Int×V))(L:List V)(j:Nat→V):Fr:=[.v (aw c ln),.dict D,.list L,.v (j 3),.v (j 4),.v (j 5),.v (j 6),.v (j 7)]
noncomputable def stS(d:SO)(l:SO)(j:Nat→V)(x y:SV):SFr:=[.v (aC (.a 0) (.a 1)),d,l,.v (.k (j 3)),.v (.k (j 4)),.v (.k (j 5)),.v x,.v y]
noncomputable def upd(j:Nat→V)(i:Nat)(v:V):Nat→V:=fun n=>if n=i then v else j n
theorem intsRep(n:Nat):aP (List.replicate n (V.int (-1)))=some (List.replicate n (-1)):=by
 induction n with
 | zero=>rfl
 | succ n ih=>rw[List.replicate_succ];show (aP _).bind _=_;rw[ih];rfl
theorem ne_vals(h:Nat):aH .ne (vals h) (vals h)=some false:=by
 show ((vals h).eqv (vals h)).bind (fun r=>some !r)=some false
 unfold vals
 rw[eqv_tupE]
 unfold eQ
 rw[intsRep]
 show (some (List.replicate h (-1)==List.replicate h (-1))).bind _=_
 rw[beq_self_eq_true];rfl
theorem notIn_dct{f:Nat→V}{ks:List Nat}{r:Nat}:aH .notIn (.int r) (.dict (dct f ks))=some (decide (r∉ks)):=by
 show ((V.int r).mem (.dict (dct f ks))).bind (fun r=>some !r)=_
 rw[dct_mem];simp
theorem isIn_dct{f:Nat→V}{ks:List Nat}{r:Nat}:aH .isIn (.int r) (.dict (dct f ks))=some (decide (r∈ks)):=dct_mem
theorem stk_turn{ks:List Nat}{L:List V}{s:Nat}(j:Nat→V)(hs:s<c.length)(hc:c.length≤5000)(hL:L.length≤4000)(hk:ks.length≤4000):
  exs (sem (PN (k+1)) 0 1 1000 38) stkF (stF c ln (dct (fun x=>vals (hh x)) ks) L (upd (upd j 6 (.int s)) 7 (vals (hh s)))) =
   some (.next,stF c ln (dct (fun x=>vals (hh x)) (if s∈ks then ks else ks++[s])) (if s∈ks then L else L++[.int s]) (upd (upd j 6 (.int s)) 7 (vals (hh s)))):=by
 have hD:(dct (fun x=>vals (hh x)) ks).length≤5000:=by rw[cI];lia
 by_cases hin:s∈ks
 ·let σ:=mkσ [.list (af c),.list ln,vals (hh s)] [s,c.length] [L] [dct (fun x=>vals (hh x)) ks] [] ⟨a8,a8,aD,trivial⟩ ⟨by lia,trivial⟩ ⟨hD,trivial⟩ trivial
  have H:FA (PN (k+1)) σ { item:=[(.dict 0,.i 0,.a 2)],len:=[(.a 0,.i 1)],cmp:=[(.ge,.i 0,.i 1,false),(.notIn,.i 0,.dict 0,false),(.ne,.a 2,.a 2,false)] }:=
   { item:=⟨⟨gi (f:=fun x=>vals (hh x)) hin,aD⟩,trivial⟩,len:=⟨⟨_,bl hc,rfl⟩,trivial⟩,cmp:=⟨ge_no hs,notIn_dct.trans (by rw[decide_eq_false (fun h=>h hin)]),ne_vals _,trivial⟩ }
  rw[if_pos hin,if_pos hin]
  have e:=ag (lo:=0) (la:=1) (W:=1000) H (n:=38) (b:=stkF) (fr:=stS (.dict 0) (.list (some 0) []) j (.i 0) (.a 2)) (f:=.next) (fr':=stS (.dict 0) (.list (some 0) []) j (.i 0) (.a 2)) (by kernel_rfl)
  have e2:am σ (stS (.dict 0) (.list (some 0) []) j (.i 0) (.a 2))=stF c ln (dct (fun x=>vals (hh x)) ks) (L++[]) (upd (upd j 6 (.int s)) 7 (vals (hh s))):=rfl
  rw[e2,List.append_nil] at e;exact e
 ·have hset:=dct_set (f:=fun x=>vals (hh x)) hin
  have hD2:(dct (fun x=>vals (hh x)) (ks++[s])).length≤5000:=by rw[cI,List.length_append,List.length_singleton];lia
  let σ:=mkσ [.list (af c),.list ln,vals (hh s)] [s,c.length] [L] [dct (fun x=>vals (hh x)) ks,dct (fun x=>vals (hh x)) (ks++[s])] [] ⟨a8,a8,aD,trivial⟩ ⟨by lia,trivial⟩ ⟨hD,hD2,trivial⟩ trivial
  have H:FA (PN (k+1)) σ { len:=[(.a 0,.i 1)],cmp:=[(.ge,.i 0,.i 1,false),(.notIn,.i 0,.dict 0,true)],dset:=[(0,.i 0,.a 2,1)] }:=
   { len:=⟨⟨_,bl hc,rfl⟩,trivial⟩,cmp:=⟨ge_no hs,notIn_dct.trans (by rw[decide_eq_true hin]),trivial⟩,dset:=⟨⟨_,rfl,hset.symm⟩,trivial⟩ }
  rw[if_neg hin,if_neg hin]
  have e:=ag (lo:=0) (la:=1) (W:=1000) H (n:=38) (b:=stkF) (fr:=stS (.dict 0) (.list (some 0) []) j (.i 0) (.a 2)) (f:=.next) (fr':=stS (.dict 1) (.list (some 0) [.i 0]) j (.i 0) (.a 2)) (by kernel_rfl)
  have e2:am σ (stS (.dict 0) (.list (some 0) []) j (.i 0) (.a 2))=stF c ln (dct (fun x=>vals (hh x)) ks) (L++[]) (upd (upd j 6 (.int s)) 7 (vals (hh s))):=rfl
  rw[e2,List.append_nil] at e;exact e
theorem stk_for(hc:c.length≤5000)(news:List Nat):∀ (ks ls:List Nat) (j:Nat→V),(∀ s∈news,s<c.length)→ls.length+news.length≤4000→ks.length+news.length≤4000→
  ∃ j',cF (sem (PN (k+1)) 0 1 1000 38) 0 (.tup [.var 6,.var 7]) stkF (news.map fun s=>wayV s (hh s)) (stF c ln (dct (fun x=>vals (hh x)) ks) (ls.map fun (n:Nat)=>.int n) j) =
   some (.next,stF c ln (dct (fun x=>vals (hh x)) (dR ks ls news).1) ((dR ks ls news).2.map fun (n:Nat)=>.int n) j'):=by
 induction news with
 | nil=>intro ks ls j _ _ _;exact⟨j,rfl⟩
 | cons s r ih=>
  intro ks ls j hs hl hk
  rw[List.length_cons] at hl hk
  have hr:∀ x∈r,x<c.length:=fun x hx=>hs x (List.mem_cons_of_mem _ hx)
  have T:=stk_turn (ln:=ln) (k:=k) (hh:=hh) (ks:=ks) (L:=ls.map fun (n:Nat)=>.int n) j (hs s (List.mem_cons_self ..)) hc (by rw[List.length_map];lia) (by lia)
  by_cases hin:s∈ks
  ·rw[if_pos hin,if_pos hin] at T
   obtain ⟨j',h⟩:=ih ks ls (upd (upd j 6 (.int s)) 7 (vals (hh s))) hr (by lia) (by lia)
   rw[dR,if_pos hin]
   exact⟨j',aS rfl T h⟩
  ·rw[if_neg hin,if_neg hin] at T
   obtain ⟨j',h⟩:=ih (ks++[s]) (ls++[s]) (upd (upd j 6 (.int s)) 7 (vals (hh s))) hr (by rw[List.length_append,List.length_singleton];lia) (by rw[List.length_append,List.length_singleton];lia)
   rw[dR,if_neg hin]
   rw[List.map_append] at h
   exact⟨j',aS rfl T h⟩
end
theorem b7{R:Rec}{a b:List S}{p:Option (Fl×Fr)}:∀ {fr fr1:Fr},exs R a fr=some (.next,fr1)→exs R b fr1=p→exs R (a++b) fr=p:=by
 induction a with
 | nil=>intro fr fr1 h h2;cases h;exact h2
 | cons s a ih=>
  intro fr fr1 h h2
  obtain ⟨⟨f,fr2⟩,h3,h4⟩:=bnd (show (R.ex s fr).bind _=_ from h)
  cases f with
  | next=>exact ak h3 (ih h4 h2)
  | _=>cases h4
theorem it_var{Φ:Nat→List Own→Option (Own×Own)}{lo la W n i:Nat}{fr:Fr}{l:List V}(h:fr[i]?=some (.list l)):bZ (sem Φ lo la W (n+1)) (.val (.var i)) fr=some (l,fr.set i (.v (.list l))):=by
 show (evV (sem Φ lo la W (n+1)) (.var i) fr).bind _=_
 show ((fr[i]?.bind _).bind _).bind _=_
 rw[h];rfl
noncomputable def ae(l:List Nat):List V:=l.map fun (n:Nat)=>.int n
theorem cY{ls:List Nat}{r:Nat}:ae (ls++[r])=ae ls++[.int r]:=by unfold ae;rw[List.map_append];rfl
theorem au{ls:List Nat}:(ae ls).length=ls.length:=List.length_map ..
theorem nxtO_len{pc:Nat}{p:Nat×Option Nat}:(bI pc p).length≤2:=by
 obtain ⟨o,a⟩:=p
 cases a <;> (unfold bI;dsimp only;split <;> first | exact Nat.zero_le _ | exact Nat.le_refl _ | exact Nat.le_succ _)
theorem gt_yes{a b:Nat}(h:b<a):aH .gt (.int a) (.int b)=some true:=by
 show some (decide ((b:Int)<a))=_
 rw[decide_eq_true (by lia)]
section
variable {c:Cd} {ln:List V} {k pc h:Nat} {hh:Nat→Nat}
noncomputable abbrev stkC:E:=cv f_stacks_of.body 1
theorem stk_test{D:List (Int×V)}{L:List V}{x:Nat}{j:Nat→V}(hL:L.length≤4000)(hD:D.length≤5000):evB (sem (PN k) 0 1 1000 39) stkC (stF c ln D (L++[.int x]) j)=some (true,stF c ln D (L++[.int x]) j):=by
 have hl:(L++[V.int x]).length=L.length+1:=by rw[List.length_append];rfl
 let σ:=mkσ [.list (af c),.list ln] [x,(L++[V.int x]).length] [L] [D] [] ⟨a8,a8,trivial⟩ ⟨by lia,trivial⟩ ⟨hD,trivial⟩ trivial
 have H:FA (PN k) σ { len:=[(.list (some 0) [.i 0],.i 1)],cmp:=[(.gt,.i 1,.int 0,true)] }:={ len:=⟨⟨_,len_list (l:=L++[V.int x]) (by lia),rfl⟩,trivial⟩,cmp:=⟨gt_yes (b:=0) (by lia),trivial⟩ }
 exact cH (lo:=0) (la:=1) (W:=1000) H (n:=39) (fr:=stS (.dict 0) (.list (some 0) [.i 0]) j (.k (j 6)) (.k (j 7))) (fr':=stS (.dict 0) (.list (some 0) [.i 0]) j (.k (j 6)) (.k (j 7))) (by kernel_rfl)
theorem stk_end{D:List (Int×V)}{j:Nat→V}(hD:D.length≤5000):evB (sem (PN k) 0 1 1000 39) stkC (stF c ln D [] j)=some (false,stF c ln D [] j):=by
 let σ:=mkσ [.list (af c),.list ln] [] [] [D] [] ⟨a8,a8,trivial⟩ trivial ⟨hD,trivial⟩ trivial
 have H:FA (PN k) σ {}:={}
 exact cH (lo:=0) (la:=1) (W:=1000) H (n:=39) (fr:=stS (.dict 0) (.list none []) j (.k (j 6)) (.k (j 7))) (fr':=stS (.dict 0) (.list none []) j (.k (j 6)) (.k (j 7))) (by kernel_rfl)
theorem stk_head{D:List (Int×V)}{L N:List V}{x:Nat}{j:Nat→V}(hit:V.item (.dict D) (.int x)=some (vals h))(hw:PN (k+2) 31 [.v (aw c ln),.v (.int x),.v (vals h)]=some (.list N,.v .undef))(ht:PN (k+2) 28 [.v (aw c ln),.v (.int x),.v (vals h)]=some (.list [],.v .undef))(hL:L.length≤4000)(hD:D.length≤5000)(hN:N.length≤5000):
  ∃ fr,exs (sem (PN (k+2)) 0 1 1000 39) (stkW.take 3) (stF c ln D (L++[.int x]) j)=some (.next,fr)∧fr[5]?=some (.list N)∧fr.set 5 (.v (.list N))=stF c ln D L (upd (upd (upd j 3 (.int x)) 4 (vals h)) 5 (.list N)):=by
 let σ:=mkσ [.list (af c),.list ln,vals h] [x] [L,N] [D] [] ⟨a8,a8,aD,trivial⟩ ⟨by lia,by lia,trivial⟩ ⟨hD,trivial⟩ trivial
 have hw':PN (k+2) 31 [.v (aw c ln),.v (.int x),.v (vals h)]=some (.list (N++[]),.v .undef):=by rw[List.append_nil];exact hw
 have H:FA (PN (k+2)) σ { item:=[(.dict 0,.i 0,.a 2)],call:=[(31,[aC (.a 0) (.a 1),.i 0,.a 2],.list (some 1) []),(28,[aC (.a 0) (.a 1),.i 0,.a 2],.list none [])] }:={ item:=⟨⟨hit,aD⟩,trivial⟩,call:=⟨⟨_,hw'⟩,⟨_,ht⟩,trivial⟩ }
 have e:=ag (lo:=0) (la:=1) (W:=1000) H (n:=39) (b:=stkW.take 3) (fr:=stS (.dict 0) (.list (some 0) [.i 0]) j (.k (j 6)) (.k (j 7))) (f:=.next) (fr':=[.v (aC (.a 0) (.a 1)),.dict 0,.list (some 0) [],.v (.i 0),.v (.a 2),.list (some 1) [],.v (.k (j 6)),.v (.k (j 7))]) (by kernel_rfl)
 refine⟨_,e,?_,?_⟩
 ·show some (Own.list (N++[]))=_
  rw[List.append_nil]
 ·show [Own.v (aw c ln),.dict D,.list (L++[]),.v (.int x),.v (vals h),.v (.list N),.v (j 6),.v (j 7)]=_
  rw[List.append_nil];rfl
theorem stk_loop(Y:Flow c hh):∀ (n:Nat) (ks ls:List Nat) (j:Nat→V),WInv (nxt c) c.length ks ls→ls.length+fh c.length ks<n→ls.length+fh c.length ks≤1000→
  ∃ ks' j',bL (sem (PN (k+3)) 0 1 1000 39) stkC stkW n (stF c ln (dct (fun x=>vals (hh x)) ks) (ae ls) j)=some (.next,stF c ln (dct (fun x=>vals (hh x)) ks') [] j')∧WInv (nxt c) c.length ks' []:=by
 intro n
 induction n with
 | zero=>intro ks ls j I h;lia
 | succ n ih=>
  intro ks ls j I hn hb
  have hc:c.length≤5000:=Nat.le_trans Y.cl (by decide)
  have hc2:=Y.cl
  have hk:=I.len
  have hD:(dct (fun x=>vals (hh x)) ks).length≤5000:=by rw[cI];lia
  rcases List.eq_nil_or_concat ls with rfl | ⟨ls,x,rfl⟩
  ·exact⟨ks,j,cB (stk_end hD),I⟩
  ·rw[List.concat_eq_append] at*
   rw[List.length_append,List.length_singleton] at hn hb
   have hx:x∈ks:=I.sub x (List.mem_append_right _ (List.mem_singleton.mpr rfl))
   obtain ⟨p,hp,fit,t1,t2,nx⟩:=Y.at' x (I.live x hx)
   have en:nxt c x=bI x p:=by unfold nxt;rw[hp]
   have hm:∀ s∈nxt c x,s<c.length:=fun s hs=>(nx s (en▸hs)).1
   have hL:(ae ls).length≤4000:=by rw[au];lia
   rw[cY]
   obtain ⟨fr,h1,h2,h3⟩:=stk_head (c:=c) (ln:=ln) (k:=k+1) (j:=j) (L:=ae ls) (D:=dct (fun x=>vals (hh x)) ks) (gi (f:=fun x=>vals (hh x)) hx) (waysA (k:=k+1) fit hp hc t1 t2) (thrown_ok (k:=k+1) hp hc) hL hD (by rw[List.length_map];have:=nxtO_len (pc:=x) (p:=p);lia)
   have hl2:=nxtO_len (pc:=x) (p:=p)
   have e4:(bI x p).map (fun s=>wayV s (hh x - tk p.1+pt p.1))=(bI x p).map fun s=>wayV s (hh s):=List.map_congr_left fun s hs=>by rw[(nx s hs).2]
   obtain ⟨j',h4⟩:=stk_for (ln:=ln) (k:=k+2) (hh:=hh) hc (bI x p) ks ls (upd (upd (upd j 3 (.int x)) 4 (vals (hh x))) 5 (.list ((bI x p).map fun s=>wayV s (hh x - tk p.1+pt p.1)))) (fun s hs=>(nx s hs).1) (by lia) (by lia)
   have A:=addK_ok (nx:=nxt c) (nxt c x) ks ls hm I.nd
   have I':=I.go hm
   rw[en] at A I'
   obtain ⟨ks',j2,h5,h6⟩:=ih (dR ks ls (bI x p)).1 (dR ks ls (bI x p)).2 j' I' (by have:=A.ms;lia) (by have:=A.ms;lia)
   refine⟨ks',j2,c6 (stk_test hL hD) (b7 (a:=stkW.take 3) h1 (ak (s:=.forr (.tup [.var 6,.var 7]) (.val (.var 5)) stkF) (r:=[]) (ac (it_var h2) ?_) rfl)) h5,h6⟩
   show cF _ _ _ _ _ (fr.set 5 _)=_
   rw[h3,e4]
   rw[e4] at h4
   exact h4
theorem stacks_ok(Y:Flow c hh):∃ ks,PN (k+4) 32 [.v (aw c ln)]=some (.dict (dct (fun x=>vals (hh x)) ks),.v .undef)∧WInv (nxt c) c.length ks []:=by
 have hc2:=Y.cl
 have ht:=todo_le (m:=c.length)
 have ht2:=fO (ks:=[]) Y.pos (by simp)
 obtain ⟨ks,j,h1,h2⟩:=stk_loop (ln:=ln) (k:=k) Y 1000 [0] [0] (fun _=>.undef) (.start Y.pos) (by simp at ht2 ⊢;lia) (by simp at ht2 ⊢;lia)
 refine⟨ks,?_,h2⟩
 let σ:=mkσ [.list (af c),.list ln] [] [] [[(0,.tup [])]] [] ⟨a8,a8,trivial⟩ trivial ⟨by decide,trivial⟩ trivial
 have H:FA (PN (k+3)) σ { dlit:=[([(.int 0,.tup [])],0)] }:={ dlit:=⟨rfl,trivial⟩ }
 have e1:=ag (lo:=0) (la:=1) (W:=1000) H (n:=40) (b:=f_stacks_of.body.take 1) (fr:=[.v (aC (.a 0) (.a 1)),.v .undef,.v .undef,.v .undef,.v .undef,.v .undef,.v .undef,.v .undef]) (f:=.next)
  (fr':=[.v (aC (.a 0) (.a 1)),.dict 0,.list none [.int 0],.v .undef,.v .undef,.v .undef,.v .undef,.v .undef]) (by kernel_rfl)
 have h0:(am σ [.v (aC (.a 0) (.a 1)),.dict 0,.list none [.int 0],.v .undef,.v .undef,.v .undef,.v .undef,.v .undef]:Fr)=stF c ln (dct (fun x=>vals (hh x)) [0]) (ae [0]) (fun _=>.undef):=by
  show stF c ln [(0,vals 0)] [.int 0] (fun _=>.undef)=stF c ln [(0,vals (hh 0))] [.int 0] (fun _=>.undef)
  rw[Y.h0]
 rw[h0] at e1
 rw[ao (fn:=f_stacks_of) rfl (by decide)]
 exact aq (fr:=_) rfl (b7 (a:=f_stacks_of.body.take 1) e1 (ak h1 (aW rfl)))
end
section
variable {c:Cd} {ln:List V} {k pc h:Nat} {hh:Nat→Nat}
theorem laterN{o:Nat}(ho:o∈bS)(hcode:c[pc]?=some (o,none))(hc:c.length≤5000):PN (k+2) 21 [.v (aw c ln),.v (.int pc)]=some (.list (ae (bI pc (o,none))),.v .undef):=by
 let σ:=mkσ [.list (af c),.list ln] [pc,(pc:Int)+1] [] [] [] ⟨a8,a8,trivial⟩ trivial trivial trivial
 have hA:o∈bS++cz:=List.mem_append_left _ ho
 let F:Nat→b6:=fun o=>{ item:=[(.a 0,.i 0,.tup [.int o,.none])],bin:=[(.add,.i 0,.int 1,.v (.i 1))],call:=[(5,[.int o],.v (.bool (lst o))),(2,[.int o],.v (.str []))] }
 have H:FA (PN (k+1)) σ (F o):={ item:=⟨⟨aQ hcode hc,aD⟩,trivial⟩,bin:=⟨add_int,trivial⟩,call:=⟨⟨_,last_A hA⟩,⟨_,kind_N ho⟩,trivial⟩ }
 rw[ao (fn:=f_later_places) rfl (by decide)]
 have e1:=cO (l:=bS) (f:=fun o=>fW (fw (F o) 0 1 40) f_later_places.body [.v (aC (.a 0) (.a 1)),.v (.i 0),.v .undef,.v .undef,.v .undef,.v .undef,.v .undef,.v .undef,.v .undef,.v .undef])
  (g:=fun o=>some (.ret (.list none (if lst o then [] else [.i 1])),[.v (aC (.a 0) (.a 1)),.v (.i 0),.v (.int o),.v .none,.v .undef,.v .undef,.v .undef,.v .undef,.v .undef,.v .undef])) (by kernel_rfl) o ho
 have e2:=ag (lo:=0) (la:=1) (W:=1000) H (n:=40) e1
 refine(aq (fn:=f_later_places) (la:=1) (args:=[.v (aw c ln),.v (.int pc)]) rfl e2).trans ?_
 by_cases hl:lst o=true
 ·simp only[hl,if_true,bI];rfl
 ·simp only[hl,bI];rfl
theorem laterJ{o s:Nat}(ho:o∈cz)(hcode:c[pc]?=some (o,some s))(hc:c.length≤5000):PN (k+2) 21 [.v (aw c ln),.v (.int pc)]=some (.list (ae (bI pc (o,some s))),.v .undef):=by
 let σ:=mkσ [.list (af c),.list ln] [pc,(pc:Int)+1,s] [] [] [] ⟨a8,a8,trivial⟩ trivial trivial trivial
 have hA:o∈bS++cz:=List.mem_append_right _ ho
 let F:Nat→b6:=fun o=>{ item:=[(.a 0,.i 0,.tup [.int o,.i 2])],bin:=[(.add,.i 0,.int 1,.v (.i 1))],call:=[(5,[.int o],.v (.bool (lst o))),(2,[.int o],.v (.str [116]))] }
 have H:FA (PN (k+1)) σ (F o):={ item:=⟨⟨aQ hcode hc,aD⟩,trivial⟩,bin:=⟨add_int,trivial⟩,call:=⟨⟨_,last_A hA⟩,⟨_,fF ho⟩,trivial⟩ }
 rw[ao (fn:=f_later_places) rfl (by decide)]
 have e1:=cO (l:=cz) (f:=fun o=>fW (fw (F o) 0 1 40) f_later_places.body [.v (aC (.a 0) (.a 1)),.v (.i 0),.v .undef,.v .undef,.v .undef,.v .undef,.v .undef,.v .undef,.v .undef,.v .undef])
  (g:=fun o=>some (.ret (.list none (if lst o then [.i 2] else [.i 1,.i 2])),[.v (aC (.a 0) (.a 1)),.v (.i 0),.v (.int o),.v (.i 2),.v .undef,.v .undef,.v .undef,.v .undef,.v .undef,.v .undef])) (by kernel_rfl) o ho
 have e2:=ag (lo:=0) (la:=1) (W:=1000) H (n:=40) e1
 refine(aq (fn:=f_later_places) (la:=1) (args:=[.v (aw c ln),.v (.int pc)]) rfl e2).trans ?_
 by_cases hl:lst o=true
 ·simp only[hl,if_true,bI];rfl
 ·simp only[hl,bI];rfl
theorem laterA{p:Nat×Option Nat}(hp:eH p)(hcode:c[pc]?=some p)(hc:c.length≤5000):PN (k+2) 21 [.v (aw c ln),.v (.int pc)]=some (.list (ae (bI pc p)),.v .undef):=by
 obtain ⟨o,a⟩:=p
 rcases hp with ⟨h2,h3⟩ | ⟨h2,s,h3⟩
 ·have h3:a=none:=h3
  subst h3;exact laterN h2 hcode hc
 ·have h3:a=some s:=h3
  subst h3;exact laterJ h2 hcode hc
noncomputable abbrev livW:List S:=bJ f_live_places.body 1
noncomputable abbrev livF:List S:=bJ livW 0
noncomputable abbrev livC:E:=cv f_live_places.body 1
noncomputable def tru(ks:List Nat):List (Int×V):=dct (fun _=>.bool true) ks
theorem fN{ks:List Nat}:(tru ks).length=ks.length:=cI
noncomputable def lvF(c:Cd)(ln:List V)(D:List (Int×V))(L:List V)(x:V):Fr:=[.v (aw c ln),.dict D,.list L,.v x]
noncomputable def lvS(d:SO)(l:SO)(x:SV):SFr:=[.v (aC (.a 0) (.a 1)),d,l,.v x]
theorem lt_yes{a b:Nat}(h:a<b):aH .lt (.int a) (.int b)=some true:=by
 show some (decide ((a:Int)<b))=_
 rw[decide_eq_true (by lia)]
theorem liv_turn{ks:List Nat}{L:List V}{s:Nat}(hs:s<c.length)(hc:c.length≤5000)(hL:L.length≤4000)(hk:ks.length≤4000):
  exs (sem (PN (k+1)) 0 1 1000 38) livF (lvF c ln (tru ks) L (.int s))=some (.next,lvF c ln (tru (if s∈ks then ks else ks++[s])) (if s∈ks then L else L++[.int s]) (.int s)):=by
 have hD:(tru ks).length≤5000:=by rw[fN];lia
 by_cases hin:s∈ks
 ·let σ:=mkσ [.list (af c),.list ln] [s,c.length] [L] [tru ks] [] ⟨a8,a8,trivial⟩ ⟨by lia,trivial⟩ ⟨hD,trivial⟩ trivial
  have H:FA (PN (k+1)) σ { len:=[(.a 0,.i 1)],cmp:=[(.lt,.i 0,.i 1,true),(.notIn,.i 0,.dict 0,false)] }:=
   { len:=⟨⟨_,bl hc,rfl⟩,trivial⟩,cmp:=⟨lt_yes hs,notIn_dct.trans (by rw[decide_eq_false (fun h=>h hin)]),trivial⟩ }
  rw[if_pos hin,if_pos hin]
  have e:=ag (lo:=0) (la:=1) (W:=1000) H (n:=38) (b:=livF) (fr:=lvS (.dict 0) (.list (some 0) []) (.i 0)) (f:=.next) (fr':=lvS (.dict 0) (.list (some 0) []) (.i 0)) (by kernel_rfl)
  have e2:am σ (lvS (.dict 0) (.list (some 0) []) (.i 0))=lvF c ln (tru ks) (L++[]) (.int s):=rfl
  rw[e2,List.append_nil] at e;exact e
 ·have hset:=dct_set (f:=fun _=>V.bool true) hin
  have hD2:(tru (ks++[s])).length≤5000:=by rw[fN,List.length_append,List.length_singleton];lia
  let σ:=mkσ [.list (af c),.list ln] [s,c.length] [L] [tru ks,tru (ks++[s])] [] ⟨a8,a8,trivial⟩ ⟨by lia,trivial⟩ ⟨hD,hD2,trivial⟩ trivial
  have H:FA (PN (k+1)) σ { len:=[(.a 0,.i 1)],cmp:=[(.lt,.i 0,.i 1,true),(.notIn,.i 0,.dict 0,true)],dset:=[(0,.i 0,.bool true,1)] }:=
   { len:=⟨⟨_,bl hc,rfl⟩,trivial⟩,cmp:=⟨lt_yes hs,notIn_dct.trans (by rw[decide_eq_true hin]),trivial⟩,dset:=⟨⟨_,rfl,hset.symm⟩,trivial⟩ }
  rw[if_neg hin,if_neg hin]
  have e:=ag (lo:=0) (la:=1) (W:=1000) H (n:=38) (b:=livF) (fr:=lvS (.dict 0) (.list (some 0) []) (.i 0)) (f:=.next) (fr':=lvS (.dict 1) (.list (some 0) [.i 0]) (.i 0)) (by kernel_rfl)
  have e2:am σ (lvS (.dict 0) (.list (some 0) []) (.i 0))=lvF c ln (tru ks) (L++[]) (.int s):=rfl
  rw[e2,List.append_nil] at e;exact e
theorem liv_for(hc:c.length≤5000)(news:List Nat):∀ (ks ls:List Nat) (x:V),(∀ s∈news,s<c.length)→ls.length+news.length≤4000→ks.length+news.length≤4000→
  ∃ x',cF (sem (PN (k+1)) 0 1 1000 38) 0 (.var 3) livF (ae news) (lvF c ln (tru ks) (ae ls) x)=some (.next,lvF c ln (tru (dR ks ls news).1) (ae (dR ks ls news).2) x'):=by
 induction news with
 | nil=>intro ks ls x _ _ _;exact⟨x,rfl⟩
 | cons s r ih=>
  intro ks ls x hs hl hk
  rw[List.length_cons] at hl hk
  have hr:∀ x∈r,x<c.length:=fun x hx=>hs x (List.mem_cons_of_mem _ hx)
  have T:=liv_turn (ln:=ln) (k:=k) (ks:=ks) (L:=ae ls) (hs s (List.mem_cons_self ..)) hc (by rw[au];lia) (by lia)
  by_cases hin:s∈ks
  ·rw[if_pos hin,if_pos hin] at T
   obtain ⟨x',h⟩:=ih ks ls (.int s) hr (by lia) (by lia)
   rw[dR,if_pos hin]
   exact⟨x',aS rfl T h⟩
  ·rw[if_neg hin,if_neg hin] at T
   obtain ⟨x',h⟩:=ih (ks++[s]) (ls++[s]) (.int s) hr (by rw[List.length_append,List.length_singleton];lia) (by rw[List.length_append,List.length_singleton];lia)
   rw[dR,if_neg hin]
   rw[cY] at h
   exact⟨x',aS rfl T h⟩
theorem liv_test{D:List (Int×V)}{L:List V}{x:Nat}{y:V}(hL:L.length≤4000)(hD:D.length≤5000):evB (sem (PN k) 0 1 1000 39) livC (lvF c ln D (L++[.int x]) y)=some (true,lvF c ln D (L++[.int x]) y):=by
 have hl:(L++[V.int x]).length=L.length+1:=by rw[List.length_append];rfl
 let σ:=mkσ [.list (af c),.list ln] [x,(L++[V.int x]).length] [L] [D] [] ⟨a8,a8,trivial⟩ ⟨by lia,trivial⟩ ⟨hD,trivial⟩ trivial
 have H:FA (PN k) σ { len:=[(.list (some 0) [.i 0],.i 1)],cmp:=[(.gt,.i 1,.int 0,true)] }:={ len:=⟨⟨_,len_list (l:=L++[V.int x]) (by lia),rfl⟩,trivial⟩,cmp:=⟨gt_yes (b:=0) (by lia),trivial⟩ }
 exact cH (lo:=0) (la:=1) (W:=1000) H (n:=39) (fr:=lvS (.dict 0) (.list (some 0) [.i 0]) (.k y)) (fr':=lvS (.dict 0) (.list (some 0) [.i 0]) (.k y)) (by kernel_rfl)
theorem liv_end{D:List (Int×V)}{y:V}(hD:D.length≤5000):evB (sem (PN k) 0 1 1000 39) livC (lvF c ln D [] y)=some (false,lvF c ln D [] y):=by
 let σ:=mkσ [.list (af c),.list ln] [] [] [D] [] ⟨a8,a8,trivial⟩ trivial ⟨hD,trivial⟩ trivial
 have H:FA (PN k) σ {}:={}
 exact cH (lo:=0) (la:=1) (W:=1000) H (n:=39) (fr:=lvS (.dict 0) (.list none []) (.k y)) (fr':=lvS (.dict 0) (.list none []) (.k y)) (by kernel_rfl)
theorem liv_it{D:List (Int×V)}{L N:List V}{x:Nat}{y:V}(hw:PN (k+2) 21 [.v (aw c ln),.v (.int x)]=some (.list N,.v .undef))(hL:L.length≤4000)(hD:D.length≤5000)(hN:N.length≤5000):
  bZ (sem (PN (k+2)) 0 1 1000 38) (.val (.call 21 [.var 0,.pop (.var 2) none])) (lvF c ln D (L++[.int x]) y)=some (N,lvF c ln D L y):=by
 let σ:=mkσ [.list (af c),.list ln,.list N] [x] [L] [D] [] ⟨a8,a8,a8,trivial⟩ ⟨by lia,trivial⟩ ⟨hD,trivial⟩ trivial
 have hw':PN (k+2) 21 [.v (aw c ln),.v (.int x)]=some (.list (N++[]),.v .undef):=by rw[List.append_nil];exact hw
 let σ:=mkσ [.list (af c),.list ln] [x] [L,N] [D] [] ⟨a8,a8,trivial⟩ ⟨by lia,by lia,trivial⟩ ⟨hD,trivial⟩ trivial
 have H:FA (PN (k+2)) σ { call:=[(21,[aC (.a 0) (.a 1),.i 0],.list (some 1) [])] }:={ call:=⟨⟨_,hw'⟩,trivial⟩ }
 have e:=bu (lo:=0) (la:=1) (W:=1000) H (n:=38) (e:=.call 21 [.var 0,.pop (.var 2) none]) (fr:=lvS (.dict 0) (.list (some 0) [.i 0]) (.k y)) (o:=.list (some 1) []) (fr':=lvS (.dict 0) (.list (some 0) []) (.k y)) (by kernel_rfl)
 have e':evV (sem (PN (k+2)) 0 1 1000 38) (.call 21 [.var 0,.pop (.var 2) none]) (lvF c ln D (L++[.int x]) y)=some (.list (N++[]),lvF c ln D (L++[]) y):=e
 rw[List.append_nil,List.append_nil] at e'
 exact ac e' rfl
theorem liv_loop(cl:c.length≤200)(Y:∀ pc,dT (nxt c) pc→∃ p,c[pc]?=some p∧eH p∧∀ s∈bI pc p,s<c.length):∀ (n:Nat) (ks ls:List Nat) (y:V),WInv (nxt c) c.length ks ls→ls.length+fh c.length ks<n→ls.length+fh c.length ks≤1000→
  ∃ ks' y',bL (sem (PN (k+3)) 0 1 1000 39) livC livW n (lvF c ln (tru ks) (ae ls) y)=some (.next,lvF c ln (tru ks') [] y')∧WInv (nxt c) c.length ks' []:=by
 intro n
 induction n with
 | zero=>intro ks ls y I h;lia
 | succ n ih=>
  intro ks ls y I hn hb
  have hc:c.length≤5000:=Nat.le_trans cl (by decide)
  have hk:=I.len
  have hD:(tru ks).length≤5000:=by rw[fN];lia
  rcases List.eq_nil_or_concat ls with rfl | ⟨ls,x,rfl⟩
  ·exact⟨ks,y,cB (liv_end hD),I⟩
  ·rw[List.concat_eq_append] at*
   rw[List.length_append,List.length_singleton] at hn hb
   have hx:x∈ks:=I.sub x (List.mem_append_right _ (List.mem_singleton.mpr rfl))
   obtain ⟨p,hp,fit,nx⟩:=Y x (I.live x hx)
   have en:nxt c x=bI x p:=by unfold nxt;rw[hp]
   have hm:∀ s∈nxt c x,s<c.length:=fun s hs=>nx s (en▸hs)
   have hL:(ae ls).length≤4000:=by rw[au];lia
   rw[cY]
   have hl2:=nxtO_len (pc:=x) (p:=p)
   have hi:=liv_it (c:=c) (ln:=ln) (k:=k+1) (y:=y) (L:=ae ls) (D:=tru ks) (laterA (k:=k+1) fit hp hc) hL hD (by rw[au];lia)
   obtain ⟨y',h4⟩:=liv_for (ln:=ln) (k:=k+2) hc (bI x p) ks ls y nx (by lia) (by lia)
   have A:=addK_ok (nx:=nxt c) (nxt c x) ks ls hm I.nd
   have I':=I.go hm
   rw[en] at A I'
   obtain ⟨ks',y2,h5,h6⟩:=ih (dR ks ls (bI x p)).1 (dR ks ls (bI x p)).2 y' I' (by have:=A.ms;lia) (by have:=A.ms;lia)
   exact⟨ks',y2,c6 (liv_test hL hD) (ak (s:=.forr (.var 3) (.val (.call 21 [.var 0,.pop (.var 2) none])) livF) (r:=[]) (ac hi h4) rfl) h5,h6⟩
theorem live_ok(cl:c.length≤200)(pos:0<c.length)(Y:∀ pc,dT (nxt c) pc→∃ p,c[pc]?=some p∧eH p∧∀ s∈bI pc p,s<c.length):∃ ks,PN (k+4) 22 [.v (aw c ln)]=some (.dict (tru ks),.v .undef)∧WInv (nxt c) c.length ks []:=by
 have ht:=todo_le (m:=c.length)
 have ht2:=fO (ks:=[]) pos (by simp)
 obtain ⟨ks,y,h1,h2⟩:=liv_loop (ln:=ln) (k:=k) cl Y 1000 [0] [0] .undef (.start pos) (by simp at ht2 ⊢;lia) (by simp at ht2 ⊢;lia)
 refine⟨ks,?_,h2⟩
 let σ:=mkσ [.list (af c),.list ln] [] [] [[(0,.bool true)]] [] ⟨a8,a8,trivial⟩ trivial ⟨by decide,trivial⟩ trivial
 have H:FA (PN (k+3)) σ { dlit:=[([(.int 0,.bool true)],0)] }:={ dlit:=⟨rfl,trivial⟩ }
 have e1:=ag (lo:=0) (la:=1) (W:=1000) H (n:=40) (b:=f_live_places.body.take 1) (fr:=[.v (aC (.a 0) (.a 1)),.v .undef,.v .undef,.v .undef]) (f:=.next)
  (fr':=[.v (aC (.a 0) (.a 1)),.dict 0,.list none [.int 0],.v .undef]) (by kernel_rfl)
 rw[ao (fn:=f_live_places) rfl (by decide)]
 exact aq (fr:=_) rfl (b7 (a:=f_live_places.body.take 1) e1 (ak h1 (aW rfl)))
end
noncomputable def ah(n:Nat):List V:=List.replicate n (.int 0)
theorem zeros_len{n:Nat}:(ah n).length=n:=List.length_replicate
noncomputable def bP(co li ha:O1):Own:=.inst 1 [.v (.str [98,108,111,99,107,115]),.v (.list []),.v (.bool false),co,li,.v .undef,.list [],.list [],.v .undef,ha,.v (.int 0),.v (.int 0),.list [],.v (.bool false),.v .none,.v .none,.list []]
noncomputable def ft(co li ha:SO1):SO:=.inst 1 [.v (.str [98,108,111,99,107,115]),.v (.list none []),.v (.bool false),co,li,.v .undef,.list none [],.list none [],.v .undef,ha,.v (.int 0),.v (.int 0),.list none [],.v (.bool false),.v .none,.v .none,.list none []]
theorem d9{α β:Type}{a:Option α}{f:α→Option β}{r:Option β}{x:α}(h:a=some x)(h2:f x=r):a.bind f=r:=by rw[h];exact h2
section
variable {Φ:Nat→List Own→Option (Own×Own)} {lo la W n:Nat}
theorem cZ{R:Rec}{t:T}{elt:E}{x y:V}{xs acc:List V}{fr fr1 fr2:Fr}{p:Option (List V×Fr)}(h1:cj lo t x fr=some fr1)(h2:evV R elt fr1=some (y,fr2))(ha:acc.length<5001)(h3:bt R lo t none elt xs (acc++[y]) fr2=p):bt R lo t none elt (x::xs) acc fr=p:=
 d9 h1 (d9 (a:=some (true,fr1)) rfl (d9 h2 ((if_pos (Nat.lt_of_lt_of_le ha (by decide))).trans h3)))
theorem comp_yes{R:Rec}{t:T}{elt c:E}{x y:V}{xs acc:List V}{fr fr1 fr2 fr3:Fr}{p:Option (List V×Fr)}(h1:cj lo t x fr=some fr1)(hc:evB R c fr1=some (true,fr2))(h2:evV R elt fr2=some (y,fr3))(ha:acc.length<5001)(h3:bt R lo t (some c) elt xs (acc++[y]) fr3=p):bt R lo t (some c) elt (x::xs) acc fr=p:=
 d9 h1 (d9 hc (d9 h2 ((if_pos (Nat.lt_of_lt_of_le ha (by decide))).trans h3)))
theorem comp_no{R:Rec}{t:T}{elt c:E}{x:V}{xs acc:List V}{fr fr1 fr2:Fr}{p:Option (List V×Fr)}(h1:cj lo t x fr=some fr1)(hc:evB R c fr1=some (false,fr2))(h3:bt R lo t (some c) elt xs acc fr2=p):bt R lo t (some c) elt (x::xs) acc fr=p:=
 d9 h1 (d9 hc h3)
theorem it_rng2{R:Rec}{e e2:E}{fr fr1 fr2:Fr}{l h:Int}(h1:evV R e fr=some (.int l,fr1))(h2:evV R e2 fr1=some (.int h,fr2))(hh:0≤l∧l≤5001∧0≤h∧h≤5001):bZ R (.range (some e) e2) fr=some (b9 l h,fr2):=
 d9 h1 (d9 h2 (if_pos (decide_eq_true (by omega))))
theorem cw{t:T}{it:It}{c:Option E}{elt:E}{fr fr1 fr2:Fr}{xs ys:List V}(h:bZ (sem Φ lo la W n) it fr=some (xs,fr1))(h2:bt (sem Φ lo la W n) lo t c elt xs [] (t.clear fr1)=some (ys,fr2)):(sem Φ lo la W (n+1)).ev (.comp t it c elt) fr=some (.list ys,t.clear fr2):=ac h (ac h2 rfl)
theorem b8{R:Rec}{e:E}{fr fr1:Fr}{o:Own}(h:R.ev e fr=some (o,fr1)):evV R e fr=some (o.frz,fr1):=ac h rfl
theorem fc{t:T}{it:It}{c:Option E}{elt:E}{fr fr1:Fr}{l:List V}{q:Prim}{o:Own}(h:(sem Φ lo la W n).ev (.comp t it c elt) fr=some (.list l,fr1))(h2:prim q (.list l)=some o):(sem Φ lo la W (n+1)).ev (.prim q (.comp t it c elt)) fr=some (o,fr1):=
 ac (a:=evH (sem Φ lo la W n) (.comp t it c elt) fr) (ac (b8 h) rfl) (ac (x:=.list l) rfl (ac h2 rfl))
theorem ret_prim{q:Prim}{e:E}{fr fr1:Fr}{o:Own}(h:(sem Φ lo la W n).ev (.prim q e) fr=some (o,fr1)):(sem Φ lo la W (n+1)).ex (.ret (.prim q e)) fr=some (.ret o,fr1):=ac h rfl
end
section
variable {c:Cd} {ln:List V} {k pc h:Nat}
theorem head_ok:PN (k+2) 16 [.v (aw c ln)]=some (bP (.list []) (.list []) (.list []),.v .undef):=by kernel_rfl
theorem withc_ok{l2:List V}(hl:ln.length≤5000):PN (k+3) 19 [.v (aw c ln),.v (.list l2)]=some (bP (.v (.list l2)) (.list ln) (.list []),.v .undef):=by
 let σ:=mkσ [.list (af c),.list l2] [] [ln] [] [] ⟨a8,a8,trivial⟩ ⟨hl,trivial⟩ trivial trivial
 have hh:PN (k+2) 16 [.v (aw c (ln++[]))]=some (bP (.list []) (.list []) (.list []),.v .undef):=head_ok
 have H:FA (PN (k+2)) σ { call:=[(16,[aC (.a 0) (.list (some 0) [])],ft (.list none []) (.list none []) (.list none []))] }:={ call:=⟨⟨_,hh⟩,trivial⟩ }
 have e:=ag (lo:=0) (la:=1) (W:=1000) H (n:=40) (b:=f_with_code.body) (fr:=[.v (aC (.a 0) (.list (some 0) [])),.v (.a 1),.v .undef]) (f:=.ret (ft (.v (.a 1)) (.list (some 0) []) (.list none [])))
  (fr':=[.v (aC (.a 0) (.list (some 0) [])),.v (.a 1),.v .undef]) (by kernel_rfl)
 rw[ao (fn:=f_with_code) rfl (by decide)]
 have:=aq (fn:=f_with_code) (la:=1) (args:=[.v (aw c (ln++[])),.v (.list l2)]) rfl e
 rw[List.append_nil] at this
 refine this.trans ?_
 show some (bP (.v (.list l2)) (.list (ln++[])) (.list []),_)=_
 rw[List.append_nil];rfl
theorem zero_at{n:Nat}(h:pc<n)(hn:n≤5000):V.item (.list (ah n)) (.int pc)=some (.int 0):=item_list (by unfold ah;rw[List.getElem?_replicate,if_pos h]) (by rw[zeros_len];exact hn)
theorem line_ok{n:Nat}(h:pc<n)(hn:n≤5000):PN (k+1) 17 [.v (aw c (ah n)),.v (.int pc)]=some (.v (.int 0),.v .undef):=by
 let σ:=mkσ [.list (af c),.list (ah n)] [pc,n] [] [] [] ⟨a8,a8,trivial⟩ trivial trivial trivial
 have H:FA (PN k) σ { item:=[(.a 1,.i 0,.int 0)],len:=[(.a 1,.i 1)],cmp:=[(.lt,.i 0,.i 1,true)] }:=
  { item:=⟨⟨zero_at h hn,aL⟩,trivial⟩,len:=⟨⟨_,len_list (l:=ah n) (by rw[zeros_len];exact hn),congrArg (fun n:Nat=>V.int n) zeros_len.symm⟩,trivial⟩,cmp:=⟨lt_yes h,trivial⟩ }
 rw[ao (fn:=f_line_at) rfl (by decide)]
 exact aq (fn:=f_line_at) (la:=1) (args:=[.v (aw c (ah n)),.v (.int pc)]) rfl (ag (lo:=0) (la:=1) (W:=1000) H (n:=40) (b:=f_line_at.body) (fr:=[.v (aC (.a 0) (.a 1)),.v (.i 0)]) (f:=.ret (.v (.int 0))) (fr':=[.v (aC (.a 0) (.a 1)),.v (.i 0)]) (by kernel_rfl))
noncomputable def gd(c:Cd)(ks:List Nat)(pc:Nat):Bool:=match c[pc]? with
 | some (58,some a)=>decide (pc<a)&&(List.range (a - (pc+1))).all fun i=>decide (pc+1+i∉ks)
 | _=>false
theorem le_int{a b:Nat}:aH .le (.int a) (.int b)=some (decide (a≤b)):=by
 show some (decide ((a:Int)≤b))=_
 simp
theorem idle_no{p:Nat×Option Nat}{ks:List Nat}(hcode:c[pc]?=some p)(ho:p.1≠58∨∃ a,p=(58,some a)∧a≤pc)(hc:c.length≤5000)(hk:ks.length≤5000):PN (k+1) 23 [.v (aw c ln),.v (.dict (tru ks)),.v (.int pc)]=some (.v (.bool false),.v .undef):=by
 rw[ao (fn:=f_is_idle) rfl (by decide)]
 rcases ho with ho | ⟨a,rfl,ha⟩
 ·obtain ⟨o,a⟩:=p
  let σ:=mkσ [.list (af c),enc a,.list ln,.dict (tru ks)] [pc,o] [] [] [] ⟨a8,cX,a8,nd_dict,trivial⟩ trivial trivial trivial
  have H:FA (PN k) σ { item:=[(.a 0,.i 0,.tup [.i 1,.a 1])],cmp:=[(.ne,.i 1,.int 58,true)] }:={ item:=⟨⟨aQ hcode hc,aD⟩,trivial⟩,cmp:=⟨ne_yes (a:=(o:Int)) (b:=58) (by have:o≠58:=ho;lia),trivial⟩ }
  exact aq (fn:=f_is_idle) (la:=1) (args:=[.v (aw c ln),.v (.dict (tru ks)),.v (.int pc)]) rfl (ag (lo:=0) (la:=1) (W:=1000) H (n:=40) (b:=f_is_idle.body) (fr:=[.v (aC (.a 0) (.a 2)),.v (.a 3),.v (.i 0),.v .undef,.v .undef,.v .undef]) (f:=.ret (.v (.bool false))) (fr':=[.v (aC (.a 0) (.a 2)),.v (.a 3),.v (.i 0),.v (.i 1),.v (.a 1),.v .undef]) (by kernel_rfl))
 ·let σ:=mkσ [.list (af c),.list ln,.dict (tru ks)] [pc,a] [] [] [] ⟨a8,a8,nd_dict,trivial⟩ trivial trivial trivial
  have H:FA (PN k) σ { item:=[(.a 0,.i 0,.tup [.int 58,.i 1])],cmp:=[(.le,.i 1,.i 0,true)] }:={ item:=⟨⟨aQ hcode hc,aD⟩,trivial⟩,cmp:=⟨le_int.trans (by rw[decide_eq_true ha]),trivial⟩ }
  exact aq (fn:=f_is_idle) (la:=1) (args:=[.v (aw c ln),.v (.dict (tru ks)),.v (.int pc)]) rfl (ag (lo:=0) (la:=1) (W:=1000) H (n:=40) (b:=f_is_idle.body) (fr:=[.v (aC (.a 0) (.a 1)),.v (.a 2),.v (.i 0),.v .undef,.v .undef,.v .undef]) (f:=.ret (.v (.bool false))) (fr':=[.v (aC (.a 0) (.a 1)),.v (.a 2),.v (.i 0),.v (.int 58),.v (.i 1),.v .undef]) (by kernel_rfl))
noncomputable def idF(c:Cd)(ln:List V)(ks:List Nat)(pc a:Nat)(x:V):Fr:=[.v (aw c ln),.v (.dict (tru ks)),.v (.int pc),.v (.int 58),.v (.int a),.v x]
theorem idle_comp{ks:List Nat}{a:Nat}{Φ:Nat→List Own→Option (Own×Own)}{n:Nat}(l:List Nat):∀ (acc:List V) (x:V),acc.length+l.length≤5000→
  ∃ y,bt (sem Φ 0 1 1000 (n+3)) 0 (.var 5) none (.cmp .notIn (.var 5) (.var 1)) (l.map fun (i:Nat)=>.int ((pc:Int)+1+(i:Int))) acc (idF c ln ks pc a x)=some (acc++l.map fun i=>.bool (decide (pc+1+i∉ks)),idF c ln ks pc a y):=by
 induction l with
 | nil=>intro acc x _;exact⟨x,by rw[List.map_nil,List.map_nil,List.append_nil];rfl⟩
 | cons i l ih=>
  intro acc x h
  rw[List.length_cons] at h
  obtain ⟨y,hy⟩:=ih (acc++[.bool (decide (pc+1+i∉ks))]) (.int ((pc:Int)+1+(i:Int))) (by rw[List.length_append,List.length_singleton];lia)
  have hn:aH .notIn (.int ((pc:Int)+1+(i:Int))) (.dict (tru ks))=some (decide (pc+1+i∉ks)):=notIn_dct (r:=pc+1+i)
  have hev:evV (sem Φ 0 1 1000 (n+3)) (.cmp .notIn (.var 5) (.var 1)) (idF c ln ks pc a (.int ((pc:Int)+1+(i:Int))))=some (.bool (decide (pc+1+i∉ks)),idF c ln ks pc a (.int ((pc:Int)+1+(i:Int)))):=
by
   let σ:=mkσ [.list (af c),.list ln,.dict (tru ks)] [pc,a,(pc:Int)+1+(i:Int)] [] [] [] ⟨a8,a8,nd_dict,trivial⟩ trivial trivial trivial
   have H:FA Φ σ { cmp:=[(.notIn,.i 2,.a 2,decide (pc+1+i∉ks))] }:={ cmp:=⟨hn,trivial⟩ }
   exact bu (lo:=0) (la:=1) (W:=1000) H (n:=n+3) (fr:=[.v (aC (.a 0) (.a 1)),.v (.a 2),.v (.i 0),.v (.int 58),.v (.i 1),.v (.i 2)]) (o:=.bool (decide (pc+1+i∉ks))) (fr':=[.v (aC (.a 0) (.a 1)),.v (.a 2),.v (.i 0),.v (.int 58),.v (.i 1),.v (.i 2)]) (by kernel_rfl)
  refine⟨y,(cZ (fr1:=idF c ln ks pc a (.int ((pc:Int)+1+(i:Int)))) rfl hev (by lia) hy).trans ?_⟩
  rw[List.append_assoc];rfl
theorem bools_ok{α:Type}{f:α→Bool}(l:List α):dk (l.map fun i=>.bool (f i))=some (l.map f):=by
 induction l with
 | nil=>rfl
 | cons x l ih=>show (dk _).bind _=_;rw[ih];rfl
theorem idle_go{ks:List Nat}{a:Nat}(hcode:c[pc]?=some (58,some a))(ha:pc<a)(hc:c.length≤5000)(h2:a≤5000):PN (k+1) 23 [.v (aw c ln),.v (.dict (tru ks)),.v (.int pc)]=some (.v (.bool (gd c ks pc)),.v .undef):=by
 have hp:=ai hcode
 rw[ao (fn:=f_is_idle) rfl (by decide)]
 let σ:=mkσ [.list (af c),.list ln,.dict (tru ks)] [pc,a,(pc:Int)+1] [] [] [] ⟨a8,a8,nd_dict,trivial⟩ trivial trivial trivial
 have H:FA (PN k) σ { item:=[(.a 0,.i 0,.tup [.int 58,.i 1])],cmp:=[(.le,.i 1,.i 0,false)],bin:=[(.add,.i 0,.int 1,.v (.i 2))] }:={ item:=⟨⟨aQ hcode hc,aD⟩,trivial⟩,cmp:=⟨le_int.trans (by rw[decide_eq_false (by lia)]),trivial⟩,bin:=⟨add_int,trivial⟩ }
 let s0:SFr:=[.v (aC (.a 0) (.a 1)),.v (.a 2),.v (.i 0),.v (.int 58),.v (.i 1),.v .undef]
 have e1:=ag (lo:=0) (la:=1) (W:=1000) H (n:=40) (b:=f_is_idle.body.take 2) (fr:=[.v (aC (.a 0) (.a 1)),.v (.a 2),.v (.i 0),.v .undef,.v .undef,.v .undef]) (f:=.next) (fr':=s0) (by kernel_rfl)
 have eA:=bu (lo:=0) (la:=1) (W:=1000) H (n:=37) (e:=.bin .add (.var 2) (.const (.int 1))) (fr:=s0) (o:=.i 2) (fr':=s0) (by kernel_rfl)
 have eB:=bu (lo:=0) (la:=1) (W:=1000) H (n:=37) (e:=.var 4) (fr:=s0) (o:=.i 1) (fr':=s0) (by kernel_rfl)
 have hf:am σ s0=idF c ln ks pc a .undef:=rfl
 rw[hf] at eA eB e1
 have hr:b9 ((pc:Int)+1) a=(List.range (a - (pc+1))).map fun (i:Nat)=>.int ((pc:Int)+1+(i:Int)):=by
  unfold b9
  rw[show ((a:Int) - ((pc:Int)+1)).toNat=a - (pc+1) from Int.toNat_sub a (pc+1)]
 have hit:=it_rng2 (l:=(pc:Int)+1) (h:=a) eA eB (by lia)
 rw[hr] at hit
 obtain ⟨y,hcp⟩:=idle_comp (c:=c) (ln:=ln) (pc:=pc) (ks:=ks) (a:=a) (Φ:=PN k) (n:=34) (List.range (a - (pc+1))) [] .undef (by rw[List.length_range,List.length_nil,Nat.zero_add];exact Nat.le_trans (Nat.sub_le ..) (Nat.le_trans h2 (by decide)))
 have hv:=cw (n:=37) hit hcp
 have hi:gd c ks pc=(List.range (a - (pc+1))).all fun i=>decide (pc+1+i∉ks):=by
  unfold gd
  rw[hcode]
  show (decide (pc<a)&&_)=_
  rw[decide_eq_true ha,Bool.true_and]
 have hall:Mine.prim .all (.list ((List.range (a - (pc+1))).map fun i=>.bool (decide (pc+1+i∉ks))))=some (.v (.bool (gd c ks pc))):=by
  show (if ((List.range (a - (pc+1))).map fun i=>V.bool (decide (pc+1+i∉ks))).length≤cap then (dk ((List.range (a - (pc+1))).map fun i=>V.bool (decide (pc+1+i∉ks)))).bind (fun x=>some (Own.v (.bool (x.all id)))) else none)=_
  rw[bools_ok,if_pos (by rw[List.length_map,List.length_range];unfold cap;lia),hi]
  show some (Own.v (.bool ((List.map _ _).all id)))=_
  rw[List.all_map];rfl
 have hret:=ret_prim (n:=39) (fc (n:=38) hv hall)
 exact aq (fn:=f_is_idle) (la:=1) (args:=[.v (aw c ln),.v (.dict (tru ks)),.v (.int pc)]) rfl (b7 (a:=f_is_idle.body.take 2) e1 (aW hret))
end
theorem ed{Φ:Nat→List Own→Option (Own×Own)}{lo la W n i:Nat}{fr:Fr}{l:List V}(h:fr[i]?=some (.v (.list l))):bZ (sem Φ lo la W (n+1)) (.val (.var i)) fr=some (l,fr.set i (.v (.list l))):=by
 show ((fr[i]?.bind _).bind _).bind _=_
 rw[h];rfl
theorem cu{Φ:Nat→List Own→Option (Own×Own)}{lo la W n:Nat}{t:T}{it:It}{b:List S}{fr fr1:Fr}{l:List V}{p:Option (Fl×Fr)}(h:bZ (sem Φ lo la W n) it fr=some (l,fr1))(h2:cF (sem Φ lo la W n) lo t b l fr1=p):(sem Φ lo la W (n+1)).ex (.forr t it b) fr=p:=d9 h h2
theorem dY{Φ:Nat→List Own→Option (Own×Own)}{lo la W n i:Nat}{fr:Fr}{o:Own}{v:V}(h:fr[i]?=some o)(h2:o.frz.ok=some v)(h3:la≤i):(sem Φ lo la W (n+1)).ex (.ret (.var i)) fr=some (.ret o,fr.set i (.v .undef)):=d9 h (d9 h2 (if_pos h3))
noncomputable def cJ(p:Nat×Option Nat):V:=.tup [.int p.1,enc p.2,.int 0]
noncomputable def du(f:Nat→Nat)(p:Nat×Option Nat):Nat×Option Nat:=(p.1,p.2.map f)
theorem ne_nilL{l:List V}(h:0<l.length):aH .ne (.list l) (.list [])=some true:=by
 cases l with
 | nil=>cases h
 | cons x l=>rfl
section
variable {c:Cd} {ln:List V} {k pc h n:Nat}
noncomputable abbrev rbB:List S:=bJ f_rebuilt.body 1
noncomputable def rbF(c:Cd)(n:Nat)(R P C Z:List V)(x y z:V):Fr:=[.v (aw c (ah n)),.v (.list R),.v (.list P),.v (.list []),bP (.list C) (.list Z) (.list []),.v x,.v y,.v z,.v .undef,.v .undef,.v .undef,.v .undef,.v .undef]
noncomputable def rbS(co li:SO1)(x y z:SV):SFr:=[.v (aC (.a 0) (.a 1)),.v (.a 2),.v (.a 3),.v (.list none []),ft co li (.list none []),.v x,.v y,.v z,.v .undef,.v .undef,.v .undef,.v .undef,.v .undef]
theorem rb_turn{R P C Z:List V}{f:Nat→Nat}{p:Nat×Option Nat}(fit:eH p)(hP:∀ s,p.2=some s→V.item (.list P) (.int s)=some (.int (f s)))(hn:0<n)(hC:C.length≤4000)(hZ:Z.length≤4000):
  exs (sem (PN (k+2)) 0 1 1000 39) rbB (rbF c n R P C Z (.int p.1) (enc p.2) (.int 0))=some (.next,rbF c n R P (C++[encI (du f p)]) (Z++[.int 0]) (.int p.1) (enc p.2) (.int 0)):=by
 obtain ⟨o,a⟩:=p
 have hne:aH .ne (.list (ah n)) (.list [])=some true:=ne_nilL (by rw[zeros_len];exact hn)
 have e0:∀ y,rbF c n R P (C++[]) (Z++[]) (.int o) y (.int 0)=rbF c n R P C Z (.int o) y (.int 0):=fun y=>by rw[List.append_nil,List.append_nil]
 rcases fit with ⟨ho,ha⟩ | ⟨ho,s,ha⟩
 ·have ha:a=none:=ha
  subst ha
  let σ:=mkσ [.list (af c),.list (ah n),.list R,.list P] [] [C,Z] [] [] ⟨a8,a8,a8,a8,trivial⟩ ⟨by lia,by lia,trivial⟩ trivial trivial
  let F:Nat→b6:=fun o=>{ cmp:=[(.ne,.a 1,.list none [],true)],call:=[(2,[.int o],.v (.str []))] }
  have H:FA (PN (k+2)) σ (F o):={ cmp:=⟨hne,trivial⟩,call:=⟨⟨_,kind_N ho⟩,trivial⟩ }
  have e:=ag (lo:=0) (la:=1) (W:=1000) H (n:=39) (cO (l:=bS) (f:=fun o=>fW (fw (F o) 0 1 39) rbB (rbS (.list (some 0) []) (.list (some 1) []) (.int o) .none (.int 0)))
   (g:=fun o=>some (.next,rbS (.list (some 0) [.tup [.int o,.none]]) (.list (some 1) [.int 0]) (.int o) .none (.int 0))) (by kernel_rfl) o ho)
  have e2:am σ (rbS (.list (some 0) []) (.list (some 1) []) (.int o) .none (.int 0))=rbF c n R P (C++[]) (Z++[]) (.int o) .none (.int 0):=rfl
  rw[e2,e0] at e;exact e
 ·have ha:a=some s:=ha
  subst ha
  let σ:=mkσ [.list (af c),.list (ah n),.list R,.list P] [s,f s] [C,Z] [] [] ⟨a8,a8,a8,a8,trivial⟩ ⟨by lia,by lia,trivial⟩ trivial trivial
  let F:Nat→b6:=fun o=>{ item:=[(.a 3,.i 0,.i 1)],cmp:=[(.ne,.a 1,.list none [],true)],call:=[(2,[.int o],.v (.str [116]))] }
  have H:FA (PN (k+2)) σ (F o):={ item:=⟨⟨hP s rfl,aL⟩,trivial⟩,cmp:=⟨hne,trivial⟩,call:=⟨⟨_,fF ho⟩,trivial⟩ }
  have e:=ag (lo:=0) (la:=1) (W:=1000) H (n:=39) (cO (l:=cz) (f:=fun o=>fW (fw (F o) 0 1 39) rbB (rbS (.list (some 0) []) (.list (some 1) []) (.int o) (.i 0) (.int 0)))
   (g:=fun o=>some (.next,rbS (.list (some 0) [.tup [.int o,.i 1]]) (.list (some 1) [.int 0]) (.int o) (.i 0) (.int 0))) (by kernel_rfl) o ho)
  have e2:am σ (rbS (.list (some 0) []) (.list (some 1) []) (.int o) (.i 0) (.int 0))=rbF c n R P (C++[]) (Z++[]) (.int o) (.int s) (.int 0):=rfl
  rw[e2,e0] at e;exact e
theorem rb_for{R P:List V}{f:Nat→Nat}(hn:0<n)(rows:Cd):∀ (C Z:List V) (x y z:V),(∀ p∈rows,eH p∧∀ s,p.2=some s→V.item (.list P) (.int s)=some (.int (f s)))→C.length+rows.length≤4000→Z.length+rows.length≤4000→
  ∃ x' y' z',cF (sem (PN (k+2)) 0 1 1000 39) 0 (.tup [.var 5,.var 6,.var 7]) rbB (rows.map cJ) (rbF c n R P C Z x y z)=some (.next,rbF c n R P (C++af (rows.map (du f))) (Z++ah rows.length) x' y' z'):=by
 induction rows with
 | nil=>intro C Z x y z _ _ _;exact⟨x,y,z,by show some (Fl.next,_)=some (Fl.next,rbF c n R P (C++[]) (Z++[]) x y z);rw[List.append_nil,List.append_nil]⟩
 | cons p r ih=>
  intro C Z x y z hp hC hZ
  rw[List.length_cons] at hC hZ
  obtain ⟨x',y',z',h⟩:=ih (C++[encI (du f p)]) (Z++[.int 0]) (.int p.1) (enc p.2) (.int 0) (fun q hq=>hp q (List.mem_cons_of_mem _ hq)) (by rw[List.length_append,List.length_singleton];lia) (by rw[List.length_append,List.length_singleton];lia)
  obtain ⟨h1,h2⟩:=hp p (List.mem_cons_self ..)
  have T:=rb_turn (c:=c) (k:=k) (R:=R) (P:=P) (C:=C) (Z:=Z) (f:=f) h1 h2 hn (by lia) (by lia)
  refine⟨x',y',z',aS (fr1:=rbF c n R P C Z (.int p.1) (enc p.2) (.int 0)) rfl T (h.trans ?_)⟩
  rw[List.append_assoc,List.append_assoc];rfl
theorem rebuilt_ok{P:List V}{f:Nat→Nat}{rows:Cd}(hn:0<n)(hp:∀ p∈rows,eH p∧∀ s,p.2=some s→V.item (.list P) (.int s)=some (.int (f s)))(hr:rows.length≤4000):
  PN (k+3) 18 [.v (aw c (ah n)),.v (.list (rows.map cJ)),.v (.list P),.v (.list [])]=some (bP (.list (af (rows.map (du f)))) (.list (ah rows.length)) (.list []),.v .undef):=by
 obtain ⟨x,y,z,h⟩:=rb_for (c:=c) (k:=k) (n:=n) (R:=rows.map cJ) (P:=P) (f:=f) hn rows [] [] .undef .undef .undef hp (by simpa using hr) (by simpa using hr)
 let σ:=mkσ [.list (af c),.list (ah n),.list (rows.map cJ),.list P] [] [] [] [] ⟨a8,a8,a8,a8,trivial⟩ trivial trivial trivial
 have H:FA (PN (k+2)) σ { call:=[(16,[aC (.a 0) (.a 1)],ft (.list none []) (.list none []) (.list none []))] }:={ call:=⟨⟨_,head_ok⟩,trivial⟩ }
 have e1:=ag (lo:=0) (la:=1) (W:=1000) H (n:=40) (b:=f_rebuilt.body.take 1) (fr:=[.v (aC (.a 0) (.a 1)),.v (.a 2),.v (.a 3),.v (.list none []),.v .undef,.v .undef,.v .undef,.v .undef,.v .undef,.v .undef,.v .undef,.v .undef,.v .undef]) (f:=.next) (fr':=rbS (.list none []) (.list none []) .undef .undef .undef) (by kernel_rfl)
 have e1':exs (sem (PN (k+2)) 0 1 1000 40) (f_rebuilt.body.take 1) [.v (aw c (ah n)),.v (.list (rows.map cJ)),.v (.list P),.v (.list []),.v .undef,.v .undef,.v .undef,.v .undef,.v .undef,.v .undef,.v .undef,.v .undef,.v .undef]=some (.next,rbF c n (rows.map cJ) P [] [] .undef .undef .undef):=e1
 rw[ao (fn:=f_rebuilt) rfl (by decide)]
 have e2:=cu (n:=39) (ed (n:=38) (i:=1) (fr:=rbF c n (rows.map cJ) P [] [] .undef .undef .undef) (l:=rows.map cJ) rfl) h
 have e3:(sem (PN (k+2)) 0 1 1000 40).ex (.forr (.tup [.var 8,.var 9,.var 10,.var 11,.var 12]) (.val (.var 3)) (bJ f_rebuilt.body 2)) (rbF c n (rows.map cJ) P ([]++af (rows.map (du f))) ([]++ah rows.length) x y z)=_:=cu (n:=39) (ed (n:=38) (i:=3) rfl) rfl
 have e4:=dY (Φ:=PN (k+2)) (lo:=0) (la:=1) (W:=1000) (n:=39) (i:=4) (fr:=rbF c n (rows.map cJ) P (af (rows.map (du f))) (ah rows.length) x y z) (o:=bP (.list (af (rows.map (du f)))) (.list (ah rows.length)) (.list [])) rfl rfl (by decide)
 exact aq (fn:=f_rebuilt) (la:=1) (args:=[.v (aw c (ah n)),.v (.list (rows.map cJ)),.v (.list P),.v (.list [])]) rfl (b7 (a:=f_rebuilt.body.take 1) e1' (ak e2 (ak e3 (aW e4))))
end
noncomputable def cnt(kp:Nat→Bool):Nat→Nat
 | 0=>0
 | n+1=>cnt kp n+if kp n then 1 else 0
noncomputable def rowsOf(kp:Nat→Bool):Nat→Cd→Cd
 | _,[]=>[]
 | i,p::r=>if kp i then p::rowsOf kp (i+1) r else rowsOf kp (i+1) r
noncomputable def aF(c:Cd)(ks:List Nat)(pc:Nat):Bool:=decide (pc∈ks)&&!gd c ks pc
noncomputable def enumAt(i:Nat)(l:List V):List V:=(l.zipIdx i).map fun p=>.tup [.int (p.2:Int),p.1]
theorem bG(kp:Nat→Bool)(n:Nat):cnt kp (n+1)=cnt kp n+if kp n then 1 else 0:=rfl
theorem cnt_le(kp:Nat→Bool)(n:Nat):cnt kp n≤n:=by
 induction n with
 | zero=>exact Nat.le_refl _
 | succ n ih=>rw[bG];split <;> lia
theorem rowsOf_len(kp:Nat→Bool)(c:Cd):∀ i,(rowsOf kp i c).length+cnt kp i=cnt kp (i+c.length):=by
 induction c with
 | nil=>intro i;exact Nat.zero_add _
 | cons p r ih=>
  intro i
  have h:=ih (i+1)
  rw[bG] at h
  rw[rowsOf,List.length_cons,show i+(r.length+1)=i+1+r.length by lia,← h]
  cases kp i
  ·rfl
  ·show (_::_).length+_=_+(_+1)
   rw[List.length_cons];lia
theorem rowsOf_le(kp:Nat→Bool)(c:Cd)(i:Nat):(rowsOf kp i c).length≤c.length:=by
 revert i
 induction c with
 | nil=>intro i;exact Nat.le_refl _
 | cons p r ih=>
  intro i
  have h:=ih (i+1)
  rw[rowsOf]
  cases kp i
  ·exact Nat.le_succ_of_le h
  ·exact Nat.succ_le_succ h
theorem rowsOf_mem{kp:Nat→Bool}{c:Cd}:∀ {i:Nat} {p:Nat×Option Nat},p∈rowsOf kp i c→∃ t,c[t]?=some p∧kp (i+t)=true:=by
 induction c with
 | nil=>intro i p h;cases h
 | cons q r ih=>
  intro i p h
  have key:p∈rowsOf kp (i+1) r→∃ t,(q::r)[t]?=some p∧kp (i+t)=true:=fun h=>by
   obtain ⟨t,h1,h2⟩:=ih h
   exact⟨t+1,h1,by rw[show i+(t+1)=i+1+t by lia];exact h2⟩
  rw[rowsOf] at h
  split at h
  ·rename_i hk
   rcases List.mem_cons.mp h with rfl | h
   ·exact⟨0,rfl,hk⟩
   ·exact key h
  ·exact key h
section
variable {c:Cd} {ks:List Nat} {k pc h n:Nat}
noncomputable abbrev clB:List S:=bJ f_clean_once.body 1
noncomputable def ownD(b:Bool)(D:List (Int×V)):Own:=if b then .dict D else .v (.dict D)
noncomputable def ownS(b:Bool):SO:=if b then .dict 0 else .v (.dict 0)
noncomputable def clF(c:Cd)(n:Nat)(X:Own)(R P:List V)(x y z:V):Fr:=[.v (aw c (ah n)),X,.list R,.list P,.v x,.v y,.v z,.v .undef]
noncomputable def clS(X:SO)(R P:SO)(x y z:SV):SFr:=[.v (aC (.a 0) (.a 1)),X,R,P,.v x,.v y,.v z,.v .undef]
theorem cl_turn{R P:List V}{o:Nat}{a:Option Nat}{b m d:Bool}(hin:aH .isIn (.int pc) (.dict (tru ks))=some m)(hid:m=true→PN (k+1) 23 [.v (aw c (ah n)),.v (.dict (tru ks)),.v (.int pc)]=some (.v (.bool d),.v .undef))(hl:PN (k+1) 17 [.v (aw c (ah n)),.v (.int pc)]=some (.v (.int 0),.v .undef))(hR:R.length≤4000)(hP:P.length≤4000)(hk:ks.length≤5000):
  ∃ b',exs (sem (PN (k+1)) 0 1 1000 39) clB (clF c n (ownD b (tru ks)) R P (.int pc) (.int o) (enc a))=some (.next,clF c n (ownD b' (tru ks)) (if m&&!d then R++[cJ (o,a)] else R) (P++[.int R.length]) (.int pc) (.int o) (enc a)):=by
 have e0:∀ X,clF c n X (R++[]) (P++[]) (.int pc) (.int o) (enc a)=clF c n X R P (.int pc) (.int o) (enc a):=fun X=>by rw[List.append_nil,List.append_nil]
 have hl0:V.len (.list (R++[]))=some R.length:=by rw[List.append_nil,len_list (by lia)]
 have hD:(tru ks).length≤5000:=by rw[fN];exact hk
 let σ:=mkσ [.list (af c),.list (ah n),enc a] [pc,o,R.length] [R,P] [tru ks] [] ⟨a8,a8,cX,trivial⟩ ⟨by lia,by lia,trivial⟩ ⟨hD,trivial⟩ trivial
 have e2:∀ b,am σ (clS (ownS b) (.list (some 0) []) (.list (some 1) []) (.i 0) (.i 1) (.a 2))=clF c n (ownD b (tru ks)) (R++[]) (P++[]) (.int pc) (.int o) (enc a):=fun b=>by cases b <;> rfl
 cases m with
 | false=>
  have H:FA (PN (k+1)) σ { len:=[(.list (some 0) [],.i 2)],cmp:=[(.isIn,.i 0,.dict 0,false)] }:={ len:=⟨⟨_,hl0,rfl⟩,trivial⟩,cmp:=⟨hin,trivial⟩ }
  have e:=ag (lo:=0) (la:=1) (W:=1000) H (n:=39) (b:=clB) (fr:=clS (ownS b) (.list (some 0) []) (.list (some 1) []) (.i 0) (.i 1) (.a 2)) (f:=.next) (fr':=clS (ownS b) (.list (some 0) []) (.list (some 1) [.i 2]) (.i 0) (.i 1) (.a 2)) (by cases b <;> kernel_rfl)
  rw[e2,e0] at e
  refine⟨b,e.trans ?_⟩
  cases b <;> (show some (Fl.next,clF c n _ (R++[]) (P++[.int R.length]) (.int pc) (.int o) (enc a))=_;rw[List.append_nil];rfl)
 | true=>
  have H:FA (PN (k+1)) σ { len:=[(.list (some 0) [],.i 2)],cmp:=[(.isIn,.i 0,.dict 0,true)],call:=[(23,[aC (.a 0) (.a 1),.dict 0,.i 0],.v (.bool d)),(17,[aC (.a 0) (.a 1),.i 0],.v (.int 0))] }:={ len:=⟨⟨_,hl0,rfl⟩,trivial⟩,cmp:=⟨hin,trivial⟩,call:=⟨⟨_,hid rfl⟩,⟨_,hl⟩,trivial⟩ }
  have e:=ag (lo:=0) (la:=1) (W:=1000) H (n:=39) (b:=clB) (fr:=clS (ownS b) (.list (some 0) []) (.list (some 1) []) (.i 0) (.i 1) (.a 2)) (f:=.next) (fr':=clS (ownS false) (.list (some 0) (if d then [] else [.tup [.i 1,.a 2,.int 0]])) (.list (some 1) [.i 2]) (.i 0) (.i 1) (.a 2)) (by cases b <;> cases d <;> kernel_rfl)
  rw[e2,e0] at e
  refine⟨false,e.trans ?_⟩
  cases d
  ·rfl
  ·show some (Fl.next,clF c n _ (R++[]) (P++[.int R.length]) (.int pc) (.int o) (enc a))=_
   rw[List.append_nil];rfl
structure CleanOK (c:Cd) (ks:List Nat):Prop where
 cl:c.length≤200
 kl:ks.length≤5000
 fit:∀ pc∈ks,∃ p,c[pc]?=some p∧eH p∧∀ s,p.2=some s→s<c.length
theorem idle_ok{p:Nat×Option Nat}{ln:List V}(Y:CleanOK c ks)(hp:c[pc]?=some p)(hin:pc∈ks):PN (k+1) 23 [.v (aw c ln),.v (.dict (tru ks)),.v (.int pc)]=some (.v (.bool (gd c ks pc)),.v .undef):=by
 obtain ⟨q,h1,h2,h3⟩:=Y.fit pc hin
 rw[hp] at h1
 cases h1
 have hc:c.length≤5000:=Nat.le_trans Y.cl (by decide)
 by_cases ho:p.1=58
 ·obtain ⟨o,a⟩:=p
  have ho:o=58:=ho
  subst ho
  rcases h2 with ⟨h2,_⟩ | ⟨_,s,hs⟩
  ·exact absurd h2 (by decide:(58:Nat)∉bS)
  ·have hs:a=some s:=hs
   subst hs
   by_cases hlt:pc<s
   ·exact idle_go hp hlt hc (by have:=h3 s rfl;lia)
   ·rw[idle_no hp (.inr ⟨s,rfl,by lia⟩) hc Y.kl]
    unfold gd
    rw[hp]
    show _=some (Own.v (.bool (decide (pc<s)&&_)),_)
    rw[decide_eq_false hlt];rfl
 ·rw[idle_no hp (.inl ho) hc Y.kl]
  unfold gd
  rw[hp]
  obtain ⟨o,a⟩:=p
  have ho:o≠58:=ho
  split
  ·rename_i h;cases h;exact absurd rfl ho
  ·rfl
theorem cl_for(Y:CleanOK c ks)(hn:n=c.length)(r:Cd):∀ (i:Nat) (R P:List V) (b:Bool) (x y z:V),(∀ t,r[t]?=c[i+t]?)→i+r.length=c.length→R.length=cnt (aF c ks) i→P.length=i→
  ∃ b' x' y' z',cF (sem (PN (k+1)) 0 1 1000 39) 0 (.tup [.var 4,.tup [.var 5,.var 6]]) clB (enumAt i (af r)) (clF c n (ownD b (tru ks)) R P x y z)=some (.next,clF c n (ownD b' (tru ks)) (R++(rowsOf (aF c ks) i r).map cJ) (P++ae ((List.range' i r.length).map (cnt (aF c ks)))) x' y' z'):=by
 induction r with
 | nil=>intro i R P b x y z _ _ _ _;exact⟨b,x,y,z,by show some (Fl.next,_)=some (Fl.next,clF c n _ (R++[]) (P++[]) x y z);rw[List.append_nil,List.append_nil]⟩
 | cons p r ih=>
  intro i R P b x y z hr hi hR hP
  rw[List.length_cons] at hi
  have hcl:=Y.cl
  have hp:c[i]?=some p:=(hr 0).symm
  have hR2:=cnt_le (aF c ks) i
  have hkp:aF c ks i=(decide (i∈ks)&&!gd c ks i):=rfl
  obtain ⟨b1,T⟩:=cl_turn (c:=c) (n:=n) (k:=k) (R:=R) (P:=P) (o:=p.1) (a:=p.2) (b:=b) (m:=decide (i∈ks)) (d:=gd c ks i) (isIn_dct (r:=i)) (fun hm=>idle_ok Y hp (of_decide_eq_true hm)) (line_ok (by lia) (by lia)) (by lia) (by lia) Y.kl
  rw[← hkp,hR] at T
  obtain ⟨b',x',y',z',h⟩:=ih (i+1) (if aF c ks i then R++[cJ p] else R) (P++[.int (cnt (aF c ks) i)]) b1 (.int i) (.int p.1) (enc p.2) (fun t=>by rw[show i+1+t=i+(t+1) by lia,← hr (t+1)];rfl) (by lia) (by
   rw[bG]
   cases aF c ks i
   ·exact hR
   ·show (R++[cJ p]).length=_
    rw[List.length_append,hR];rfl) (by rw[List.length_append,hP];rfl)
  refine⟨b',x',y',z',aS (fr1:=clF c n (ownD b (tru ks)) R P (.int i) (.int p.1) (enc p.2)) rfl T (h.trans ?_)⟩
  have e1:(if aF c ks i=true then R++[cJ p] else R)++(rowsOf (aF c ks) (i+1) r).map cJ=R++(rowsOf (aF c ks) i (p::r)).map cJ:=by
   rw[rowsOf]
   cases aF c ks i
   ·rfl
   ·show (R++[cJ p])++_=R++(cJ p::_)
    rw[List.append_assoc];rfl
  rw[e1,List.append_assoc];rfl
noncomputable def b0(c:Cd)(ks:List Nat):Cd:=(rowsOf (aF c ks) 0 c).map (du (cnt (aF c ks)))
theorem clean_ok(Y:CleanOK c ks)(hn:0<c.length)(hlive:PN (k+3) 22 [.v (aw c (ah c.length))]=some (.dict (tru ks),.v .undef)):
  PN (k+4) 24 [.v (aw c (ah c.length))]=some (bP (.list (af (b0 c ks))) (.list (ah (b0 c ks).length)) (.list []),.v .undef):=by
 have hcl:=Y.cl
 have hD:(tru ks).length≤5000:=by rw[fN];exact Y.kl
 obtain ⟨b,x,y,z,h⟩:=cl_for (n:=c.length) (k:=k+2) Y rfl c 0 [] [] true .undef .undef .undef (fun t=>by rw[Nat.zero_add]) (Nat.zero_add _) rfl rfl
 rw[List.nil_append,List.nil_append,List.range'_eq_map_range] at h
 let rows:=rowsOf (aF c ks) 0 c
 have hrl:rows.length=cnt (aF c ks) c.length:=by have:=rowsOf_len (aF c ks) c 0;rw[Nat.zero_add] at this;exact this
 have hrl2:rows.length≤c.length:=rowsOf_le ..
 let P:List V:=ae ((List.range (c.length+1)).map (cnt (aF c ks)))
 have hP:ae (((List.range c.length).map (0+·)).map (cnt (aF c ks)))++[V.int rows.length]=P:=by
  show _=ae _
  rw[List.range_succ,List.map_append,List.map_singleton,cY,hrl,List.map_map]
  refine congrArg (fun l=>ae l++[V.int (cnt (aF c ks) c.length)]) (List.map_congr_left fun i _=>?_)
  show cnt _ (0+i)=_
  rw[Nat.zero_add]
 have hit:∀ s,s≤c.length→V.item (.list P) (.int s)=some (.int (cnt (aF c ks) s)):=fun s hs=>item_list (by
  show (List.map (fun (n:Nat)=>V.int n) _)[s]?=_
  rw[List.getElem?_map,List.getElem?_map,List.getElem?_range (by lia)];rfl) (by rw[au,List.length_map,List.length_range];lia)
 have hreb:=rebuilt_ok (c:=c) (k:=k) (n:=c.length) (P:=P) (f:=cnt (aF c ks)) (rows:=rows) hn (fun p hp=>by
  obtain ⟨t,h1,h2⟩:=rowsOf_mem hp
  rw[Nat.zero_add] at h2
  obtain ⟨q,h3,h4,h5⟩:=Y.fit t (of_decide_eq_true (and2 h2).1)
  rw[h1] at h3;cases h3
  exact⟨h4,fun s hs=>hit s (Nat.le_of_lt (h5 s hs))⟩) (by lia)
 let σ:=mkσ [.list (af c),.list (ah c.length)] [] [] [tru ks] [] ⟨a8,a8,trivial⟩ trivial ⟨hD,trivial⟩ trivial
 have H:FA (PN (k+3)) σ { call:=[(22,[aC (.a 0) (.a 1)],.dict 0)] }:={ call:=⟨⟨_,hlive⟩,trivial⟩ }
 have e1:=ag (lo:=0) (la:=1) (W:=1000) H (n:=40) (b:=f_clean_once.body.take 1) (fr:=[.v (aC (.a 0) (.a 1)),.v .undef,.v .undef,.v .undef,.v .undef,.v .undef,.v .undef,.v .undef]) (f:=.next) (fr':=clS (.dict 0) (.list none []) (.list none []) .undef .undef .undef) (by kernel_rfl)
 have e1':exs (sem (PN (k+3)) 0 1 1000 40) (f_clean_once.body.take 1) _=some (.next,clF c c.length (ownD true (tru ks)) [] [] .undef .undef .undef):=e1
 have hE:bZ (sem (PN (k+3)) 0 1 1000 39) (.enum (.attr (.var 0) 3)) (clF c c.length (ownD true (tru ks)) [] [] .undef .undef .undef)=some (enumAt 0 (af c),clF c c.length (ownD true (tru ks)) [] [] .undef .undef .undef):=rfl
 have e2:=cu (n:=39) hE h
 have hz:(ah (b0 c ks).length).length≤5000:=by rw[zeros_len];unfold b0;rw[List.length_map];exact Nat.le_trans hrl2 (by lia)
 have hz2:(af (b0 c ks)).length≤5000:=by rw[bn];unfold b0;rw[List.length_map];exact Nat.le_trans hrl2 (by lia)
 have hcl2:(b0 c ks).length=rows.length:=List.length_map ..
 let P0:List V:=ae (((List.range c.length).map (0+·)).map (cnt (aF c ks)))
 let σ2:=mkσ [.list (af c),.list (ah c.length)] [rows.length] [rows.map cJ,P0,af (b0 c ks),ah (b0 c ks).length] [tru ks] [] ⟨a8,a8,trivial⟩ ⟨by show (rows.map cJ).length≤5000;rw[List.length_map];lia,by show (ae _).length≤5000;rw[au,List.length_map,List.length_map,List.length_range];lia,hz2,hz,trivial⟩ ⟨hD,trivial⟩ trivial
 have hreb':PN (k+3) 18 [.v (aw c (ah c.length)),.v (.list (rows.map cJ++[])),.v (.list (P0++[.int rows.length])),.v (.list [])]=some (bP (.list (af (b0 c ks)++[])) (.list (ah (b0 c ks).length++[])) (.list []),.v .undef):=by
  rw[List.append_nil,List.append_nil,List.append_nil,hP,hreb,hcl2];rfl
 have hl0:V.len (.list (rows.map cJ++[]))=some rows.length:=by rw[List.append_nil,len_list (by rw[List.length_map];lia),List.length_map]
 have H2:FA (PN (k+3)) σ2 { len:=[(.list (some 0) [],.i 0)],call:=[(18,[aC (.a 0) (.a 1),.list (some 0) [],.list (some 1) [.i 0],.list none []],ft (.list (some 2) []) (.list (some 3) []) (.list none []))] }:={ len:=⟨⟨_,hl0,rfl⟩,trivial⟩,call:=⟨⟨_,hreb'⟩,trivial⟩ }
 have e3:=ag (lo:=0) (la:=1) (W:=1000) H2 (n:=40) (b:=f_clean_once.body.drop 2) (fr:=clS (ownS b) (.list (some 0) []) (.list (some 1) []) (.k x) (.k y) (.k z)) (f:=.ret (ft (.list (some 2) []) (.list (some 3) []) (.list none []))) (fr':=clS (ownS b) (.v (.list (some 0) [])) (.v (.list (some 1) [.i 0])) (.k x) (.k y) (.k z)) (by cases b <;> kernel_rfl)
 have e4:am σ2 (clS (ownS b) (.list (some 0) []) (.list (some 1) []) (.k x) (.k y) (.k z))=clF c c.length (ownD b (tru ks)) (rows.map cJ) P0 x y z:=by
  cases b <;> (show clF c c.length _ (rows.map cJ++[]) (P0++[]) x y z=_;rw[List.append_nil,List.append_nil];rfl)
 rw[e4] at e3
 rw[ao (fn:=f_clean_once) rfl (by decide)]
 refine(aq (fn:=f_clean_once) (la:=1) (args:=[.v (aw c (ah c.length))]) rfl (b7 (a:=f_clean_once.body.take 1) e1' (ak e2 e3))).trans ?_
 show some (bP (.list (af (b0 c ks)++[])) (.list (ah (b0 c ks).length++[])) (.list []),_)=_
 rw[List.append_nil,List.append_nil];rfl
end
noncomputable def WOK(w:List Rw):Prop:=∀ (r o:Nat) (gs:List Nat),w[r]?=some (o,gs)→(gs=[]∧o=65)∨(∃ g,gs=[g]∧o∈bS∧o≠65)∨(∃ g0 g1,gs=[g0,g1]∧(o=59∨o=60))
structure Good (c:Cd) (w:List Rw) (pl:Nat→Nat) (ht:Nat→Int):Prop where
 lay:Lay c w pl ht
 inj:∀ r r',Reach w r→Reach w r'→pl r=pl r'→r=r'
structure RowAt (c:Cd) (w:List Rw) (pl:Nat→Nat) (ht:Nat→Int) (r o:Nat) (ar:Option Nat) (gs:List Nat):Prop where
 way:w[r]?=some (o,gs)
 code:c[pl r]?=some (o,ar)
 no:o≠58
 fit:eH (o,ar)
 to:∀ s∈bI (pl r) (o,ar),∃ g∈gs,fj c s (pl g)
 fro:∀ g∈gs,∃ s∈bI (pl r) (o,ar),fj c s (pl g)
section
variable {c:Cd} {w:List Rw} {pl:Nat→Nat} {ht:Nat→Int} {r pc:Nat} {ks:List Nat}
theorem lst_no{o:Nat}(h:o≠58)(h2:o≠65):lst o=false:=by
 unfold lst
 rw[beq_false_of_ne h,beq_false_of_ne h2];rfl
theorem nxt_n{o:Nat}(h:lst o=false):bI pc (o,none)=[pc+1]:=by
 show (if lst o=true then [] else [pc+1])=_
 rw[h];rfl
theorem nxt_j{o s:Nat}(h:lst o=false):bI pc (o,some s)=[pc+1,s]:=by
 show (if lst o=true then [s] else [pc+1,s])=_
 rw[h];rfl
theorem dq(Y:Lay c w pl ht)(W:WOK w)(h:Reach w r):∃ o ar gs,RowAt c w pl ht r o ar gs:=by
 obtain ⟨o,gs,hw,R⟩:=Y.row r h
 rcases W r o gs hw with ⟨rfl,rfl⟩ | ⟨g,rfl,h1,h2⟩ | ⟨g0,g1,rfl,h1⟩
 ·rcases R.st with ⟨_,s1,_⟩ | ⟨g,e,_⟩ | ⟨g0,g1,s,e,_⟩
  ·exact⟨65,none,[],hw,s1,by decide,.inl ⟨by decide,rfl⟩,fun s hs=>(nomatch hs),fun g hg=>(nomatch hg)⟩
  ·cases e
  ·cases e
 ·rcases R.st with ⟨e,_⟩ | ⟨g',e,s1,_,s3⟩ | ⟨g0,g1,s,e,_⟩
  ·cases e
  ·cases e
   have hl:bI (pl r) (o,none)=[pl r+1]:=nxt_n (lst_no R.no h2)
   refine⟨o,none,[g],hw,s1,R.no,.inl ⟨h1,rfl⟩,fun s hs=>?_,fun g' hg=>?_⟩
   ·rw[hl] at hs;rw[List.mem_singleton.mp hs];exact⟨g,List.mem_singleton.mpr rfl,s3⟩
   ·rw[hl,List.mem_singleton.mp hg];exact⟨_,List.mem_singleton.mpr rfl,s3⟩
  ·cases e
 ·rcases R.st with ⟨e,_⟩ | ⟨g',e,_⟩ | ⟨g0',g1',s,e,s1,_,s3,s4⟩
  ·cases e
  ·cases e
  ·cases e
   have hl:bI (pl r) (o,some s)=[pl r+1,s]:=nxt_j (lst_no R.no (by lia))
   have ho:o∈cz:=by rcases h1 with rfl | rfl <;> decide
   refine⟨o,some s,[g0,g1],hw,s1,R.no,.inr ⟨ho,s,rfl⟩,fun x hx=>?_,fun g hg=>?_⟩
   ·rw[hl] at hx
    rcases List.mem_cons.mp hx with rfl | hx
    ·exact⟨g1,by simp,s4⟩
    ·rw[List.mem_singleton.mp hx];exact⟨g0,by simp,s3⟩
   ·rw[hl]
    rcases List.mem_cons.mp hg with rfl | hg
    ·exact⟨s,by simp,s3⟩
    ·rw[List.mem_singleton.mp hg];exact⟨pl r+1,by simp,s4⟩
noncomputable def On(c:Cd)(w:List Rw)(pl:Nat→Nat)(pc:Nat):Prop:=∃ r,Reach w r∧(pl r=pc∨c[pc]?=some (58,some (pl r)))
theorem on_past{x:Nat}(h:Reach w r)(p:fj c x (pl r)):On c w pl x:=by
 rcases p with ⟨e,_⟩ | ⟨_,_,e,_⟩
 ·exact⟨r,h,.inl e⟩
 ·exact⟨r,h,.inr e⟩
theorem nxt_eq{p:Nat×Option Nat}(h:c[pc]?=some p):nxt c pc=bI pc p:=by unfold nxt;rw[h]
theorem jmp_nxt{y:Nat}(h:c[pc]?=some (58,some y)):nxt c pc=[y]:=(nxt_eq h).trans rfl
theorem live_on(Y:Lay c w pl ht)(W:WOK w)(h:dT (nxt c) pc):On c w pl pc:=by
 induction h with
 | zero=>exact on_past .zero Y.start
 | step _ hs ih=>
  obtain ⟨r,hr,e | e⟩:=ih
  ·obtain ⟨o,ar,gs,R⟩:=dq Y W hr
   rw[← e,nxt_eq R.code] at hs
   obtain ⟨g,hg,p⟩:=R.to _ hs
   exact on_past (.step hr R.way hg) p
  ·rw[jmp_nxt e,List.mem_singleton] at hs
   exact⟨r,hr,.inl hs.symm⟩
theorem past_live{x y:Nat}(h:dT (nxt c) x)(p:fj c x y):dT (nxt c) y:=by
 rcases p with ⟨e,_⟩ | ⟨_,_,e,_⟩
 ·exact e▸h
 ·exact .step h (by rw[jmp_nxt e];exact List.mem_singleton.mpr rfl)
theorem fA(Y:Lay c w pl ht)(W:WOK w)(h:Reach w r):dT (nxt c) (pl r):=by
 induction h with
 | zero=>exact past_live .zero Y.start
 | step hr hw hg ih=>
  obtain ⟨o,ar,gs,R⟩:=dq Y W hr
  have hw2:=R.way
  rw[hw] at hw2;cases hw2
  obtain ⟨s,hs,p⟩:=R.fro _ hg
  exact past_live (.step ih (by rw[nxt_eq R.code];exact hs)) p
theorem past_lt{x y:Nat}(p:fj c x y):x<c.length:=by
 rcases p with ⟨e,o,ar,h,_⟩ | ⟨_,_,h,_⟩
 ·exact ai h
 ·exact ai h
theorem live_at(Y:Lay c w pl ht)(W:WOK w)(h:dT (nxt c) pc):∃ p,c[pc]?=some p∧eH p∧∀ s∈bI pc p,s<c.length:=by
 obtain ⟨r,hr,rfl | e⟩:=live_on Y W h
 ·obtain ⟨o,ar,gs,R⟩:=dq Y W hr
  exact⟨_,R.code,R.fit,fun s hs=>by obtain ⟨g,_,p⟩:=R.to s hs;exact past_lt p⟩
 ·obtain ⟨o,ar,gs,R⟩:=dq Y W hr
  exact⟨_,e,.inr ⟨by show 58∈cz;decide,_,rfl⟩,fun s hs=>by rw[show s=pl r from List.mem_singleton.mp hs];exact ai R.code⟩
theorem code_pos(Y:Lay c w pl ht):0<c.length:=past_lt Y.start
theorem arg_nxt{p:Nat×Option Nat}{s:Nat}(h:p.2=some s):s∈bI pc p:=by
 obtain ⟨o,a⟩:=p
 have h:a=some s:=h
 subst h
 unfold bI
 dsimp only
 split <;> simp
theorem clean_can(Y:Lay c w pl ht)(W:WOK w)(I:WInv (nxt c) c.length ks []):CleanOK c ks:=
 ⟨Y.cl,Nat.le_trans I.len (Nat.le_trans Y.cl (by decide)),fun pc h=>by
  obtain ⟨p,h1,h2,h3⟩:=live_at Y W (I.live pc h)
  exact⟨p,h1,h2,fun s hs=>h3 s (arg_nxt hs)⟩⟩
theorem cnt_mono{kp:Nat→Bool}{a b:Nat}(h:a≤b):cnt kp a≤cnt kp b:=by
 induction b with
 | zero=>rw[Nat.le_zero.mp h];exact Nat.le_refl _
 | succ b ih=>
  rw[bG]
  rcases Nat.lt_or_ge b a with h2 | h2
  ·rw[show a=b+1 by lia,bG];exact Nat.le_refl _
  ·have:=ih h2;lia
theorem cnt_gap{kp:Nat→Bool}{a b:Nat}(h:a≤b)(hk:∀ j,a≤j→j<b→kp j=false):cnt kp b=cnt kp a:=by
 induction b with
 | zero=>rw[Nat.le_zero.mp h]
 | succ b ih=>
  rcases Nat.lt_or_ge b a with h2 | h2
  ·rw[show a=b+1 by lia]
  ·rw[bG,hk b h2 (Nat.lt_succ_self _),ih h2 fun j h3 h4=>hk j h3 (Nat.lt_succ_of_lt h4)];rfl
theorem cnt_inj{kp:Nat→Bool}{a b:Nat}(ha:kp a=true)(hb:kp b=true)(h:cnt kp a=cnt kp b):a=b:=by
 rcases Nat.lt_trichotomy a b with h1 | h1 | h1
 ·have:=cnt_mono (kp:=kp) h1
  rw[Nat.succ_eq_add_one,bG,ha] at this
  simp at this;lia
 ·exact h1
 ·have:=cnt_mono (kp:=kp) h1
  rw[Nat.succ_eq_add_one,bG,hb] at this
  simp at this;lia
theorem rows_get{kp:Nat→Bool}{p:Nat×Option Nat}{c:Cd}:∀ {i t:Nat},c[t]?=some p→kp (i+t)=true→∃ q,q+cnt kp i=cnt kp (i+t)∧(rowsOf kp i c)[q]?=some p:=by
 induction c with
 | nil=>intro i t h;cases h
 | cons x r ih=>
  intro i t h hk
  cases t with
  | zero=>
   have h:some x=some p:=h
   cases h
   have hk:kp i=true:=hk
   rw[rowsOf,if_pos hk]
   exact⟨0,Nat.zero_add _,rfl⟩
  | succ t=>
   have e:i+(t+1)=i+1+t:=by lia
   obtain ⟨q,h1,h2⟩:=ih (i:=i+1) (t:=t) h (e▸hk)
   rw[e,← h1,bG,rowsOf]
   by_cases hi:kp i=true
   ·rw[if_pos hi,if_pos hi];exact⟨q+1,by lia,h2⟩
   ·rw[if_neg hi,if_neg hi];exact⟨q,rfl,h2⟩
theorem d1{p:Nat×Option Nat}(h:c[pc]?=some p)(hk:aF c ks pc=true):(b0 c ks)[cnt (aF c ks) pc]?=some (du (cnt (aF c ks)) p):=by
 obtain ⟨q,h1,h2⟩:=rows_get (kp:=aF c ks) (i:=0) h (by rw[Nat.zero_add];exact hk)
 rw[Nat.zero_add,show cnt (aF c ks) 0=0 from rfl,Nat.add_zero] at h1
 unfold b0
 rw[List.getElem?_map,← h1,h2];rfl
theorem not_idle{p:Nat×Option Nat}(h:c[pc]?=some p)(ho:p.1≠58):gd c ks pc=false:=by
 unfold gd
 rw[h]
 split
 ·rename_i e;cases e;exact absurd rfl ho
 ·rfl
theorem kept_op{p:Nat×Option Nat}(hin:pc∈ks)(h:c[pc]?=some p)(ho:p.1≠58):aF c ks pc=true:=by
 unfold aF
 rw[not_idle h ho,decide_eq_true hin];rfl
theorem dZ{x y:Nat}(hx:x∈ks)(hy:y∈ks)(p:fj c x y):fj (b0 c ks) (cnt (aF c ks) x) (cnt (aF c ks) y):=by
 rcases p with ⟨rfl,o,ar,h,ho⟩ | ⟨o,ar,h,h2,ho⟩
 ·exact .inl ⟨rfl,o,_,d1 h (kept_op hx h ho),ho⟩
 ·have hk:=kept_op hy h2 ho
  have h3:=d1 h2 hk
  cases hi:gd c ks x with
  | false=>exact .inr ⟨o,_,d1 h (by unfold aF;rw[hi,decide_eq_true hx];rfl),h3,ho⟩
  | true=>
   have hi2:=hi
   unfold gd at hi
   rw[h] at hi
   obtain ⟨i1,i2⟩:=and2 hi
   have i1:=of_decide_eq_true i1
   have e1:cnt (aF c ks) (x+1)=cnt (aF c ks) x:=by rw[bG];unfold aF;rw[hi2];simp
   have e2:cnt (aF c ks) y=cnt (aF c ks) (x+1):=cnt_gap i1 fun j h4 h5=>by
    have:=List.all_eq_true.mp i2 (j - (x+1)) (List.mem_range.mpr (by omega))
    rw[show x+1+(j - (x+1))=j by omega] at this
    unfold aF
    rw[decide_eq_false (of_decide_eq_true this)];rfl
   exact .inl ⟨by rw[e2,e1],o,_,by rw[← e1,← e2];exact h3,ho⟩
theorem clean_good(Y:Good c w pl ht)(W:WOK w)(I:WInv (nxt c) c.length ks []):Good (b0 c ks) w (fun r=>cnt (aF c ks) (pl r)) ht:=by
 have L:=Y.lay
 have hin:∀ {r},Reach w r→pl r∈ks:=fun h=>I.done (fA L W h)
 have hk:∀ {r},Reach w r→aF c ks (pl r)=true:=fun h=>by
  obtain ⟨o,ar,gs,R⟩:=dq L W h
  exact kept_op (hin h) R.code R.no
 refine⟨⟨?_,L.wl,dZ I.zero (hin .zero) L.start,L.h0,fun r hr=>?_⟩,fun r r' h h' e=>Y.inj r r' h h' (cnt_inj (hk h) (hk h') e)⟩
 ·unfold b0;rw[List.length_map];exact Nat.le_trans (rowsOf_le ..) L.cl
 ·obtain ⟨o,gs,hw,R⟩:=L.row r hr
  have e1:cnt (aF c ks) (pl r)+1=cnt (aF c ks) (pl r+1):=by rw[bG,hk hr];rfl
  have lv:=fA L W hr
  refine⟨o,gs,hw,R.gr,R.no,?_⟩
  obtain ⟨o',ar,gs',R'⟩:=dq L W hr
  have hw2:=R'.way
  rw[hw] at hw2;cases hw2
  have hs:∀ {s},s∈bI (pl r) (o,ar)→s∈ks:=fun h=>I.done (.step lv (by rw[nxt_eq R'.code];exact h))
  have hg:∀ {g},g∈gs→pl g∈ks:=fun h=>hin (.step hr hw h)
  have cg:=R'.code
  rcases R.st with ⟨rfl,s1,s2⟩ | ⟨g,rfl,s1,s2,s3⟩ | ⟨g0,g1,s,rfl,s1,s2,s3,s4⟩
  ·exact .inl ⟨rfl,d1 s1 (hk hr),s2⟩
  ·rw[s1] at cg;cases cg
   refine .inr (.inl ⟨g,rfl,d1 s1 (hk hr),s2,?_⟩)
   rw[e1]
   refine dZ (hs ?_) (hg (List.mem_singleton.mpr rfl)) s3
   rcases W r o _ hw with ⟨h,_⟩ | ⟨_,_,_,h⟩ | ⟨_,_,h,_⟩
   ·cases h
   ·rw[nxt_n (lst_no R.no h)];exact List.mem_singleton.mpr rfl
   ·cases h
  ·rw[s1] at cg;cases cg
   have hl:bI (pl r) (o,some s)=[pl r+1,s]:=nxt_j (lst_no R.no (by lia))
   refine .inr (.inr ⟨g0,g1,_,rfl,d1 s1 (hk hr),s2,dZ (hs (by rw[hl];simp)) (hg (by simp)) s3,?_⟩)
   rw[e1]
   exact dZ (hs (by rw[hl];simp)) (hg (by simp)) s4
end
noncomputable def noJ(c:Cd):Cd:=c.filter fun p=>decide (p.1≠58)
theorem filt_rows{f:Nat×Option Nat→Bool}{kp:Nat→Bool}{c:Cd}:∀ {i:Nat},(∀ t p,c[t]?=some p→kp (i+t)=f p)→rowsOf kp i c=c.filter f:=by
 induction c with
 | nil=>intro i _;rfl
 | cons x r ih=>
  intro i h
  have h0:=h 0 x rfl
  have h0:kp i=f x:=h0
  have:=ih (i:=i+1) fun t p hp=>by rw[show i+1+t=i+(t+1) by lia];exact h (t+1) p hp
  rw[rowsOf,this,h0,List.filter_cons]
theorem cnt_filter(kp:Nat→Bool)(n:Nat):cnt kp n=((List.range n).filter kp).length:=by
 induction n with
 | zero=>rfl
 | succ n ih=>
  rw[List.range_succ,List.filter_append,List.length_append,← ih,bG,List.filter_cons]
  cases kp n <;> rfl
noncomputable def isJ(c:Cd)(i:Nat):Bool:=match c[i]? with
 | some p=>decide (p.1≠58)
 | none=>false
theorem noJ_len(c:Cd):(noJ c).length=((List.range c.length).filter (isJ c)).length:=by
 have e:rowsOf (isJ c) 0 c=noJ c:=filt_rows fun t p h=>by unfold isJ;rw[Nat.zero_add,h]
 have:=rowsOf_len (isJ c) c 0
 rw[e,Nat.zero_add] at this
 rw[← cnt_filter,← this];rfl
section
variable {c:Cd} {w:List Rw} {pl:Nat→Nat} {ht:Nat→Int} {r pc:Nat} {ks rs:List Nat}
theorem rows_all{kp:Nat→Bool}{c:Cd}:∀ {i:Nat},c.length≤(rowsOf kp i c).length→rowsOf kp i c=c∧∀ t,t<c.length→kp (i+t)=true:=by
 induction c with
 | nil=>intro i _;exact⟨rfl,fun t h=>absurd h (Nat.not_lt_zero _)⟩
 | cons x r ih=>
  intro i h
  rw[rowsOf] at h ⊢
  split at h
  ·rename_i hk
   obtain ⟨h1,h2⟩:=ih (i:=i+1) (Nat.le_of_succ_le_succ h)
   rw[if_pos hk,h1]
   refine⟨rfl,fun t ht=>?_⟩
   cases t with
   | zero=>exact hk
   | succ t=>rw[show i+(t+1)=i+1+t by lia];exact h2 t (Nat.lt_of_succ_lt_succ ht)
  ·have:=rowsOf_le kp r (i+1)
   rw[List.length_cons] at h;lia
theorem filter_newp{f:Nat→Nat}(c:Cd):(noJ (c.map (du f))).length=(noJ c).length:=by
 unfold noJ
 rw[List.filter_map,List.length_map];rfl
theorem clean_full(Y:Good c w pl ht)(W:WOK w)(I:WInv (nxt c) c.length ks [])(hs:c.length≤(b0 c ks).length)(nd:rs.Nodup)(hr:∀ r,r∈rs↔Reach w r):(noJ (b0 c ks)).length=rs.length:=by
 have L:=Y.lay
 have hs:c.length≤(rowsOf (aF c ks) 0 c).length:=by unfold b0 at hs;rwa [List.length_map] at hs
 obtain ⟨h1,h2⟩:=rows_all hs
 unfold b0
 rw[filter_newp,h1,noJ_len,← List.length_map (as:=rs) pl]
 refine List.Perm.length_eq ((List.perm_ext_iff_of_nodup (List.nodup_range.filter _) ?_).mpr fun a=>?_)
 ·unfold List.Nodup
  rw[List.pairwise_map]
  exact nd.imp_of_mem fun {a b} ha hb hne e=>hne (Y.inj a b ((hr a).mp ha) ((hr b).mp hb) e)
 ·rw[List.mem_filter,List.mem_range,List.mem_map]
  constructor
  ·rintro ⟨ha,hj⟩
   have hk:=h2 a ha
   rw[Nat.zero_add] at hk
   obtain ⟨r,hr1,e | e⟩:=live_on L W (I.live a (of_decide_eq_true (and2 hk).1))
   ·exact⟨r,(hr r).mpr hr1,e⟩
   ·unfold isJ at hj;rw[e] at hj;cases hj
  ·rintro ⟨r,hr1,rfl⟩
   obtain ⟨o,ar,gs,R⟩:=dq L W ((hr r).mp hr1)
   exact⟨ai R.code,by unfold isJ;rw[R.code];exact decide_eq_true R.no⟩
end
section
variable {Φ:Nat→List Own→Option (Own×Own)} {lo la W n:Nat}
theorem dm{i:Nat}{e:E}{fr fr1:Fr}{o:Own}(h:(sem Φ lo la W n).ev e fr=some (o,fr1))(h2:(Nat.ble lo i&&Nat.blt i fr1.length)=true):(sem Φ lo la W (n+1)).ex (.asg (.t (.var i)) e) fr=some (.next,fr1.set i o):=ac h (if_pos ⟨Nat.le_of_ble_eq_true (and2 h2).1,Nat.le_of_ble_eq_true (and2 h2).2⟩)
theorem bR{f:Nat}{es:List E}{fr fr1:Fr}{vs:List V}{r:Own×Own}(h:evs (sem Φ lo la W n) es fr=some (vs,fr1))(h2:Φ f (vs.map .v)=some r):(sem Φ lo la W (n+1)).ev (.call f es) fr=some (r.1,fr1):=ac h (ac h2 rfl)
theorem callv_run{i f:Nat}{es:List E}{fr fr1:Fr}{vs:List V}{r:Own×Own}(hf:fr[i]?=some (.v (.fn f)))(h:evs (sem Φ lo la W n) es fr=some (vs,fr1))(h2:Φ f (vs.map .v)=some r):(sem Φ lo la W (n+1)).ev (.callv i es) fr=some (r.1,fr1):=
 ac (ac hf rfl) (ac h (ac h2 rfl))
theorem g4{f:Nat}{es:List E}{fr fr1:Fr}{o:Own}(h:(sem Φ lo la W n).ev (.call f es) fr=some (o,fr1)):(sem Φ lo la W (n+1)).ex (.ret (.call f es)) fr=some (.ret o,fr1):=ac h rfl
end
noncomputable def outO(c:Cd):Own:=bP (.list (af c)) (.list (ah c.length)) (.list [])
noncomputable def inV(c:Cd):V:=aw c (ah c.length)
section
variable {c c':Cd} {w:List Rw} {pl:Nat→Nat} {ht:Nat→Int} {k:Nat} {ks rs:List Nat}
theorem clean_call(Y:Good c w pl ht)(W:WOK w):∃ ks,WInv (nxt c) c.length ks []∧PN (k+5) 24 [.v (inV c)]=some (outO (b0 c ks),.v .undef):=by
 obtain ⟨ks,h1,h2⟩:=live_ok (c:=c) (ln:=ah c.length) (k:=k) Y.lay.cl (code_pos Y.lay) fun pc h=>live_at Y.lay W h
 exact⟨ks,h2,clean_ok (clean_can Y.lay W h2) (code_pos Y.lay) h1⟩
theorem c1_test{U:V}(h1:c.length≤5000)(h2:c'.length≤5000):evB (sem (PN k) 0 1 1000 39) (cv f_clean_one.body 1) [.v (inV c),outO c']=some (decide (c'.length<c.length),[.v (inV c),outO c']):=by
 let σ:=mkσ [.list (af c),.list (ah c.length)] [c.length,c'.length] [af c',ah c'.length] [] [] ⟨a8,a8,trivial⟩ ⟨by show (af c').length≤5000;rw[bn];exact h2,by show (ah _).length≤5000;rw[zeros_len];exact h2,trivial⟩ trivial trivial
 have hlt:aH .lt (.int c'.length) (.int c.length)=some (decide (c'.length<c.length)):=by
  show some (decide ((c'.length:Int)<c.length))=_
  simp
 have hl:V.len (.list (af c'++[]))=some c'.length:=by rw[List.append_nil,bl h2]
 have H:FA (PN k) σ { len:=[(.a 0,.i 0),(.list (some 0) [],.i 1)],cmp:=[(.lt,.i 1,.i 0,decide (c'.length<c.length))] }:={ len:=⟨⟨_,bl h1,rfl⟩,⟨_,hl,rfl⟩,trivial⟩,cmp:=⟨hlt,trivial⟩ }
 have e:=cH (lo:=0) (la:=1) (W:=1000) H (n:=39) (e:=cv f_clean_one.body 1) (fr:=[.v (aC (.a 0) (.a 1)),ft (.list (some 0) []) (.list (some 1) []) (.list none [])]) (b:=decide (c'.length<c.length)) (fr':=[.v (aC (.a 0) (.a 1)),ft (.list (some 0) []) (.list (some 1) []) (.list none [])]) (by kernel_rfl)
 have e2:am σ [.v (aC (.a 0) (.a 1)),ft (.list (some 0) []) (.list (some 1) []) (.list none [])]=[.v (inV c),outO c']:=by
  show [Own.v (inV c),bP (.list (af c'++[])) (.list (ah c'.length++[])) (.list [])]=_
  rw[List.append_nil,List.append_nil];rfl
 rw[e2] at e;exact e
theorem c1_loop(W:WOK w)(nd:rs.Nodup)(hr:∀ r,r∈rs↔Reach w r):∀ (n:Nat) (c:Cd) (pl:Nat→Nat) (ks:List Nat),c.length<n→Good c w pl ht→WInv (nxt c) c.length ks []→
  ∃ cf pl' U,bL (sem (PN (k+5)) 0 1 1000 39) (cv f_clean_one.body 1) (bJ f_clean_one.body 1) n [.v (inV c),outO (b0 c ks)]=some (.next,[.v U,outO cf])∧Good cf w pl' ht∧(noJ cf).length=rs.length:=by
 intro n
 induction n with
 | zero=>intro c pl ks h;lia
 | succ n ih=>
  intro c pl ks hn Y I
  have Y':=clean_good Y W I
  have l1:c.length≤5000:=Nat.le_trans Y.lay.cl (by decide)
  have l2:(b0 c ks).length≤5000:=Nat.le_trans Y'.lay.cl (by decide)
  have T:=c1_test (k:=k+5) (U:=.none) l1 l2
  by_cases hlt:(b0 c ks).length<c.length
  ·rw[decide_eq_true hlt] at T
   obtain ⟨ks2,I2,hc⟩:=clean_call (k:=k) Y' W
   obtain ⟨cf,pl',U,h1,h2,h3⟩:=ih _ _ ks2 (by lia) Y' I2
   refine⟨cf,pl',U,c6 T (ak (dm (n:=38) (i:=0) (e:=.var 1) (fr1:=[.v (inV c),.v (inV (b0 c ks))]) (o:=.v (inV (b0 c ks))) rfl rfl) (ak (dm (n:=38) (i:=1) (bR (n:=37) (f:=24) (es:=[.var 0]) (fr1:=[.v (inV (b0 c ks)),.v (inV (b0 c ks))]) (vs:=[inV (b0 c ks)]) rfl hc) rfl) rfl)) h1,h2,h3⟩
  ·rw[decide_eq_false hlt] at T
   exact⟨_,_,inV c,cB T,Y',clean_full Y W I (by lia) nd hr⟩
theorem clean_one_ok(Y:Good c w pl ht)(W:WOK w)(nd:rs.Nodup)(hr:∀ r,r∈rs↔Reach w r):∃ cf pl',PN (k+6) 25 [.v (inV c)]=some (outO cf,.v .undef)∧Good cf w pl' ht∧(noJ cf).length=rs.length:=by
 obtain ⟨ks,I,hc⟩:=clean_call (k:=k) Y W
 obtain ⟨cf,pl',U,h1,h2,h3⟩:=c1_loop (k:=k) W nd hr 1000 c pl ks (by have:=Y.lay.cl;lia) Y I
 refine⟨cf,pl',?_,h2,h3⟩
 rw[ao (fn:=f_clean_one) rfl (by decide)]
 exact aq (fn:=f_clean_one) (la:=1) (args:=[.v (inV c)]) rfl (ak (dm (n:=39) (i:=1) (bR (n:=38) (f:=24) (es:=[.var 0]) (fr1:=[.v (inV c),.v .undef]) (vs:=[inV c]) rfl hc) rfl) (ak h1 (aW (dY (n:=39) (i:=1) (o:=outO cf) rfl rfl (by decide)))))
theorem for_all_ok{f:Nat}{co li:O1}(h:PN (k+6) f [.v (inV c)]=some (bP co li (.list []),.v .undef)):PN (k+7) 20 [.v (inV c),.v (.fn f)]=some (bP co li (.list []),.v .undef):=by
 rw[ao (fn:=f_for_all) rfl (by decide)]
 have e1:(sem (PN (k+6)) 0 1 1000 40).ex (.asg (.t (.var 2)) (.callv 1 [.var 0])) [.v (inV c),.v (.fn f),.v .undef,.v .undef]=some (.next,[.v (inV c),.v (.fn f),bP co li (.list []),.v .undef]):=
  dm (n:=39) (fr1:=[.v (inV c),.v (.fn f),.v .undef,.v .undef]) (o:=bP co li (.list [])) (callv_run (n:=38) (f:=f) (vs:=[inV c]) (fr1:=[.v (inV c),.v (.fn f),.v .undef,.v .undef]) rfl rfl h) rfl
 exact aq (fn:=f_for_all) (la:=1) (args:=[.v (inV c),.v (.fn f)]) (fr:=[.v (inV c),.v (.fn f),.v .undef,.v .undef]) (o:=bP co li (.list [])) rfl (ak e1 rfl)
theorem clean_unit_ok(Y:Good c w pl ht)(W:WOK w)(nd:rs.Nodup)(hr:∀ r,r∈rs↔Reach w r):∃ cf pl',PN (k+8) 26 [.v (inV c)]=some (outO cf,.v .undef)∧Good cf w pl' ht∧(noJ cf).length=rs.length:=by
 obtain ⟨cf,pl',h1,h2,h3⟩:=clean_one_ok (k:=k) Y W nd hr
 refine⟨cf,pl',?_,h2,h3⟩
 have h:=for_all_ok h1
 rw[ao (fn:=eh) rfl (by decide)]
 exact aq (fn:=eh) (la:=1) (args:=[.v (inV c)]) rfl (aW (g4 (n:=39) (bR (n:=38) (f:=20) (es:=[.var 0,.const (.fn 25)]) (fr1:=[.v (inV c)]) (vs:=[inV c,.fn 25]) rfl h)))
end
noncomputable def JOK(c:Cd):Prop:=∀ p∈c,eH p∧∀ s,p.2=some s→∃ q,c[s]?=some q∧q.1≠58
theorem eq_no{a b:Int}(h:a≠b):aH .eq (.int a) (.int b)=some false:=by
 show some (a==b)=_
 rw[beq_false_of_ne h]
theorem while_run{Φ:Nat→List Own→Option (Own×Own)}{lo la W n:Nat}{c:E}{b:List S}{fr:Fr}{p:Option (Fl×Fr)}(h:bL (sem Φ lo la W n) c b W fr=p):(sem Φ lo la W (n+1)).ex (.whil c b) fr=p:=h
section
variable {c:Cd} {k s:Nat}
theorem end_ok{q:Nat×Option Nat}(hq:c[s]?=some q)(ho:q.1≠58)(hc:c.length≤5000):PN (k+1) 33 [.v (.list (af c)),.v (.int s)]=some (.v (.int s),.v .undef):=by
 obtain ⟨o,a⟩:=q
 let σ:=mkσ [.list (af c),enc a] [s,c.length,o] [] [[]] [] ⟨a8,cX,trivial⟩ trivial ⟨Nat.zero_le _,trivial⟩ trivial
 have H:FA (PN k) σ { item:=[(.a 0,.i 0,.tup [.i 2,.a 1])],len:=[(.a 0,.i 1)],cmp:=[(.lt,.i 0,.i 1,true),(.eq,.i 2,.int 58,false)],dlit:=[([],0)] }:=
  { item:=⟨⟨aQ hq hc,aD⟩,trivial⟩,len:=⟨⟨_,bl hc,rfl⟩,trivial⟩,cmp:=⟨lt_yes (ai hq),eq_no (a:=(o:Int)) (b:=58) (by have:o≠58:=ho;lia),trivial⟩,dlit:=⟨rfl,trivial⟩ }
 have e1:=ag (lo:=0) (la:=1) (W:=1000) H (n:=40) (b:=f_end_of.body.take 1) (fr:=[.v (.a 0),.v (.i 0),.v .undef]) (f:=.next) (fr':=[.v (.a 0),.v (.i 0),.dict 0]) (by kernel_rfl)
 have e2:=cH (lo:=0) (la:=1) (W:=1000) H (n:=39) (e:=cv f_end_of.body 1) (fr:=[.v (.a 0),.v (.i 0),.dict 0]) (b:=false) (fr':=[.v (.a 0),.v (.i 0),.dict 0]) (by kernel_rfl)
 rw[ao (fn:=f_end_of) rfl (by decide)]
 exact aq (fn:=f_end_of) (la:=1) (args:=[.v (.list (af c)),.v (.int s)]) rfl (b7 (a:=f_end_of.body.take 1) e1 (ak (while_run (n:=39) (cB e2)) (aW (dY (n:=39) (i:=1) rfl rfl (by decide)))))
theorem threaded_ok{o:Nat}{q:Nat×Option Nat}(hj:o∈cz)(hq:c[s]?=some q)(ho:q.1≠58)(hc:c.length≤5000):PN (k+2) 34 [.v (.list (af c)),.v (.int o),.v (.int s)]=some (.v (.tup [.int o,.int s]),.v .undef):=by
 let σ:=mkσ [.list (af c)] [s,o] [] [[]] [] ⟨a8,trivial⟩ trivial ⟨Nat.zero_le _,trivial⟩ trivial
 have H:FA (PN (k+1)) σ { call:=[(33,[.a 0,.i 0],.v (.i 0))],dlit:=[([],0)] }:={ call:=⟨⟨_,end_ok hq ho hc⟩,trivial⟩,dlit:=⟨rfl,trivial⟩ }
 have e1:=ag (lo:=0) (la:=1) (W:=1000) H (n:=40) (b:=f_threaded.body.take 1) (fr:=[.v (.a 0),.v (.i 1),.v (.i 0),.v .undef,.v .undef,.v .undef]) (f:=.next) (fr':=[.v (.a 0),.v (.i 1),.v (.i 0),.v (.i 0),.dict 0,.v .undef]) (by kernel_rfl)
 have e2:=cO (l:=cz) (f:=fun o=>evB (sem (PN (k+1)) 0 1 1000 39) (cv f_threaded.body 1) [.v (.list (af c)),.v (.int o),.v (.int s),.v (.int s),.dict [],.v .undef]) (g:=fun o=>some (false,[.v (.list (af c)),.v (.int o),.v (.int s),.v (.int s),.dict [],.v .undef])) (by kernel_rfl) o hj
 rw[ao (fn:=f_threaded) rfl (by decide)]
 exact aq (fn:=f_threaded) (la:=1) (args:=[.v (.list (af c)),.v (.int o),.v (.int s)]) rfl (b7 (a:=f_threaded.body.take 1) e1 (ak (while_run (n:=39) (cB e2)) rfl))
noncomputable abbrev thB:List S:=bJ f_thread_one.body 1
noncomputable def thF(c:Cd)(C:List V)(x y:V):Fr:=[.v (inV c),.list C,.v x,.v y]
noncomputable def thS(C:SO)(x y:SV):SFr:=[.v (aC (.a 0) (.a 1)),C,.v x,.v y]
theorem th_turn{C:List V}{p:Nat×Option Nat}(fit:eH p)(hj:∀ s,p.2=some s→∃ q,c[s]?=some q∧q.1≠58)(hc:c.length≤5000)(hC:C.length≤4000):
  exs (sem (PN (k+2)) 0 1 1000 39) thB (thF c C (.int p.1) (enc p.2))=some (.next,thF c (C++[encI p]) (.int p.1) (enc p.2)):=by
 obtain ⟨o,a⟩:=p
 rcases fit with ⟨ho,ha⟩ | ⟨ho,s,ha⟩
 ·have ha:a=none:=ha
  subst ha
  let σ:=mkσ [.list (af c),.list (ah c.length)] [] [C] [] [] ⟨a8,a8,trivial⟩ ⟨by lia,trivial⟩ trivial trivial
  have H:FA (PN (k+2)) σ { cmp:=[(.ne,.str [],.str [116],true)],call:=[(2,[.int o],.v (.str []))] }:={ cmp:=⟨rfl,trivial⟩,call:=⟨⟨_,kind_N ho⟩,trivial⟩ }
  have e:=ag (lo:=0) (la:=1) (W:=1000) H (n:=39) (cO (l:=bS) (f:=fun o:Nat=>fW (fw { cmp:=[(.ne,.str [],.str [116],true)],call:=[(2,[.int o],.v (.str []))] } 0 1 39) thB (thS (.list (some 0) []) (.int o) .none))
   (g:=fun o=>some (.next,thS (.list (some 0) [.tup [.int o,.none]]) (.int o) .none)) (by kernel_rfl) o ho)
  have e2:am σ (thS (.list (some 0) []) (.int o) .none)=thF c (C++[]) (.int o) .none:=rfl
  rw[e2,List.append_nil] at e;exact e
 ·have ha:a=some s:=ha
  subst ha
  obtain ⟨q,hq,hq2⟩:=hj s rfl
  let σ:=mkσ [.list (af c),.list (ah c.length)] [s] [C] [] [] ⟨a8,a8,trivial⟩ ⟨by lia,trivial⟩ trivial trivial
  have H:FA (PN (k+2)) σ { cmp:=[(.ne,.str [116],.str [116],false)],call:=[(2,[.int o],.v (.str [116])),(34,[.a 0,.int o,.i 0],.v (.tup [.int o,.i 0]))] }:={ cmp:=⟨rfl,trivial⟩,call:=⟨⟨_,fF ho⟩,⟨_,threaded_ok ho hq hq2 hc⟩,trivial⟩ }
  have e:=ag (lo:=0) (la:=1) (W:=1000) H (n:=39) (cO (l:=cz) (f:=fun o:Nat=>fW (fw { cmp:=[(.ne,.str [116],.str [116],false)],call:=[(2,[.int o],.v (.str [116])),(34,[.a 0,.int o,.i 0],.v (.tup [.int o,.i 0]))] } 0 1 39) thB (thS (.list (some 0) []) (.int o) (.i 0)))
   (g:=fun o=>some (.next,thS (.list (some 0) [.tup [.int o,.i 0]]) (.int o) (.i 0))) (by kernel_rfl) o ho)
  have e2:am σ (thS (.list (some 0) []) (.int o) (.i 0))=thF c (C++[]) (.int o) (.int s):=rfl
  rw[e2,List.append_nil] at e;exact e
theorem th_for(hc:c.length≤5000)(r:Cd):∀ (C:List V) (x y:V),(∀ p∈r,eH p∧∀ s,p.2=some s→∃ q,c[s]?=some q∧q.1≠58)→C.length+r.length≤4000→
  ∃ x' y',cF (sem (PN (k+2)) 0 1 1000 39) 0 (.tup [.var 2,.var 3]) thB (af r) (thF c C x y)=some (.next,thF c (C++af r) x' y'):=by
 induction r with
 | nil=>intro C x y _ _;exact⟨x,y,by show some (Fl.next,_)=some (Fl.next,thF c (C++[]) x y);rw[List.append_nil]⟩
 | cons p r ih=>
  intro C x y h hC
  rw[List.length_cons] at hC
  obtain ⟨h1,h2⟩:=h p (List.mem_cons_self ..)
  obtain ⟨x',y',h3⟩:=ih (C++[encI p]) (.int p.1) (enc p.2) (fun q hq=>h q (List.mem_cons_of_mem _ hq)) (by rw[List.length_append,List.length_singleton];lia)
  refine⟨x',y',aS (fr1:=thF c C (.int p.1) (enc p.2)) rfl (th_turn h1 h2 hc (by lia)) (h3.trans ?_)⟩
  rw[List.append_assoc];rfl
theorem thread_ok(J:JOK c)(hc:c.length≤4000):PN (k+4) 35 [.v (inV c)]=some (bP (.v (.list (af c))) (.list (ah c.length)) (.list []),.v .undef):=by
 obtain ⟨x,y,h⟩:=th_for (c:=c) (k:=k+1) (by lia) c [] .undef .undef J (by simpa using hc)
 have hw:=withc_ok (c:=c) (ln:=ah c.length) (l2:=af c) (k:=k) (by rw[zeros_len];lia)
 have hI:bZ (sem (PN (k+3)) 0 1 1000 39) (.val (.attr (.var 0) 3)) (thF c [] .undef .undef)=some (af c,thF c [] .undef .undef):=rfl
 have e1:(sem (PN (k+3)) 0 1 1000 40).ex (.asg (.t (.var 1)) (.list [])) [.v (inV c),.v .undef,.v .undef,.v .undef]=some (.next,thF c [] .undef .undef):=rfl
 rw[ao (fn:=f_thread_one) rfl (by decide)]
 exact aq (fn:=f_thread_one) (la:=1) (args:=[.v (inV c)]) rfl (ak e1 (ak (cu (n:=39) hI h) (aW (g4 (n:=39) (bR (n:=38) (f:=19) (es:=[.var 0,.var 1]) (vs:=[inV c,.list (af c)]) (fr1:=[.v (inV c),.v (.list (af c)),.v x,.v y]) rfl hw)))))
theorem thread_unit_ok(J:JOK c)(hc:c.length≤4000):PN (k+8) 36 [.v (inV c)]=some (bP (.v (.list (af c))) (.list (ah c.length)) (.list []),.v .undef):=by
 have h:=for_all_ok (k:=k) (thread_ok (k:=k+2) J hc)
 rw[ao (fn:=dv) rfl (by decide)]
 exact aq (fn:=dv) (la:=1) (args:=[.v (inV c)]) rfl (aW (g4 (n:=39) (bR (n:=38) (f:=20) (es:=[.var 0,.const (.fn 35)]) (fr1:=[.v (inV c)]) (vs:=[inV c,.fn 35]) rfl h)))
end
section
variable {c:Cd} {w:List Rw} {pl:Nat→Nat} {ht:Nat→Int} {r pc:Nat}
open Classical in
noncomputable def hv(w:List Rw)(pl:Nat→Nat)(ht:Nat→Int)(x:Nat):Nat:=if h:∃ r,Reach w r∧pl r=x then (ht (choose h)).toNat else 0
noncomputable def hgt(c:Cd)(w:List Rw)(pl:Nat→Nat)(ht:Nat→Int)(x:Nat):Nat:=match c[x]? with
 | some (58,some t)=>hv w pl ht t
 | _=>hv w pl ht x
theorem hv_at(Y:Good c w pl ht)(h:Reach w r):hv w pl ht (pl r)=(ht r).toNat:=by
 have hx:∃ r',Reach w r'∧pl r'=pl r:=⟨r,h,rfl⟩
 unfold hv
 rw[dif_pos hx,Y.inj _ _ (Classical.choose_spec hx).1 h (Classical.choose_spec hx).2]
theorem hgt_no{p:Nat×Option Nat}(h:c[pc]?=some p)(ho:p.1≠58):hgt c w pl ht pc=hv w pl ht pc:=by
 unfold hgt
 rw[h]
 split
 ·rename_i e;cases e;exact absurd rfl ho
 ·rfl
theorem hgt_at(Y:Good c w pl ht)(W:WOK w)(h:Reach w r):hgt c w pl ht (pl r)=(ht r).toNat:=by
 obtain ⟨o,ar,gs,R⟩:=dq Y.lay W h
 rw[hgt_no R.code R.no,hv_at Y h]
theorem hgt_past(Y:Good c w pl ht)(W:WOK w)(h:Reach w r){x:Nat}(p:fj c x (pl r)):hgt c w pl ht x=(ht r).toNat:=by
 rcases p with ⟨e,_⟩ | ⟨_,_,e,_⟩
 ·rw[← e];exact hgt_at Y W h
 ·unfold hgt;rw[e];exact hv_at Y h
theorem grow_tk{o:Nat}(h:o∈bS++cz){g:Int}(hg:db eD (o:Int)=some (.int g)):g=pt o - tk o:=by
 have e:=g7 (l:=bS++cz) (f:=fun o=>if o=58 then none else some (Own.v ((db eD (o:Int)).getD .none),Own.v .none)) (g:=fun o=>if o=58 then none else some (.v (.int ((pt o:Int) - tk o)),.v .none)) (by kernel_rfl) o h
 by_cases h8:o=58
 ·subst h8;cases hg
 ·simp only[h8,if_false,hg] at e
  injection e with e
  injection e with e _
  injection e with e
  injection e with e
theorem toNat_step{h d:Int}{t p:Nat}(h1:(t:Int)≤h)(e:d=(p:Int) - t):(h+d).toNat=h.toNat - t+p:=by
 obtain ⟨n,rfl⟩:=Int.eq_ofNat_of_zero_le (Int.le_trans (Int.natCast_nonneg t) h1)
 obtain ⟨k,rfl⟩:=Nat.exists_eq_add_of_le (Int.ofNat_le.mp h1)
 rw[e,show ((t+k:Nat):Int)+((p:Int) - t)=((k+p:Nat):Int) by lia,Int.toNat_natCast,Int.toNat_natCast,Nat.add_sub_cancel_left]
theorem flow_ok(Y:Good c w pl ht)(W:WOK w)(HH:∀ r,Reach w r→∀ o gs,w[r]?=some (o,gs)→(tk o:Int)≤ht r∧ht r≤100):Flow c (hgt c w pl ht):=by
 have L:=Y.lay
 refine⟨L.cl,code_pos L,(hgt_past Y W .zero L.start).trans (by rw[L.h0];rfl),fun pc hpc=>?_⟩
 obtain ⟨r,hr,rfl | e⟩:=live_on L W hpc
 ·obtain ⟨o,ar,gs,R⟩:=dq L W hr
  obtain ⟨h1,h2⟩:=HH r hr o gs R.way
  have e1:=hgt_at Y W hr
  refine⟨(o,ar),R.code,R.fit,?_,?_,fun s hs=>?_⟩
  ·rw[e1];show tk o≤_;lia
  ·rw[e1];lia
  ·obtain ⟨g,hg,p⟩:=R.to s hs
   obtain ⟨o',gs',hw,R'⟩:=L.row r hr
   have hw2:=R.way
   rw[hw] at hw2;cases hw2
   obtain ⟨d,hd,hx⟩:=R'.gr
   have hmem:o∈bS++cz:=by
    rcases R.fit with ⟨h,_⟩ | ⟨h,_⟩
    ·exact List.mem_append_left _ h
    ·exact List.mem_append_right _ h
   have e2:=grow_tk hmem hd
   refine⟨past_lt p,?_⟩
   rw[hgt_past Y W (.step hr hw hg) p,e1,hx g hg]
   exact toNat_step h1 e2
 ·obtain ⟨o,ar,gs,R⟩:=dq L W hr
  obtain ⟨h1,h2⟩:=HH r hr o gs R.way
  have e1:hgt c w pl ht pc=(ht r).toNat:=by unfold hgt;rw[e];exact hv_at Y hr
  refine⟨_,e,.inr ⟨by show 58∈cz;decide,_,rfl⟩,Nat.zero_le _,by rw[e1];lia,fun s hs=>?_⟩
  rw[show s=pl r from List.mem_singleton.mp hs,hgt_at Y W hr,e1]
  exact⟨ai R.code,rfl⟩
end
noncomputable def av(C L P:List V):Own:=.inst 0 [.v (.str [98,108,111,99,107,115]),.v (.list []),.v (.bool false),.list C,.list L,.v (.int 0),.list [],.list [],.list P,.list [],.v (.int 0),.v (.int 0),.list [],.v (.bool false),.v .none,.v .none,.list []]
noncomputable def bF(co li pl:SO1):SO:=.inst 0 [.v (.str [98,108,111,99,107,115]),.v (.list none []),.v (.bool false),co,li,.v (.int 0),.list none [],.list none [],pl,.list none [],.v (.int 0),.v (.int 0),.list none [],.v (.bool false),.v .none,.v .none,.list none []]
noncomputable abbrev cS0:SO:=bF (.list (some 0) []) (.list (some 1) []) (.list (some 2) [])
theorem aG{C L P:List V}:av (C++[]) (L++[]) (P++[])=av C L P:=by rw[List.append_nil,List.append_nil,List.append_nil]
noncomputable def d5(C L P:List V):Own:=.inst 0 [.v (.str [98,108,111,99,107,115]),.v (.list []),.v (.bool false),.v (.list C),.list L,.v (.int 0),.list [],.list [],.list P,.list [],.v (.int 0),.v (.int 0),.list [],.v (.bool false),.v .none,.v .none,.list []]
noncomputable abbrev cZ0:SO:=bF (.v (.a 0)) (.list (some 0) []) (.list (some 1) [])
theorem dM{C L P:List V}:d5 C (L++[]) (P++[])=d5 C L P:=by rw[List.append_nil,List.append_nil]
section
variable {C L P:List V} {k:Nat}
theorem new_ok:PN (k+1) 0 [.inst 0 (List.replicate 17 (.v .undef)),.v (.str [98,108,111,99,107,115]),.v (.list []),.v (.bool false)]=some (.v .none,av [] [] []):=by kernel_rfl
theorem here_ok(hC:C.length≤4000)(hL:L.length≤4000)(hP:P.length≤4000):PN (k+1) 6 [av C L P]=some (.v (.int C.length),av C L P):=by
 let σ:=mkσ [] [C.length] [C,L,P] [] [] trivial ⟨by lia,by lia,by lia,trivial⟩ trivial trivial
 have hl:V.len (.list (C++[]))=some C.length:=by rw[List.append_nil,len_list (by lia)]
 have H:FA (PN k) σ { len:=[(.list (some 0) [],.i 0)] }:={ len:=⟨⟨_,hl,rfl⟩,trivial⟩ }
 have e:=ag (lo:=1) (la:=1) (W:=1000) H (n:=40) (b:=f_Code_here.body) (fr:=[cS0]) (f:=.ret (.v (.i 0))) (fr':=[cS0]) (by kernel_rfl)
 rw[← aG,ao (fn:=f_Code_here) rfl (by decide)]
 exact aq (fn:=f_Code_here) (la:=1) (args:=[av (C++[]) (L++[]) (P++[])]) rfl e
theorem emit_ok{o a:V}(ho:o≠.undef)(ha:a≠.undef)(hC:C.length≤4000)(hL:L.length≤4000)(hP:P.length≤4000):PN (k+1) 7 [av C L P,.v o,.v a]=some (.v (.int C.length),av (C++[.tup [o,a]]) (L++[.int 0]) P):=by
 let σ:=mkσ [o,a] [C.length,(C.length:Int)+1] [C,L,P] [] [] ⟨ho,ha,trivial⟩ ⟨by lia,by lia,by lia,trivial⟩ trivial trivial
 have hl:V.len (.list (C++[.tup [o,a]]))=some (C.length+1):=by rw[len_list (by rw[List.length_append,List.length_singleton];lia),List.length_append];rfl
 have hs:bH .sub (.int ((C.length:Int)+1)) (.int 1)=some (.v (.int C.length)):=by rw[sub_int,show (C.length:Int)+1 - 1=C.length by lia]
 have H:FA (PN k) σ { len:=[(.list (some 0) [.tup [.a 0,.a 1]],.i 1)],bin:=[(.sub,.i 1,.int 1,.v (.i 0))] }:={ len:=⟨⟨_,hl,rfl⟩,trivial⟩,bin:=⟨hs,trivial⟩ }
 have e:=ag (lo:=1) (la:=1) (W:=1000) H (n:=40) (b:=f_Code_emit.body) (fr:=[cS0,.v (.a 0),.v (.a 1)]) (f:=.ret (.v (.i 0))) (fr':=[bF (.list (some 0) [.tup [.a 0,.a 1]]) (.list (some 1) [.int 0]) (.list (some 2) []),.v (.a 0),.v (.a 1)]) (by kernel_rfl)
 rw[← aG,ao (fn:=f_Code_emit) rfl (by decide)]
 refine(aq (fn:=f_Code_emit) (la:=1) (args:=[av (C++[]) (L++[]) (P++[]),.v o,.v a]) rfl e).trans ?_
 show some (_,av (C++[.tup [o,a]]) (L++[.int 0]) (P++[]))=_
 rw[List.append_nil];rfl
theorem jump_ok{o a:V}(ho:o≠.undef)(ha:a≠.undef)(hC:C.length≤4000)(hL:L.length≤4000)(hP:P.length≤4000):PN (k+2) 10 [av C L P,.v o,.v a]=some (.v (.int C.length),av (C++[.tup [o,a]]) (L++[.int 0]) P):=by
 let σ:=mkσ [o,a] [C.length] [C,L,P] [] [] ⟨ho,ha,trivial⟩ ⟨by lia,by lia,by lia,trivial⟩ trivial trivial
 have hm:PN (k+1) 7 [av (C++[]) (L++[]) (P++[]),.v o,.v a]=some (.v (.int C.length),av (C++[.tup [o,a]]) (L++[.int 0]) (P++[])):=by rw[aG,List.append_nil];exact emit_ok ho ha hC hL hP
 have H:FA (PN (k+1)) σ { meth:=[(7,cS0,[.a 0,.a 1],.v (.i 0),bF (.list (some 0) [.tup [.a 0,.a 1]]) (.list (some 1) [.int 0]) (.list (some 2) []))] }:={ meth:=⟨hm,trivial⟩ }
 have e:=ag (lo:=1) (la:=1) (W:=1000) H (n:=40) (b:=f_Code_jump.body) (fr:=[cS0,.v (.a 0),.v (.a 1)]) (f:=.ret (.v (.i 0))) (fr':=[bF (.list (some 0) [.tup [.a 0,.a 1]]) (.list (some 1) [.int 0]) (.list (some 2) []),.v (.a 0),.v (.a 1)]) (by kernel_rfl)
 rw[← aG,ao (fn:=f_Code_jump) rfl (by decide)]
 refine(aq (fn:=f_Code_jump) (la:=1) (args:=[av (C++[]) (L++[]) (P++[]),.v o,.v a]) rfl e).trans ?_
 show some (_,av (C++[.tup [o,a]]) (L++[.int 0]) (P++[]))=_
 rw[List.append_nil];rfl
theorem label_ok(hC:C.length≤4000)(hL:L.length≤4000)(hP:P.length≤4000):PN (k+1) 8 [av C L P]=some (.v (.int P.length),av C L (P++[.int (-1)])):=by
 let σ:=mkσ [] [P.length,(P.length:Int)+1] [C,L,P] [] [] trivial ⟨by lia,by lia,by lia,trivial⟩ trivial trivial
 have hl:V.len (.list (P++[.int (-1)]))=some (P.length+1):=by rw[len_list (by rw[List.length_append,List.length_singleton];lia),List.length_append];rfl
 have hs:bH .sub (.int ((P.length:Int)+1)) (.int 1)=some (.v (.int P.length)):=by rw[sub_int,show (P.length:Int)+1 - 1=P.length by lia]
 have H:FA (PN k) σ { len:=[(.list (some 2) [.int (-1)],.i 1)],bin:=[(.sub,.i 1,.int 1,.v (.i 0))] }:={ len:=⟨⟨_,hl,rfl⟩,trivial⟩,bin:=⟨hs,trivial⟩ }
 have e:=ag (lo:=1) (la:=1) (W:=1000) H (n:=40) (b:=f_Code_label.body) (fr:=[cS0]) (f:=.ret (.v (.i 0))) (fr':=[bF (.list (some 0) []) (.list (some 1) []) (.list (some 2) [.int (-1)])]) (by kernel_rfl)
 rw[← aG,ao (fn:=f_Code_label) rfl (by decide)]
 refine(aq (fn:=f_Code_label) (la:=1) (args:=[av (C++[]) (L++[]) (P++[])]) rfl e).trans ?_
 show some (_,av (C++[]) (L++[]) (P++[.int (-1)]))=_
 rw[List.append_nil,List.append_nil];rfl
theorem ge_neg{a:Int}(h:a<0):aH .ge (.int a) (.int 0)=some false:=by rw[cmp_ge,decide_eq_false (by lia)]
theorem place_ok'{i:Nat}{x:Int}(hx:P[i]?=some (.int x))(hx2:x<0)(hC:C.length≤4000)(hL:L.length≤4000)(hP:P.length≤4000):PN (k+2) 9 [av C L P,.v (.int i)]=some (.v .none,av C L (P.set i (.int C.length))):=by
 let σ:=mkσ [] [i,x,C.length] [C,L,P,P.set i (.int C.length)] [] [] trivial ⟨by lia,by lia,by lia,by show (P.set _ _).length≤5000;rw[List.length_set];lia,trivial⟩ trivial trivial
 have hm:PN (k+1) 6 [av (C++[]) (L++[]) (P++[])]=some (.v (.int C.length),av (C++[]) (L++[]) (P++[])):=by rw[aG];exact here_ok hC hL hP
 have hit:V.item (.list (P++[])) (.int i)=some (.int x):=by rw[List.append_nil];exact item_list hx (by lia)
 have H:FA (PN (k+1)) σ { item:=[(.list (some 2) [],.i 0,.i 1)],cmp:=[(.ge,.i 1,.int 0,false)],lset:=[(2,.i 0,.i 2,3)],meth:=[(6,cS0,[],.v (.i 2),cS0)] }:=
  { item:=⟨⟨hit,aL⟩,trivial⟩,cmp:=⟨ge_neg hx2,trivial⟩,lset:=⟨⟨i,rfl,ai hx,rfl⟩,trivial⟩,meth:=⟨hm,trivial⟩ }
 have e:=ag (lo:=1) (la:=1) (W:=1000) H (n:=40) (b:=f_Code_place.body) (fr:=[cS0,.v (.i 0)]) (f:=.next) (fr':=[bF (.list (some 0) []) (.list (some 1) []) (.list (some 3) []),.v (.i 0)]) (by kernel_rfl)
 rw[← aG,ao (fn:=f_Code_place) rfl (by decide)]
 refine(run_next (fn:=f_Code_place) (la:=1) (args:=[av (C++[]) (L++[]) (P++[]),.v (.int i)]) rfl e).trans ?_
 show some (_,av (C++[]) (L++[]) (P.set i (.int C.length)++[]))=_
 rw[aG]
theorem place_of_ok{i:Nat}{x:Nat}{pc:Int}(hx:P[i]?=some (.int x))(hL:L.length≤4000)(hP:P.length≤4000):PN (k+1) 11 [d5 C L P,.v (.int i),.v (.int pc)]=some (.v (.int x),d5 C L P):=by
 let σ:=mkσ [.list C] [i,x,pc] [L,P] [] [] ⟨a8,trivial⟩ ⟨by lia,by lia,trivial⟩ trivial trivial
 have hit:V.item (.list (P++[])) (.int i)=some (.int x):=by rw[List.append_nil];exact item_list hx (by lia)
 have hlt:aH .lt (.int x) (.int 0)=some false:=lt_no (b:=0) (Nat.zero_le x)
 have H:FA (PN k) σ { item:=[(.list (some 1) [],.i 0,.i 1)],cmp:=[(.lt,.i 1,.int 0,false)] }:={ item:=⟨⟨hit,aL⟩,trivial⟩,cmp:=⟨hlt,trivial⟩ }
 have e:=ag (lo:=1) (la:=1) (W:=1000) H (n:=40) (b:=f_Code_place_of.body) (fr:=[cZ0,.v (.i 0),.v (.i 2)]) (f:=.ret (.v (.i 1))) (fr':=[cZ0,.v (.i 0),.v (.i 2)]) (by kernel_rfl)
 rw[← dM,ao (fn:=f_Code_place_of) rfl (by decide)]
 exact aq (fn:=f_Code_place_of) (la:=1) (args:=[d5 C (L++[]) (P++[]),.v (.int i),.v (.int pc)]) rfl e
end
inductive RowI where
 | l (w:List Nat)
 | o (op:Nat)
 | j (op:Nat) (w:List Nat)
noncomputable def aJ:RowI→V
 | .l w=>.str w
 | .o op=>.tup [.int op,.none]
 | .j op w=>.tup [.int op,.str w]
noncomputable def fY(f:List Nat→Nat):RowI→Cd
 | .l _=>[]
 | .o op=>[(op,none)]
 | .j op w=>[(op,some (f w))]
noncomputable def bg(f:List Nat→Nat)(A:List RowI):Cd:=A.flatMap (fY f)
noncomputable def nc(A:List RowI):Nat:=(bg (fun _=>0) A).length
noncomputable def isLb(w:List Nat):RowI→Bool
 | .l v=>v==w
 | _=>false
noncomputable def bz(w:List Nat):List RowI→Option Nat
 | []=>none
 | r::A=>if isLb w r then some 0 else (bz w A).map (·+nc [r])
theorem dz{f:List Nat→Nat}{A B:List RowI}:bg f (A++B)=bg f A++bg f B:=List.flatMap_append
theorem rowC_len{f g:List Nat→Nat}{r:RowI}:(fY f r).length=(fY g r).length:=by cases r <;> rfl
theorem ch{f:List Nat→Nat}{A:List RowI}:(bg f A).length=nc A:=by
 unfold nc
 induction A with
 | nil=>rfl
 | cons r A ih=>
  show (fY f r++bg f A).length=(fY _ r++bg _ A).length
  rw[List.length_append,List.length_append,ih,rowC_len]
theorem bY{A B:List RowI}:nc (A++B)=nc A+nc B:=by unfold nc;rw[dz,List.length_append]
theorem nc_cons{r:RowI}{A:List RowI}:nc (r::A)=nc [r]+nc A:=bY (A:=[r])
theorem dD{w:List Nat}{A B:List RowI}:bz w (A++B)=match bz w A with
  | some p=>some p
  | none=>(bz w B).map (·+nc A):=by
 induction A with
 | nil=>show bz w B=(bz w B).map (·+0);cases bz w B <;> rfl
 | cons r A ih=>
  show (if isLb w r then some 0 else (bz w (A++B)).map (·+nc [r]))=_
  rw[ih]
  show _=match (if isLb w r then some 0 else (bz w A).map (·+nc [r])) with | some p=>some p | none=>_
  by_cases h:isLb w r=true
  ·rw[if_pos h,if_pos h]
  ·rw[if_neg h,if_neg h,nc_cons (A:=A)]
   cases bz w A with
   | some p=>rfl
   | none=>
    cases bz w B with
    | none=>rfl
    | some q=>show some (q+nc A+nc [r])=some (q+(nc [r]+nc A));congr 1;lia
theorem ci{w:List Nat}{A:List RowI}(h:RowI.l w∉A):bz w A=none:=by
 induction A with
 | nil=>rfl
 | cons r A ih=>
  rw[bz,if_neg,ih fun h2=>h (List.mem_cons_of_mem _ h2)];rfl
  intro hr
  cases r with
  | l v=>rw[eq_of_beq hr] at h;exact h (List.mem_cons_self ..)
  | o _=>cases hr
  | j _ _=>cases hr
structure AS where
 ws:List (List Nat)
 ps:List Int
 cd:Cd
noncomputable def c9(ws:List (List Nat))(w:List Nat):List (List Nat):=if w∈ws then ws else ws++[w]
noncomputable def ensP(ws:List (List Nat))(ps:List Int)(w:List Nat):List Int:=if w∈ws then ps else ps++[-1]
noncomputable def ez(s:AS):RowI→AS
 | .l w=>⟨c9 s.ws w,(ensP s.ws s.ps w).set ((c9 s.ws w).idxOf w) s.cd.length,s.cd⟩
 | .o op=>⟨s.ws,s.ps,s.cd++[(op,none)]⟩
 | .j op w=>⟨c9 s.ws w,ensP s.ws s.ps w,s.cd++[(op,some ((c9 s.ws w).idxOf w))]⟩
noncomputable def posI:Option Nat→Int
 | some p=>p
 | none=>-1
noncomputable def wordOf:RowI→Option (List Nat)
 | .l w=>some w
 | .j _ w=>some w
 | .o _=>none
structure AInv (A:List RowI) (s:AS):Prop where
 nd:s.ws.Nodup
 len:s.ps.length=s.ws.length
 mem:∀ r∈A,∀ w,wordOf r=some w→w∈s.ws
 cd:s.cd=bg (fun w=>s.ws.idxOf w) A
 ps:∀ w∈s.ws,s.ps[s.ws.idxOf w]?=some (posI (bz w A))
 bnd:s.ws.length≤A.length
theorem ens_mem{ws:List (List Nat)}{w:List Nat}:w∈c9 ws w:=by unfold c9;split <;> simp_all
theorem ens_sub{ws:List (List Nat)}{w v:List Nat}(h:v∈ws):v∈c9 ws w:=by unfold c9;split <;> simp_all
theorem ens_idx{ws:List (List Nat)}{w v:List Nat}(h:v∈ws):(c9 ws w).idxOf v=ws.idxOf v:=by
 unfold c9
 split
 ·rfl
 ·rw[List.idxOf_append,if_pos h]
theorem idx_at{ws:List (List Nat)}{v:List Nat}(h:v∈ws):ws[ws.idxOf v]?=some v:=by
 rw[List.getElem?_eq_getElem (List.idxOf_lt_length_of_mem h),List.getElem_idxOf]
theorem idx_inj{ws:List (List Nat)}{v w:List Nat}(h:v∈ws)(h2:w∈ws)(e:ws.idxOf v=ws.idxOf w):v=w:=by
 have a:=idx_at h
 rw[e,idx_at h2] at a
 cases a;rfl
theorem rowsC_congr{f g:List Nat→Nat}{A:List RowI}(h:∀ r∈A,∀ w,wordOf r=some w→f w=g w):bg f A=bg g A:=by
 unfold bg
 induction A with
 | nil=>rfl
 | cons r A ih=>
  rw[List.flatMap_cons,List.flatMap_cons,ih fun x hx=>h x (List.mem_cons_of_mem _ hx)]
  congr 1
  have:=h r (List.mem_cons_self ..)
  cases r with
  | l _=>rfl
  | o _=>rfl
  | j o w=>show [(o,some (f w))]=[(o,some (g w))];rw[this w rfl]
theorem AInv.ens{A:List RowI}{s:AS}(I:AInv A s)(w:List Nat)(h:w∉s.ws→bz w A=none):
  (c9 s.ws w).Nodup∧(ensP s.ws s.ps w).length=(c9 s.ws w).length∧(∀ v∈c9 s.ws w,(ensP s.ws s.ps w)[(c9 s.ws w).idxOf v]?=some (posI (bz v A)))∧(c9 s.ws w).length≤A.length+1:=by
 unfold c9 ensP
 by_cases hw:w∈s.ws
 ·rw[if_pos hw,if_pos hw]
  exact⟨I.nd,I.len,I.ps,Nat.le_succ_of_le I.bnd⟩
 ·rw[if_neg hw,if_neg hw]
  refine⟨?_,by rw[List.length_append,List.length_append,I.len];rfl,fun v hv=>?_,by rw[List.length_append];exact Nat.succ_le_succ I.bnd⟩
  ·rw[List.nodup_append]
   exact⟨I.nd,by simp,fun a ha b hb e=>hw (by rw[List.mem_singleton.mp hb] at e;exact e▸ha)⟩
  ·rw[List.idxOf_append]
   by_cases hv2:v∈s.ws
   ·rw[if_pos hv2,List.getElem?_append_left (by rw[I.len];exact List.idxOf_lt_length_of_mem hv2)]
    exact I.ps v hv2
   ·rw[if_neg hv2]
    have e:v=w:=by
     rcases List.mem_append.mp hv with h3 | h3
     ·exact absurd h3 hv2
     ·exact List.mem_singleton.mp h3
    subst e
    rw[h hv2,List.getElem?_append_right (by rw[I.len];exact Nat.le_add_left ..),I.len]
    simp [posI]
theorem AInv.step{A:List RowI}{s:AS}{r:RowI}(I:AInv A s)(hr:∀ w,r=.l w→bz w A=none)(hm:∀ w,w∉s.ws→bz w A=none):AInv (A++[r]) (ez s r):=by
 have hcd:∀ w,s.cd=bg (fun v=>(c9 s.ws w).idxOf v) A:=fun w=>I.cd.trans (rowsC_congr fun r hr v hv=>(ens_idx (I.mem r hr v hv)).symm)
 have hmem:∀ w,(∀ v,wordOf r=some v→v=w)→∀ x∈A++[r],∀ v,wordOf x=some v→v∈c9 s.ws w:=fun w h0 x hx v hv=>by
  rcases List.mem_append.mp hx with h | h
  ·exact ens_sub (I.mem x h v hv)
  ·rw[List.mem_singleton.mp h] at hv;rw[h0 v hv];exact ens_mem
 have hlen:(A++[r]).length=A.length+1:=by rw[List.length_append];rfl
 cases r with
 | l w=>
  obtain ⟨h1,h2,h3,h4⟩:=I.ens w (hm w)
  refine⟨h1,by show (List.set _ _ _).length=_;rw[List.length_set];exact h2,hmem w fun v e=>by cases e;rfl,?_,fun v hv=>?_,by rw[hlen];exact h4⟩
  ·show s.cd=_
   rw[dz,hcd w];exact(List.append_nil _).symm
  ·have hv:v∈c9 s.ws w:=hv
   show ((ensP s.ws s.ps w).set ((c9 s.ws w).idxOf w) s.cd.length)[(c9 s.ws w).idxOf v]?=_
   rw[dD]
   by_cases e:v=w
   ·subst e
    rw[hr v rfl]
    have hlt:(c9 s.ws v).idxOf v<(ensP s.ws s.ps v).length:=by rw[h2];exact List.idxOf_lt_length_of_mem hv
    rw[List.getElem?_set,if_pos rfl,if_pos hlt]
    show some _=some (posI ((if (v==v)=true then some 0 else _).map _))
    rw[if_pos (beq_self_eq_true v)]
    show some (s.cd.length:Int)=some (((0+nc A:Nat):Int))
    rw[I.cd,ch,Nat.zero_add]
   ·have hne:(c9 s.ws w).idxOf w≠(c9 s.ws w).idxOf v:=fun h=>e (idx_inj hv ens_mem h.symm)
    have hw2:(w==v)=false:=beq_false_of_ne fun h=>e h.symm
    rw[List.getElem?_set_ne hne,h3 v hv]
    cases bz v A with
    | some p=>rfl
    | none=>
     show _=some (posI ((if (w==v)=true then some 0 else none).map _))
     rw[hw2];rfl
 | o op=>
  refine⟨I.nd,I.len,fun x hx v hv=>?_,?_,fun v hv=>?_,by rw[hlen];exact Nat.le_succ_of_le I.bnd⟩
  ·rcases List.mem_append.mp hx with h | h
   ·exact I.mem x h v hv
   ·rw[List.mem_singleton.mp h] at hv;cases hv
  ·show s.cd++_=_
   rw[dz,I.cd];rfl
  ·show s.ps[s.ws.idxOf v]?=_
   rw[I.ps v hv,dD]
   cases bz v A <;> rfl
 | j op w=>
  obtain ⟨h1,h2,h3,h4⟩:=I.ens w (hm w)
  refine⟨h1,h2,hmem w fun v e=>by cases e;rfl,?_,fun v hv=>?_,by rw[hlen];exact h4⟩
  ·show s.cd++_=_
   rw[dz,hcd w];rfl
  ·show (ensP s.ws s.ps w)[(c9 s.ws w).idxOf v]?=_
   rw[h3 v hv,dD]
   cases bz v A <;> rfl
noncomputable def sd(ws:List (List Nat)):List (List Nat×V):=ws.zipIdx.map fun p=>(p.1,.int p.2)
noncomputable def sdI(i:Nat)(ws:List (List Nat)):List (List Nat×V):=(ws.zipIdx i).map fun p=>(p.1,.int p.2)
theorem sd_len{ws:List (List Nat)}:(sd ws).length=ws.length:=by unfold sd;rw[List.length_map,List.length_zipIdx]
theorem sdI_any{w:List Nat}{ws:List (List Nat)}:∀ {i:Nat},(sdI i ws).any (fun p=>p.1==w)=decide (w∈ws):=by
 induction ws with
 | nil=>intro i;rfl
 | cons x ws ih=>
  intro i
  show (x==w||(sdI (i+1) ws).any _)=_
  rw[ih]
  by_cases h:x=w
  ·subst h;simp
  ·have:(x==w)=false:=beq_false_of_ne h
   have h2:w≠x:=fun e=>h e.symm
   simp [this,h2]
theorem sdI_find{w:List Nat}{ws:List (List Nat)}:∀ {i:Nat},w∈ws→db (sdI i ws) w=some (.int ((i+ws.idxOf w:Nat):Int)):=by
 induction ws with
 | nil=>intro i h;cases h
 | cons x ws ih=>
  intro i h
  show ((List.find? _ ((x,V.int i)::sdI (i+1) ws)).map _)=_
  rw[List.find?_cons,List.idxOf_cons]
  dsimp only
  cases hx:x==w with
  | true=>rfl
  | false=>
   have hm:w∈ws:=(List.mem_cons.mp h).resolve_left fun e=>by rw[e,beq_self_eq_true] at hx;cases hx
   have:=ih (i:=i+1) hm
   show db (sdI (i+1) ws) w=some (.int ((i+(ws.idxOf w+1):Nat):Int))
   rw[this,show i+1+ws.idxOf w=i+(ws.idxOf w+1) by lia]
theorem sd_notIn{w:List Nat}{ws:List (List Nat)}:aH .notIn (.str w) (.sdict (sd ws))=some (decide (w∉ws)):=by
 show some (!(sd ws).any _)=_
 rw[show (sd ws).any (fun p=>p.1==w)=decide (w∈ws) from sdI_any];simp
theorem sd_item{w:List Nat}{ws:List (List Nat)}(h:w∈ws):V.item (.sdict (sd ws)) (.str w)=some (.int (ws.idxOf w:Nat)):=(sdI_find h).trans (by rw[Nat.zero_add])
theorem sd_set{w:List Nat}{ws:List (List Nat)}(h:w∉ws):dset (sd ws) w (.int ws.length)=sd (ws++[w]):=by
 unfold dset
 rw[show (sd ws).any (fun p=>p.1==w)=decide (w∈ws) from sdI_any,decide_eq_false h]
 show sd ws++_=_
 unfold sd
 rw[List.zipIdx_append,List.map_append];simp
theorem idx_new{w:List Nat}{ws:List (List Nat)}(h:w∉ws):(ws++[w]).idxOf w=ws.length:=by rw[List.idxOf_append,if_neg h];simp
theorem ensW_y{ws:List (List Nat)}{w:List Nat}(h:w∈ws):c9 ws w=ws:=if_pos h
theorem ensW_n{ws:List (List Nat)}{w:List Nat}(h:w∉ws):c9 ws w=ws++[w]:=if_neg h
theorem ensP_y{ws:List (List Nat)}{ps:List Int}{w:List Nat}(h:w∈ws):ensP ws ps w=ps:=if_pos h
theorem ensP_n{ws:List (List Nat)}{ps:List Int}{w:List Nat}(h:w∉ws):ensP ws ps w=ps++[-1]:=if_neg h
theorem stepA_l{s:AS}{w:List Nat}:ez s (.l w)=⟨c9 s.ws w,(ensP s.ws s.ps w).set ((c9 s.ws w).idxOf w) s.cd.length,s.cd⟩:=rfl
theorem stepA_j{s:AS}{op:Nat}{w:List Nat}:ez s (.j op w)=⟨c9 s.ws w,ensP s.ws s.ps w,s.cd++[(op,some ((c9 s.ws w).idxOf w))]⟩:=rfl
noncomputable def pv(ps:List Int):List V:=ps.map .int
theorem pv_get{ps:List Int}{i:Nat}{x:Int}(h:ps[i]?=some x):(pv ps)[i]?=some (.int x):=by unfold pv;rw[List.getElem?_map,h];rfl
noncomputable abbrev asB:List S:=bJ f_assemble.body 1
noncomputable def ey:V:=.str [98,108,111,99,107,115]
noncomputable def asF(rows:List V)(s:AS)(x y z:V):Fr:=[.v ey,.v (.list rows),av (af s.cd) (ah s.cd.length) (pv s.ps),.sdict (sd s.ws),.v x,.v y,.v z]
noncomputable def asS(c:SO)(d:SO)(x y z:SV):SFr:=[.v (.k ey),.v (.a 1),c,d,.v x,.v y,.v z]
noncomputable def FitsR:RowI→Prop
 | .l _=>True
 | .o op=>op∈bS
 | .j op _=>op∈cz
theorem bW{w:List Nat}:V.str w≠.undef:=fun e=>by cases e
theorem fe:V.none≠.undef:=fun e=>by cases e
theorem fv{n:Nat}:ah n++[.int 0]=ah (n+1):=by unfold ah;rw[List.replicate_succ']
theorem encC_snoc{c:Cd}{p:Nat×Option Nat}:af c++[encI p]=af (c++[p]):=by unfold af;rw[List.map_append];rfl
theorem aM{α:Type}(l:List α)(x:α):(l++[x]).length=l.length+1:=by rw[List.length_append];rfl
section
variable {rows:List V} {s:AS} {A:List RowI} {k:Nat} {y z:V}
theorem e0{C L P:List V}{D:Own}{x y z:V}:[Own.v ey,.v (.list rows),av (C++[]) (L++[]) (P++[]),D,.v x,.v y,.v z]=[Own.v ey,.v (.list rows),av C L P,D,.v x,.v y,.v z]:=by rw[aG]
theorem asm_l{w:List Nat}(I:AInv A s)(hr:bz w A=none)(hs:A.length≤3000)(hc:s.cd.length≤3000):∃ y' z',exs (sem (PN (k+2)) 0 1 1000 39) asB (asF rows s (.str w) y z)=some (.next,asF rows (ez s (.l w)) (.str w) y' z'):=by
 have hb:=I.bnd
 have hl:=I.len
 have hC:(af s.cd).length≤4000:=by rw[bn];lia
 have hZ:(ah s.cd.length).length≤4000:=by rw[zeros_len];lia
 have hP:(pv s.ps).length=s.ws.length:=by unfold pv;rw[List.length_map,hl]
 have hD:(sd s.ws).length≤5000:=by rw[sd_len];lia
 refine⟨.str w,.bool true,?_⟩
 by_cases hw:w∈s.ws
 ·have hi:=I.ps w hw
  rw[hr] at hi
  have e1:ez s (.l w)=⟨s.ws,s.ps.set (s.ws.idxOf w) s.cd.length,s.cd⟩:=by rw[stepA_l,ensW_y hw,ensP_y hw]
  let P':List V:=(pv s.ps).set (s.ws.idxOf w) (.int (af s.cd).length)
  have hP':P'=pv (s.ps.set (s.ws.idxOf w) s.cd.length):=by unfold pv;rw[List.map_set,← bn];rfl
  let σ:=mkσ [.str w,.list rows] [s.ws.idxOf w] [af s.cd,ah s.cd.length,pv s.ps,P'] [] [sd s.ws] ⟨bW,a8,trivial⟩ ⟨by lia,by lia,by lia,by show ((pv s.ps).set _ _).length≤5000;rw[List.length_set];lia,trivial⟩ trivial ⟨hD,trivial⟩
  have hm:PN (k+2) 9 [av (af s.cd++[]) (ah s.cd.length++[]) (pv s.ps++[]),.v (.int (s.ws.idxOf w:Nat))]=some (.v .none,av (af s.cd++[]) (ah s.cd.length++[]) (P'++[])):=by
   rw[aG,aG];exact place_ok' (pv_get hi) (by decide) hC hZ (by lia)
  have H:FA (PN (k+2)) σ { item:=[(.sdict 0,.a 0,.i 0)],cmp:=[(.notIn,.a 0,.sdict 0,false)],prim:=[(.isStr,.a 0,.v (.bool true))],meth:=[(9,cS0,[.i 0],.v .none,bF (.list (some 0) []) (.list (some 1) []) (.list (some 3) []))] }:=
   { item:=⟨⟨sd_item hw,aL⟩,trivial⟩,cmp:=⟨sd_notIn.trans (by rw[decide_eq_false (fun h=>h hw)]),trivial⟩,prim:=⟨rfl,trivial⟩,meth:=⟨hm,trivial⟩ }
  have e:=ag (lo:=0) (la:=1) (W:=1000) H (n:=39) (b:=asB) (fr:=asS cS0 (.sdict 0) (.a 0) (.k y) (.k z)) (f:=.next) (fr':=asS (bF (.list (some 0) []) (.list (some 1) []) (.list (some 3) [])) (.sdict 0) (.a 0) (.a 0) (.bool true)) (by kernel_rfl)
  replace e:exs (sem (PN (k+2)) 0 1 1000 39) asB [Own.v ey,.v (.list rows),av (af s.cd++[]) (ah s.cd.length++[]) (pv s.ps++[]),.sdict (sd s.ws),.v (.str w),.v y,.v z]=some (.next,[Own.v ey,.v (.list rows),av (af s.cd++[]) (ah s.cd.length++[]) (P'++[]),.sdict (sd s.ws),.v (.str w),.v (.str w),.v (.bool true)]):=e
  rw[e0,e0,hP'] at e
  rw[e1];exact e
 ·have e1:ez s (.l w)=⟨s.ws++[w],(s.ps++[-1]).set s.ws.length s.cd.length,s.cd⟩:=by rw[stepA_l,ensW_n hw,ensP_n hw,idx_new hw]
  let P1:List V:=pv s.ps++[.int (-1)]
  let P':List V:=P1.set s.ws.length (.int (af s.cd).length)
  have hP1:P1.length=s.ws.length+1:=by rw[aM,hP]
  have hP':P'=pv ((s.ps++[-1]).set s.ws.length s.cd.length):=by unfold pv;rw[List.map_set,List.map_append,← bn];rfl
  let σ:=mkσ [.str w,.list rows] [s.ws.length] [af s.cd,ah s.cd.length,pv s.ps,P'] [] [sd s.ws,sd (s.ws++[w])] ⟨bW,a8,trivial⟩ ⟨by lia,by lia,by lia,by show (P1.set _ _).length≤5000;rw[List.length_set];lia,trivial⟩ trivial ⟨hD,by show (sd _).length≤5000;rw[sd_len,aM];lia,trivial⟩
  have hm1:PN (k+2) 8 [av (af s.cd++[]) (ah s.cd.length++[]) (pv s.ps++[])]=some (.v (.int s.ws.length),av (af s.cd++[]) (ah s.cd.length++[]) P1):=by
   rw[aG,List.append_nil,List.append_nil,← hP];exact label_ok hC hZ (by lia)
  have hm:PN (k+2) 9 [av (af s.cd++[]) (ah s.cd.length++[]) P1,.v (.int s.ws.length)]=some (.v .none,av (af s.cd++[]) (ah s.cd.length++[]) (P'++[])):=by
   rw[List.append_nil,List.append_nil,List.append_nil];exact place_ok' (x:=-1) (by rw[← hP];simp [P1]) (by decide) hC hZ (by lia)
  have H:FA (PN (k+2)) σ { item:=[(.sdict 1,.a 0,.i 0)],cmp:=[(.notIn,.a 0,.sdict 0,true)],sset:=[(0,.a 0,.i 0,1)],prim:=[(.isStr,.a 0,.v (.bool true))],meth:=[(8,cS0,[],.v (.i 0),bF (.list (some 0) []) (.list (some 1) []) (.list (some 2) [.int (-1)])),(9,bF (.list (some 0) []) (.list (some 1) []) (.list (some 2) [.int (-1)]),[.i 0],.v .none,bF (.list (some 0) []) (.list (some 1) []) (.list (some 3) []))] }:=
   { item:=⟨⟨(sd_item (ws:=s.ws++[w]) (by simp)).trans (by rw[idx_new hw];rfl),aL⟩,trivial⟩,cmp:=⟨sd_notIn.trans (by rw[decide_eq_true hw]),trivial⟩,sset:=⟨⟨w,rfl,(sd_set hw).symm⟩,trivial⟩,prim:=⟨rfl,trivial⟩,meth:=⟨hm1,hm,trivial⟩ }
  have e:=ag (lo:=0) (la:=1) (W:=1000) H (n:=39) (b:=asB) (fr:=asS cS0 (.sdict 0) (.a 0) (.k y) (.k z)) (f:=.next) (fr':=asS (bF (.list (some 0) []) (.list (some 1) []) (.list (some 3) [])) (.sdict 1) (.a 0) (.a 0) (.bool true)) (by kernel_rfl)
  replace e:exs (sem (PN (k+2)) 0 1 1000 39) asB [Own.v ey,.v (.list rows),av (af s.cd++[]) (ah s.cd.length++[]) (pv s.ps++[]),.sdict (sd s.ws),.v (.str w),.v y,.v z]=some (.next,[Own.v ey,.v (.list rows),av (af s.cd++[]) (ah s.cd.length++[]) (P'++[]),.sdict (sd (s.ws++[w])),.v (.str w),.v (.str w),.v (.bool true)]):=e
  rw[e0,e0,hP'] at e
  rw[e1];exact e
theorem asm_o{op:Nat}(I:AInv A s)(ho:op∈bS)(hs:A.length≤3000)(hc:s.cd.length≤3000):∃ y' z',exs (sem (PN (k+2)) 0 1 1000 39) asB (asF rows s (aJ (.o op)) y z)=some (.next,asF rows (ez s (.o op)) (aJ (.o op)) y' z'):=by
 have hb:=I.bnd
 have hl:=I.len
 have hC:(af s.cd).length≤4000:=by rw[bn];lia
 have hZ:(ah s.cd.length).length≤4000:=by rw[zeros_len];lia
 have hP:(pv s.ps).length=s.ws.length:=by unfold pv;rw[List.length_map,hl]
 have hD:(sd s.ws).length≤5000:=by rw[sd_len];lia
 let σ:=mkσ [.none,.list rows] [op,(af s.cd).length] [af s.cd,ah s.cd.length,pv s.ps] [] [sd s.ws] ⟨fe,a8,trivial⟩ ⟨by lia,by lia,by lia,trivial⟩ trivial ⟨hD,trivial⟩
 have hm:PN (k+2) 7 [av (af s.cd++[]) (ah s.cd.length++[]) (pv s.ps++[]),.v (.int op),.v .none]=some (.v (.int (af s.cd).length),av (af s.cd++[.tup [.int op,.none]]) (ah s.cd.length++[.int 0]) (pv s.ps++[])):=by
  rw[aG,List.append_nil];exact emit_ok aL fe hC hZ (by lia)
 have H:FA (PN (k+2)) σ { call:=[(2,[.i 0],.v (.str []))],meth:=[(7,cS0,[.i 0,.none],.v (.i 1),bF (.list (some 0) [.tup [.i 0,.none]]) (.list (some 1) [.int 0]) (.list (some 2) []))] }:={ call:=⟨⟨_,kind_N ho⟩,trivial⟩,meth:=⟨hm,trivial⟩ }
 have e:=ag (lo:=0) (la:=1) (W:=1000) H (n:=39) (b:=asB) (fr:=asS cS0 (.sdict 0) (.tup [.i 0,.none]) (.k y) (.k z)) (f:=.next) (fr':=asS (bF (.list (some 0) [.tup [.i 0,.none]]) (.list (some 1) [.int 0]) (.list (some 2) [])) (.sdict 0) (.tup [.i 0,.none]) .none (.bool false)) (by kernel_rfl)
 replace e:exs (sem (PN (k+2)) 0 1 1000 39) asB [Own.v ey,.v (.list rows),av (af s.cd++[]) (ah s.cd.length++[]) (pv s.ps++[]),.sdict (sd s.ws),.v (aJ (.o op)),.v y,.v z]=some (.next,[Own.v ey,.v (.list rows),av (af s.cd++[encI (op,none)]) (ah s.cd.length++[.int 0]) (pv s.ps++[]),.sdict (sd s.ws),.v (aJ (.o op)),.v .none,.v (.bool false)]):=e
 rw[e0,encC_snoc,fv,List.append_nil,← aM s.cd (op,none)] at e
 exact⟨.none,.bool false,e⟩
theorem asm_j{op:Nat}{w:List Nat}(I:AInv A s)(ho:op∈cz)(hs:A.length≤3000)(hc:s.cd.length≤3000):∃ y' z',exs (sem (PN (k+2)) 0 1 1000 39) asB (asF rows s (aJ (.j op w)) y z)=some (.next,asF rows (ez s (.j op w)) (aJ (.j op w)) y' z'):=by
 have hb:=I.bnd
 have hl:=I.len
 have hC:(af s.cd).length≤4000:=by rw[bn];lia
 have hZ:(ah s.cd.length).length≤4000:=by rw[zeros_len];lia
 have hP:(pv s.ps).length=s.ws.length:=by unfold pv;rw[List.length_map,hl]
 have hD:(sd s.ws).length≤5000:=by rw[sd_len];lia
 refine⟨.str w,.bool true,?_⟩
 by_cases hw:w∈s.ws
 ·have e1:ez s (.j op w)=⟨s.ws,s.ps,s.cd++[(op,some (s.ws.idxOf w))]⟩:=by rw[stepA_j,ensW_y hw,ensP_y hw]
  let σ:=mkσ [.str w,.list rows] [op,s.ws.idxOf w,(af s.cd).length] [af s.cd,ah s.cd.length,pv s.ps] [] [sd s.ws] ⟨bW,a8,trivial⟩ ⟨by lia,by lia,by lia,trivial⟩ trivial ⟨hD,trivial⟩
  have hm:PN (k+2) 10 [av (af s.cd++[]) (ah s.cd.length++[]) (pv s.ps++[]),.v (.int op),.v (.int (s.ws.idxOf w:Nat))]=some (.v (.int (af s.cd).length),av (af s.cd++[.tup [.int op,.int (s.ws.idxOf w:Nat)]]) (ah s.cd.length++[.int 0]) (pv s.ps++[])):=by
   rw[aG,List.append_nil];exact jump_ok aL aL hC hZ (by lia)
  have H:FA (PN (k+2)) σ { item:=[(.sdict 0,.a 0,.i 1)],cmp:=[(.notIn,.a 0,.sdict 0,false)],call:=[(2,[.i 0],.v (.str [116]))],meth:=[(10,cS0,[.i 0,.i 1],.v (.i 2),bF (.list (some 0) [.tup [.i 0,.i 1]]) (.list (some 1) [.int 0]) (.list (some 2) []))] }:=
   { item:=⟨⟨sd_item hw,aL⟩,trivial⟩,cmp:=⟨sd_notIn.trans (by rw[decide_eq_false (fun h=>h hw)]),trivial⟩,call:=⟨⟨_,fF ho⟩,trivial⟩,meth:=⟨hm,trivial⟩ }
  have e:=ag (lo:=0) (la:=1) (W:=1000) H (n:=39) (b:=asB) (fr:=asS cS0 (.sdict 0) (.tup [.i 0,.a 0]) (.k y) (.k z)) (f:=.next) (fr':=asS (bF (.list (some 0) [.tup [.i 0,.i 1]]) (.list (some 1) [.int 0]) (.list (some 2) [])) (.sdict 0) (.tup [.i 0,.a 0]) (.a 0) (.bool true)) (by kernel_rfl)
  replace e:exs (sem (PN (k+2)) 0 1 1000 39) asB [Own.v ey,.v (.list rows),av (af s.cd++[]) (ah s.cd.length++[]) (pv s.ps++[]),.sdict (sd s.ws),.v (aJ (.j op w)),.v y,.v z]=some (.next,[Own.v ey,.v (.list rows),av (af s.cd++[encI (op,some (s.ws.idxOf w))]) (ah s.cd.length++[.int 0]) (pv s.ps++[]),.sdict (sd s.ws),.v (aJ (.j op w)),.v (.str w),.v (.bool true)]):=e
  rw[e0,encC_snoc,fv,List.append_nil,← aM s.cd (op,some (s.ws.idxOf w))] at e
  rw[e1];exact e
 ·have e1:ez s (.j op w)=⟨s.ws++[w],s.ps++[-1],s.cd++[(op,some s.ws.length)]⟩:=by rw[stepA_j,ensW_n hw,ensP_n hw,idx_new hw]
  have hm1:PN (k+2) 8 [av (af s.cd++[]) (ah s.cd.length++[]) (pv s.ps++[])]=some (.v (.int s.ws.length),av (af s.cd++[]) (ah s.cd.length++[]) (pv s.ps++[.int (-1)])):=by
   rw[aG,List.append_nil,List.append_nil,← hP];exact label_ok hC hZ (by lia)
  let σ:=mkσ [.str w,.list rows] [op,s.ws.length,(af s.cd).length] [af s.cd,ah s.cd.length,pv s.ps] [] [sd s.ws,sd (s.ws++[w])] ⟨bW,a8,trivial⟩ ⟨by lia,by lia,by lia,trivial⟩ trivial ⟨hD,by show (sd _).length≤5000;rw[sd_len,aM];lia,trivial⟩
  have hm:PN (k+2) 10 [av (af s.cd++[]) (ah s.cd.length++[]) (pv s.ps++[.int (-1)]),.v (.int op),.v (.int s.ws.length)]=some (.v (.int (af s.cd).length),av (af s.cd++[.tup [.int op,.int s.ws.length]]) (ah s.cd.length++[.int 0]) (pv s.ps++[.int (-1)])):=by
   rw[List.append_nil,List.append_nil];exact jump_ok aL aL hC hZ (by rw[aM];lia)
  have H:FA (PN (k+2)) σ { item:=[(.sdict 1,.a 0,.i 1)],cmp:=[(.notIn,.a 0,.sdict 0,true)],sset:=[(0,.a 0,.i 1,1)],call:=[(2,[.i 0],.v (.str [116]))],meth:=[(8,cS0,[],.v (.i 1),bF (.list (some 0) []) (.list (some 1) []) (.list (some 2) [.int (-1)])),(10,bF (.list (some 0) []) (.list (some 1) []) (.list (some 2) [.int (-1)]),[.i 0,.i 1],.v (.i 2),bF (.list (some 0) [.tup [.i 0,.i 1]]) (.list (some 1) [.int 0]) (.list (some 2) [.int (-1)]))] }:=
   { item:=⟨⟨(sd_item (ws:=s.ws++[w]) (by simp)).trans (by rw[idx_new hw];rfl),aL⟩,trivial⟩,cmp:=⟨sd_notIn.trans (by rw[decide_eq_true hw]),trivial⟩,sset:=⟨⟨w,rfl,(sd_set hw).symm⟩,trivial⟩,call:=⟨⟨_,fF ho⟩,trivial⟩,meth:=⟨hm1,hm,trivial⟩ }
  have e:=ag (lo:=0) (la:=1) (W:=1000) H (n:=39) (b:=asB) (fr:=asS cS0 (.sdict 0) (.tup [.i 0,.a 0]) (.k y) (.k z)) (f:=.next) (fr':=asS (bF (.list (some 0) [.tup [.i 0,.i 1]]) (.list (some 1) [.int 0]) (.list (some 2) [.int (-1)])) (.sdict 1) (.tup [.i 0,.a 0]) (.a 0) (.bool true)) (by kernel_rfl)
  replace e:exs (sem (PN (k+2)) 0 1 1000 39) asB [Own.v ey,.v (.list rows),av (af s.cd++[]) (ah s.cd.length++[]) (pv s.ps++[]),.sdict (sd s.ws),.v (aJ (.j op w)),.v y,.v z]=some (.next,[Own.v ey,.v (.list rows),av (af s.cd++[encI (op,some s.ws.length)]) (ah s.cd.length++[.int 0]) (pv s.ps++[.int (-1)]),.sdict (sd (s.ws++[w])),.v (aJ (.j op w)),.v (.str w),.v (.bool true)]):=e
  rw[e0,encC_snoc,fv,← aM s.cd (op,some s.ws.length),show pv s.ps++[.int (-1)]=pv (s.ps++[-1]) by unfold pv;rw[List.map_append];rfl] at e
  rw[e1];exact e
end
structure RowsOK (R:List RowI):Prop where
 len:R.length≤1000
 fit:∀ r∈R,FitsR r
 once:∀ A B w,R=A++.l w::B→bz w A=none
 all:∀ r∈R,∀ w,wordOf r=some w→∃ p,bz w R=some p
theorem ret_meth{Φ:Nat→List Own→Option (Own×Own)}{lo la W n i f:Nat}{fr:Fr}{l:List O1}{r:Own×Own}(h:fr[i]?=some (.inst 0 l))(h2:Φ f [.inst 0 l]=some r):(sem Φ lo la W (n+2)).ex (.ret (.meth f i [])) fr=some (.ret r.1,fr.set i r.2):=by
 have e:(sem Φ lo la W (n+1)).ev (.meth f i []) fr=some (r.1,fr.set i r.2):=by
  show (isInst i fr).bind _=_
  exact ac (ac h rfl) (ac rfl (ac h (ac rfl (ac h2 rfl))))
 exact ac e rfl
section
variable {rows:List V} {R A:List RowI} {s:AS} {k:Nat}
theorem nc_le(A:List RowI):nc A≤A.length:=by
 induction A with
 | nil=>exact Nat.le_refl _
 | cons r A ih=>rw[nc_cons,List.length_cons];have:nc [r]≤1:=by { cases r <;> first | exact Nat.zero_le _ | exact Nat.le_refl _ };lia
theorem asm_for(Y:RowsOK R)(B:List RowI):∀ (A:List RowI) (s:AS) (x y z:V),R=A++B→AInv A s→
  ∃ s' x' y' z',cF (sem (PN (k+2)) 0 1 1000 39) 0 (.var 4) asB (B.map aJ) (asF rows s x y z)=some (.next,asF rows s' x' y' z')∧AInv R s':=by
 induction B with
 | nil=>intro A s x y z hR I;rw[List.append_nil] at hR;exact⟨s,x,y,z,rfl,hR▸I⟩
 | cons r B ih=>
  intro A s x y z hR I
  have hl:=Y.len
  have hR2:R=(A++[r])++B:=by rw[hR,List.append_assoc];rfl
  have hA:A.length≤1000:=by rw[hR,List.length_append] at hl;lia
  have hc:s.cd.length≤3000:=by rw[I.cd,ch];have:=nc_le A;lia
  have hrR:r∈R:=by rw[hR];simp
  have hw1:∀ w,r=.l w→bz w A=none:=fun w e=>Y.once A B w (by rw[hR,e])
  have hw2:∀ w,w∉s.ws→bz w A=none:=fun w h=>ci fun hm=>h (I.mem _ hm w rfl)
  have I':=I.step hw1 hw2
  have T:∃ y' z',exs (sem (PN (k+2)) 0 1 1000 39) asB (asF rows s (aJ r) y z)=some (.next,asF rows (ez s r) (aJ r) y' z'):=by
   have hf:=Y.fit r hrR
   cases r with
   | l w=>exact asm_l I (hw1 w rfl) (by lia) hc
   | o op=>exact asm_o I hf (by lia) hc
   | j op w=>exact asm_j I hf (by lia) hc
  obtain ⟨y',z',T⟩:=T
  obtain ⟨s',x2,y2,z2,h1,h2⟩:=ih (A++[r]) (ez s r) (aJ r) y' z' hR2 I'
  exact⟨s',x2,y2,z2,aS (fr1:=asF rows s (aJ r) y z) rfl T h1,h2⟩
noncomputable def placed(R:List RowI):Cd:=bg (fun w=>(bz w R).getD 0) R
noncomputable abbrev pcB:List S:=bJ f_Code_placed_code.body 1
noncomputable def pcF(C L P F:List V)(x y z:V):Fr:=[d5 C L P,.list F,.v x,.v y,.v z]
theorem pc_turn{C L P F:List V}{p:Nat×Option Nat}{i:Nat}{f:Nat→Nat}(fit:eH p)(hp:∀ j,p.2=some j→P[j]?=some (.int (f j:Nat)))(hL:L.length≤4000)(hP:P.length≤4000)(hF:F.length≤4000):
  exs (sem (PN (k+2)) 1 1 1000 39) pcB (pcF C L P F (.int i) (.int p.1) (enc p.2))=some (.next,pcF C L P (F++[encI (du f p)]) (.int i) (.int p.1) (enc p.2)):=by
 obtain ⟨o,a⟩:=p
 rcases fit with ⟨ho,ha⟩ | ⟨ho,s,ha⟩
 ·have ha:a=none:=ha
  subst ha
  let σ:=mkσ [.list C] [i,o] [L,P,F] [] [] ⟨a8,trivial⟩ ⟨by lia,by lia,by lia,trivial⟩ trivial trivial
  have H:FA (PN (k+2)) σ { call:=[(2,[.i 1],.v (.str []))] }:={ call:=⟨⟨_,kind_N ho⟩,trivial⟩ }
  have e:=ag (lo:=1) (la:=1) (W:=1000) H (n:=39) (b:=pcB) (fr:=[cZ0,.list (some 2) [],.v (.i 0),.v (.i 1),.v .none]) (f:=.next) (fr':=[cZ0,.list (some 2) [.tup [.i 1,.none]],.v (.i 0),.v (.i 1),.v .none]) (by kernel_rfl)
  replace e:exs (sem (PN (k+2)) 1 1 1000 39) pcB [d5 C (L++[]) (P++[]),.list (F++[]),.v (.int i),.v (.int o),.v .none]=some (.next,[d5 C (L++[]) (P++[]),.list (F++[.tup [.int o,.none]]),.v (.int i),.v (.int o),.v .none]):=e
  rw[dM,List.append_nil] at e;exact e
 ·have ha:a=some s:=ha
  subst ha
  let σ:=mkσ [.list C] [i,o,s,f s] [L,P,F] [] [] ⟨a8,trivial⟩ ⟨by lia,by lia,by lia,trivial⟩ trivial trivial
  have hm:PN (k+2) 11 [d5 C (L++[]) (P++[]),.v (.int s),.v (.int i)]=some (.v (.int (f s)),d5 C (L++[]) (P++[])):=by rw[dM];exact place_of_ok (hp s rfl) hL hP
  have H:FA (PN (k+2)) σ { call:=[(2,[.i 1],.v (.str [116]))],meth:=[(11,cZ0,[.i 2,.i 0],.v (.i 3),cZ0)] }:={ call:=⟨⟨_,fF ho⟩,trivial⟩,meth:=⟨hm,trivial⟩ }
  have e:=ag (lo:=1) (la:=1) (W:=1000) H (n:=39) (b:=pcB) (fr:=[cZ0,.list (some 2) [],.v (.i 0),.v (.i 1),.v (.i 2)]) (f:=.next) (fr':=[cZ0,.list (some 2) [.tup [.i 1,.i 3]],.v (.i 0),.v (.i 1),.v (.i 2)]) (by kernel_rfl)
  replace e:exs (sem (PN (k+2)) 1 1 1000 39) pcB [d5 C (L++[]) (P++[]),.list (F++[]),.v (.int i),.v (.int o),.v (.int s)]=some (.next,[d5 C (L++[]) (P++[]),.list (F++[.tup [.int o,.int (f s)]]),.v (.int i),.v (.int o),.v (.int s)]):=e
  rw[dM,List.append_nil] at e;exact e
theorem pc_for{C L P:List V}{f:Nat→Nat}(hL:L.length≤4000)(hP:P.length≤4000)(r:Cd):∀ (i:Nat) (F:List V) (x y z:V),(∀ p∈r,eH p∧∀ j,p.2=some j→P[j]?=some (.int (f j:Nat)))→F.length+r.length≤4000→
  ∃ x' y' z',cF (sem (PN (k+2)) 1 1 1000 39) 1 (.tup [.var 2,.tup [.var 3,.var 4]]) pcB (enumAt i (af r)) (pcF C L P F x y z)=some (.next,pcF C L P (F++af (r.map (du f))) x' y' z'):=by
 induction r with
 | nil=>intro i F x y z _ _;exact⟨x,y,z,by show some (Fl.next,_)=some (Fl.next,pcF C L P (F++[]) x y z);rw[List.append_nil]⟩
 | cons p r ih=>
  intro i F x y z h hF
  rw[List.length_cons] at hF
  obtain ⟨h1,h2⟩:=h p (List.mem_cons_self ..)
  obtain ⟨x',y',z',h3⟩:=ih (i+1) (F++[encI (du f p)]) (.int i) (.int p.1) (enc p.2) (fun q hq=>h q (List.mem_cons_of_mem _ hq)) (by rw[aM];lia)
  refine⟨x',y',z',aS (fr1:=pcF C L P F (.int i) (.int p.1) (enc p.2)) rfl (pc_turn h1 h2 hL hP (by lia)) (h3.trans ?_)⟩
  rw[List.append_assoc];rfl
theorem placed_code_ok{c:Cd}{L P:List V}{f:Nat→Nat}(hC:c.length≤4000)(hL:L.length≤4000)(hP:P.length≤4000)(h:∀ p∈c,eH p∧∀ j,p.2=some j→P[j]?=some (.int (f j:Nat))):
  PN (k+3) 12 [av (af c) L P]=some (.list (af (c.map (du f))),d5 (af c) L P):=by
 obtain ⟨x,y,z,h1⟩:=pc_for (k:=k) (C:=af c) (L:=L) (P:=P) hL hP c 0 [] .undef .undef .undef h (by simpa using hC)
 have e1:(sem (PN (k+2)) 1 1 1000 40).ex (.asg (.t (.var 1)) (.list [])) [av (af c) L P,.v .undef,.v .undef,.v .undef,.v .undef]=some (.next,[av (af c) L P,.list [],.v .undef,.v .undef,.v .undef]):=rfl
 have hE:bZ (sem (PN (k+2)) 1 1 1000 39) (.enum (.attr (.var 0) 3)) [av (af c) L P,.list [],.v .undef,.v .undef,.v .undef]=some (enumAt 0 (af c),pcF (af c) L P [] .undef .undef .undef):=rfl
 rw[ao (fn:=f_Code_placed_code) rfl (by decide)]
 exact aq (fn:=f_Code_placed_code) (la:=1) (args:=[av (af c) L P]) rfl (ak e1 (ak (cu (n:=39) hE h1) (aW (dY (n:=39) (i:=1) (o:=.list (af (c.map (du f)))) rfl rfl (by decide)))))
theorem placed_hand_ok{C L P:List V}:PN (k+1) 13 [d5 C L P]=some (.list [],.inst 0 [.v (.str [98,108,111,99,107,115]),.v (.list []),.v (.bool false),.v (.list C),.list L,.v (.int 0),.list [],.list [],.list P,.v (.list []),.v (.int 0),.v (.int 0),.list [],.v (.bool false),.v .none,.v .none,.list []]):=by kernel_rfl
noncomputable def unitO(c:Cd)(ln:List V):Own:=.inst 1 [.v (.str [98,108,111,99,107,115]),.v (.list []),.v (.bool false),.list (af c),.list ln,.v .undef,.list [],.list [],.v .undef,.list [],.v (.int 0),.v (.int 0),.v (.list []),.v (.bool false),.v .none,.v .none,.v (.list [])]
theorem unit_ok{c:Cd}{L P:List V}{f:Nat→Nat}(hC:c.length≤4000)(hL:L.length≤4000)(hP:P.length≤4000)(h:∀ p∈c,eH p∧∀ j,p.2=some j→P[j]?=some (.int (f j:Nat))):
  ∃ X,PN (k+4) 14 [av (af c) L P]=some (unitO (c.map (du f)) L,X):=by
 let σ:=mkσ [.list (af c)] [] [af c,L,P,af (c.map (du f))] [] [] ⟨a8,trivial⟩ ⟨by show (af c).length≤5000;rw[bn];lia,by lia,by lia,by show (af _).length≤5000;rw[bn,List.length_map];lia,trivial⟩ trivial trivial
 have hm1:PN (k+3) 12 [av (af c++[]) (L++[]) (P++[])]=some (.list (af (c.map (du f))++[]),d5 (af c) (L++[]) (P++[])):=by rw[aG,dM,List.append_nil];exact placed_code_ok hC hL hP h
 have hm2:=placed_hand_ok (C:=af c) (L:=L++[]) (P:=P++[]) (k:=k+2)
 have hn:PN (k+3) 1 [.inst 1 (List.replicate 17 (.v .undef)),.v (.str [98,108,111,99,107,115]),.v (.list [])]=some (.v .none,bP (.list []) (.list []) (.list [])):=by kernel_rfl
 let s9:SO:=.inst 0 [.v (.str [98,108,111,99,107,115]),.v (.list none []),.v (.bool false),.v (.a 0),.list (some 1) [],.v (.int 0),.list none [],.list none [],.list (some 2) [],.v (.list none []),.v (.int 0),.v (.int 0),.list none [],.v (.bool false),.v .none,.v .none,.list none []]
 have H:FA (PN (k+3)) σ { new:=[(1,[.str [98,108,111,99,107,115],.list none []],ft (.list none []) (.list none []) (.list none []))],meth:=[(12,cS0,[],.list (some 3) [],bF (.v (.a 0)) (.list (some 1) []) (.list (some 2) [])),(13,bF (.v (.a 0)) (.list (some 1) []) (.list (some 2) []),[],.list none [],s9)] }:={ new:=⟨hn,trivial⟩,meth:=⟨hm1,hm2,trivial⟩ }
 have e:=ag (lo:=1) (la:=1) (W:=1000) H (n:=40) (b:=f_Code_unit.body) (fr:=[cS0,.v .undef])
  (f:=.ret (.inst 1 [.v (.str [98,108,111,99,107,115]),.v (.list none []),.v (.bool false),.list (some 3) [],.list (some 1) [],.v .undef,.list none [],.list none [],.v .undef,.list none [],.v (.int 0),.v (.int 0),.v (.list none []),.v (.bool false),.v .none,.v .none,.v (.list none [])]))
  (fr':=[.inst 0 [.v (.str [98,108,111,99,107,115]),.v (.list none []),.v (.bool false),.v (.a 0),.v (.list (some 1) []),.v (.int 0),.v (.list none []),.v (.list none []),.list (some 2) [],.v (.list none []),.v (.int 0),.v (.int 0),.v (.list none []),.v (.bool false),.v .none,.v .none,.v (.list none [])],.v .undef]) (by kernel_rfl)
 rw[← aG,ao (fn:=f_Code_unit) rfl (by decide)]
 have e2:=aq (fn:=f_Code_unit) (la:=1) (args:=[av (af c++[]) (L++[]) (P++[])]) rfl e
 refine⟨_,e2.trans (congrArg some (Prod.ext ?_ rfl))⟩
 show Own.inst 1 [.v (.str [98,108,111,99,107,115]),.v (.list []),.v (.bool false),.list (af (c.map (du f))++[]),.list (L++[]),.v .undef,.list [],.list [],.v .undef,.list [],.v (.int 0),.v (.int 0),.v (.list []),.v (.bool false),.v .none,.v .none,.v (.list [])]=_
 rw[List.append_nil,List.append_nil];rfl
theorem rowsC_map{f:Nat→Nat}{g:List Nat→Nat}(A:List RowI):(bg g A).map (du f)=bg (fun w=>f (g w)) A:=by
 induction A with
 | nil=>rfl
 | cons r A ih=>
  show (fY g r++bg g A).map _=fY _ r++bg _ A
  rw[List.map_append,ih]
  cases r <;> rfl
theorem assemble_ok(Y:RowsOK R):∃ X,PN (k+5) 15 [.v ey,.v (.list (R.map aJ))]=some (unitO (placed R) (ah (placed R).length),X):=by
 have hl:=Y.len
 have I0:AInv [] ⟨[],[],[]⟩:=⟨.nil,rfl,fun r hr=>(nomatch hr),rfl,fun w hw=>(nomatch hw),Nat.le_refl _⟩
 obtain ⟨s,x,y,z,h1,I⟩:=asm_for (k:=k+2) (rows:=R.map aJ) Y R [] ⟨[],[],[]⟩ .undef .undef .undef rfl I0
 have hcd:=I.cd
 have hn:=nc_le R
 have hc:s.cd.length≤4000:=by rw[hcd,ch];lia
 have hpl:=I.len
 have hbn:=I.bnd
 have hP:(pv s.ps).length≤4000:=by unfold pv;rw[List.length_map];lia
 let f:Nat→Nat:=fun j=>(s.ps.getD j 0).toNat
 have key:∀ r∈R,∀ w,wordOf r=some w→(pv s.ps)[s.ws.idxOf w]?=some (.int (f (s.ws.idxOf w):Nat))∧f (s.ws.idxOf w)=(bz w R).getD 0:=fun r hr w hw=>by
  obtain ⟨q,hq⟩:=Y.all r hr w hw
  have hp:=I.ps w (I.mem r hr w hw)
  rw[hq] at hp
  have hf:f (s.ws.idxOf w)=q:=by
   show (s.ps.getD _ 0).toNat=q
   rw[List.getD_eq_getElem?_getD,hp];rfl
  rw[hf,hq]
  exact⟨pv_get hp,rfl⟩
 obtain ⟨X,hu⟩:=unit_ok (c:=s.cd) (L:=ah s.cd.length) (P:=pv s.ps) (f:=f) (k:=k) hc (by rw[zeros_len];exact hc) hP fun p hp=>by
  rw[hcd] at hp
  obtain ⟨r,hr,hp⟩:=List.mem_flatMap.mp hp
  have hf:=Y.fit r hr
  cases r with
  | l w=>cases hp
  | o op=>rw[List.mem_singleton.mp hp];exact⟨.inl ⟨hf,rfl⟩,fun j hj=>(nomatch hj)⟩
  | j op w=>rw[List.mem_singleton.mp hp];exact⟨.inr ⟨hf,_,rfl⟩,fun j hj=>by cases hj;exact(key _ hr w rfl).1⟩
 have hpl2:s.cd.map (du f)=placed R:=by
  rw[hcd,rowsC_map]
  exact rowsC_congr fun r hr w hw=>(key r hr w hw).2
 have hlen:s.cd.length=(placed R).length:=by rw[hcd];unfold placed;rw[ch,ch]
 rw[hpl2,hlen] at hu
 let σ:=mkσ [.list (R.map aJ)] [] [] [] [[]] ⟨a8,trivial⟩ trivial trivial ⟨Nat.zero_le _,trivial⟩
 have H:FA (PN (k+4)) σ { slit:=[0],new:=[(0,[.str [98,108,111,99,107,115],.list none [],.bool false],bF (.list none []) (.list none []) (.list none []))] }:={ slit:=⟨rfl,trivial⟩,new:=⟨new_ok,trivial⟩ }
 have e1:=ag (lo:=0) (la:=1) (W:=1000) H (n:=40) (b:=f_assemble.body.take 1) (fr:=[.v (.str [98,108,111,99,107,115]),.v (.a 0),.v .undef,.v .undef,.v .undef,.v .undef,.v .undef]) (f:=.next)
  (fr':=[.v (.str [98,108,111,99,107,115]),.v (.a 0),bF (.list none []) (.list none []) (.list none []),.sdict 0,.v .undef,.v .undef,.v .undef]) (by kernel_rfl)
 have e1':exs (sem (PN (k+4)) 0 1 1000 40) (f_assemble.body.take 1) [.v ey,.v (.list (R.map aJ)),.v .undef,.v .undef,.v .undef,.v .undef,.v .undef]=some (.next,asF (R.map aJ) ⟨[],[],[]⟩ .undef .undef .undef):=e1
 rw[ao (fn:=f_assemble) rfl (by decide)]
 have e3:=cu (n:=39) (ed (n:=38) (i:=1) (fr:=asF (R.map aJ) ⟨[],[],[]⟩ .undef .undef .undef) (l:=R.map aJ) rfl) h1
 rw[← hlen] at hu
 have e4:=ret_meth (n:=38) (lo:=0) (la:=1) (W:=1000) (i:=2) (fr:=asF (R.map aJ) s x y z) rfl hu
 rw[hlen] at e4
 exact⟨_,aq (fn:=f_assemble) (la:=1) (args:=[.v ey,.v (.list (R.map aJ))]) rfl (b7 (a:=f_assemble.body.take 1) e1' (ak e3 (aW e4)))⟩
end
noncomputable abbrev Bk:=List Nat×List Nat
noncomputable def pushOf(at':Nat):Nat:=match at' with
 | 0=>1 | 1=>0 | 2=>2 | _=>3
noncomputable def tailOf(kind:Nat):List Nat:=match kind with
 | 0=>[65] | 1=>[] | 2=>[7,59] | _=>[7,60]
noncomputable def fq(at' n kind:Nat):List Nat:=[pushOf at',6]++List.replicate n 53++tailOf kind
noncomputable def bB{α:Type}(kind:Nat)(one other:α):List α:=match kind with
 | 0=>[] | 1=>[one] | _=>[one,other]
noncomputable def blkOf(many at' cell:Nat):Bk:=(fq at' (cell / 100 % 3) (cell % 4),bB (cell % 4) (cell / 4 % many) (cell / 20 % many))
noncomputable def aT(b:Bk):V:=.tup [aK b.1,aK b.2]
noncomputable def dw(many:Nat):Nat→List Nat→List Bk
 | _,[]=>[]
 | i,x::r=>blkOf many i x::dw many (i+1) r
theorem gk{many:Nat}(cells:List Nat):∀ i,(dw many i cells).length=cells.length:=by
 induction cells with
 | nil=>intro i;rfl
 | cons x r ih=>intro i;show (dw many (i+1) r).length+1=_;rw[ih];rfl
theorem divC_pos{b:Nat}(h:0<b)(h2:b<1000000):divC b=true:=Bool.and_eq_true_iff.mpr ⟨decide_eq_true (by lia),decide_eq_true (by lia)⟩
theorem mod_int{a b:Nat}(h:0<b)(h2:b<1000000):bH .mod (.int a) (.int b)=some (.v (.int (a % b:Nat))):=by
 show (if divC b then some (Own.v (.int ((a:Int).fmod b))) else none)=_
 rw[divC_pos h h2,if_pos rfl,Int.fmod_eq_emod_of_nonneg _ (by lia)];rfl
theorem gg{a b:Nat}(h:0<b)(h2:b<1000000):bH .fdiv (.int a) (.int b)=some (.v (.int (a / b:Nat))):=by
 show (if divC b then some (Own.v (.int ((a:Int).fdiv b))) else none)=_
 rw[divC_pos h h2,if_pos rfl,Int.fdiv_eq_ediv_of_nonneg _ (by lia)];rfl
section
variable {k:Nat}
noncomputable abbrev bkB:List S:=bJ f_law_blocks.body 1
noncomputable def bkF(cells:List V)(F:List V)(many:Nat)(j:Nat→V):Fr:=[.v (.list cells),.list F,.v (.int many),.v (j 3),.v (j 4),.v (j 5),.v (j 6),.v (j 7),.v (j 8)]
noncomputable def natS(l:List Nat):SV:=.list none (l.map fun (n:Nat)=>.int n)
theorem natS_den{σ:Val}{l:List Nat}:den σ (natS l)=aK l:=by
 show V.list ([]++aE σ _)=_
 rw[bp,List.map_map];rfl
noncomputable def tri:List (Nat×Nat×Nat):=[0,1,2,3].flatMap fun a=>[0,1,2,3].flatMap fun b=>[0,1,2].map fun c=>(a,b,c)
theorem tri_mem{a b c:Nat}(ha:a<4)(hb:b<4)(hc:c<3):(a,b,c)∈tri:=by
 unfold tri
 simp only[List.mem_flatMap,List.mem_map]
 exact⟨a,by simp;lia,b,by simp;lia,c,by simp;lia,rfl⟩
noncomputable def bkFacts(p:Nat×Nat×Nat):b6:={ bin:=[(.mod,.i 0,.int 4,.v (.int p.2.1)),(.fdiv,.i 0,.int 4,.v (.i 2)),(.mod,.i 2,.i 1,.v (.i 3)),(.fdiv,.i 0,.int 20,.v (.i 4)),(.mod,.i 4,.i 1,.v (.i 5)),(.fdiv,.i 0,.int 100,.v (.i 6)),(.mod,.i 6,.int 3,.v (.int p.2.2)),(.mul,.list none [.int 53],.int p.2.2,.list none (List.replicate p.2.2 (.int 53)))] }
theorem bk_turn{cells F:List V}{many i cell:Nat}(j:Nat→V)(hm:0<many)(hm2:many<10)(hi:i<4)(hF:F.length≤100)(hc:cells.length≤100):
  ∃ j',exs (sem (PN k) 0 1 1000 39) bkB (bkF cells F many (upd (upd j 3 (.int i)) 4 (.int cell)))=some (.next,bkF cells (F++[aT (blkOf many i cell)]) many j'):=by
 have ht:(i,cell % 4,cell / 100 % 3)∈tri:=tri_mem hi (Nat.mod_lt _ (by decide)) (Nat.mod_lt _ (by decide))
 let σ:=mkσ [.list cells] [cell,many,(cell / 4:Nat),(cell / 4 % many:Nat),(cell / 20:Nat),(cell / 20 % many:Nat),(cell / 100:Nat)] [F] [] [] ⟨a8,trivial⟩ ⟨by lia,trivial⟩ trivial trivial
 have hmul:∀ n:Nat,n<3→bH .mul (.list [.int 53]) (.int n)=some (.list ([]++aE σ (List.replicate n (.int 53)))):=fun n hn=>by
  rcases n with _ | _ | _ | n
  ·rfl
  ·rfl
  ·rfl
  ·lia
 have H:FA (PN k) σ (bkFacts (i,cell % 4,cell / 100 % 3)):={ bin:=⟨mod_int (b:=4) (by decide) (by decide),gg (b:=4) (by decide) (by decide),mod_int hm (by lia),gg (b:=20) (by decide) (by decide),mod_int hm (by lia),gg (b:=100) (by decide) (by decide),mod_int (b:=3) (by decide) (by decide),hmul _ (Nat.mod_lt _ (by decide)),trivial⟩ }
 have e:=cO (l:=tri) (f:=fun p=>fW (fw (bkFacts p) 0 1 39) bkB [.v (.a 0),.list (some 0) [],.v (.i 1),.v (.int p.1),.v (.i 0),.v (.k (j 5)),.v (.k (j 6)),.v (.k (j 7)),.v (.k (j 8))])
  (g:=fun p=>some (.next,[.v (.a 0),.list (some 0) [.tup [natS (fq p.1 p.2.2 p.2.1),.list none (bB p.2.1 (.i 3) (.i 5))]],.v (.i 1),.v (.int p.1),.v (.i 0),.v (.int p.2.1),.v (.i 3),.v (.i 5),.v (natS (fq p.1 p.2.2 p.2.1))])) (by kernel_rfl) _ ht
 have e2:=ag (lo:=0) (la:=1) (W:=1000) H (n:=39) e
 have hg:den σ (.list none (bB (cell % 4) (.i 3) (.i 5)))=aK (bB (cell % 4) (cell / 4 % many) (cell / 20 % many)):=by
  unfold bB
  split <;> rfl
 have e3:den σ (.tup [natS (fq i (cell / 100 % 3) (cell % 4)),.list none (bB (cell % 4) (.i 3) (.i 5))])=aT (blkOf many i cell):=by
  show V.tup [den σ (natS _),den σ _]=_
  rw[natS_den,hg];rfl
 have e4:am σ [.v (.a 0),.list (some 0) [],.v (.i 1),.v (.int i),.v (.i 0),.v (.k (j 5)),.v (.k (j 6)),.v (.k (j 7)),.v (.k (j 8))]=bkF cells (F++[]) many (upd (upd j 3 (.int i)) 4 (.int cell)):=rfl
 rw[e4,List.append_nil] at e2
 refine⟨upd (upd (upd (upd (upd (upd j 3 (.int i)) 4 (.int cell)) 5 (.int (cell % 4:Nat))) 6 (.int (cell / 4 % many:Nat))) 7 (.int (cell / 20 % many:Nat))) 8 (aK (fq i (cell / 100 % 3) (cell % 4))),e2.trans (congrArg (fun x=>some (Fl.next,x)) ?_)⟩
 show bkF cells (F++[den σ (.tup [natS (fq i (cell / 100 % 3) (cell % 4)),.list none (bB (cell % 4) (.i 3) (.i 5))])]) many (upd (upd (upd (upd (upd (upd j 3 (.int i)) 4 (.int cell)) 5 (.int (cell % 4:Nat))) 6 (.int (cell / 4 % many:Nat))) 7 (.int (cell / 20 % many:Nat))) 8 (den σ (natS (fq i (cell / 100 % 3) (cell % 4)))))=_
 rw[e3,natS_den]
theorem bk_for{cells:List V}{many:Nat}(hm:0<many)(hm2:many<10)(hc:cells.length≤100)(r:List Nat):∀ (i:Nat) (F:List V) (j:Nat→V),i+r.length≤4→F.length≤i→
  ∃ j',cF (sem (PN k) 0 1 1000 39) 0 (.tup [.var 3,.var 4]) bkB (enumAt i (ae r)) (bkF cells F many j)=some (.next,bkF cells (F++(dw many i r).map aT) many j'):=by
 induction r with
 | nil=>intro i F j _ _;exact⟨j,by show some (Fl.next,_)=some (Fl.next,bkF cells (F++[]) many j);rw[List.append_nil]⟩
 | cons x r ih=>
  intro i F j hi hF
  rw[List.length_cons] at hi
  obtain ⟨j1,T⟩:=bk_turn (k:=k) (cells:=cells) (F:=F) (cell:=x) j hm hm2 (show i<4 by lia) (by lia) hc
  obtain ⟨j2,h⟩:=ih (i+1) (F++[aT (blkOf many i x)]) j1 (by lia) (by rw[aM];lia)
  refine⟨j2,aS (fr1:=bkF cells F many (upd (upd j 3 (.int i)) 4 (.int x))) rfl T (h.trans ?_)⟩
  rw[List.append_assoc];rfl
theorem blocks_ok{cells:List Nat}(h0:0<cells.length)(h4:cells.length≤4):PN (k+1) 38 [.v (.list (ae cells))]=some (.list ((dw cells.length 0 cells).map aT),.v .undef):=by
 have hl:(ae cells).length=cells.length:=au
 obtain ⟨j,h⟩:=bk_for (k:=k) (cells:=ae cells) (many:=cells.length) h0 (by lia) (by lia) cells 0 [] (fun _=>.undef) (by lia) (Nat.le_refl _)
 let σ:=mkσ [.list (ae cells)] [cells.length] [] [] [] ⟨a8,trivial⟩ trivial trivial trivial
 have H:FA (PN k) σ { len:=[(.a 0,.i 0)] }:={ len:=⟨⟨_,(len_list (l:=ae cells) (by lia)).trans (by rw[hl]),rfl⟩,trivial⟩ }
 have e1:=ag (lo:=0) (la:=1) (W:=1000) H (n:=40) (b:=f_law_blocks.body.take 1) (fr:=[.v (.a 0),.v .undef,.v .undef,.v .undef,.v .undef,.v .undef,.v .undef,.v .undef,.v .undef]) (f:=.next) (fr':=[.v (.a 0),.list none [],.v (.i 0),.v .undef,.v .undef,.v .undef,.v .undef,.v .undef,.v .undef]) (by kernel_rfl)
 have hE:bZ (sem (PN k) 0 1 1000 39) (.enum (.var 0)) (bkF (ae cells) [] cells.length (fun _=>.undef))=some (enumAt 0 (ae cells),bkF (ae cells) [] cells.length (fun _=>.undef)):=rfl
 rw[ao (fn:=f_law_blocks) rfl (by decide)]
 exact aq (fn:=f_law_blocks) (la:=1) (args:=[.v (.list (ae cells))]) rfl (b7 (a:=f_law_blocks.body.take 1) e1 (ak (cu (n:=39) hE h) (aW (dY (n:=39) (i:=1) (o:=.list ((dw cells.length 0 cells).map aT)) rfl rfl (by decide)))))
end
noncomputable def bT(B:List Bk):List Nat:=B.map fun b=>b.1.length
noncomputable def st(B:List Bk)(a:Nat):Nat:=1+(bT (B.take a)).sum
noncomputable def dj:Nat→List Nat→List Rw
 | _,[]=>[]
 | i,o::r=>(o,[i+1])::dj (i+1) r
noncomputable def blkW(s:Nat→Nat)(i:Nat)(b:Bk):List Rw:=dj i b.1.dropLast++[(b.1.getLast?.getD 0,b.2.map s)]
noncomputable def cQ(s:Nat→Nat):Nat→List Bk→List Rw
 | _,[]=>[]
 | i,b::r=>blkW s i b++cQ s (i+b.1.length) r
noncomputable def aX(B:List Bk):List Rw:=(5,[st B 0])::cQ (st B) 1 B
structure BkOK (m:Nat) (b:Bk):Prop where
 ne:b.1≠[]
 le:b.1.length≤20
 gl:b.2.length≤2
 g:∀ x∈b.2,x<m
structure BsOK (B:List Bk):Prop where
 pos:0<B.length
 le:B.length≤4
 b:∀ b∈B,BkOK B.length b
theorem lens_sum{B:List Bk}(h:∀ b∈B,b.1.length≤20):(bT B).sum≤20*B.length:=by
 induction B with
 | nil=>exact Nat.le_refl _
 | cons b B ih=>
  have h1:=h b (List.mem_cons_self ..)
  have h2:=ih fun x hx=>h x (List.mem_cons_of_mem _ hx)
  show b.1.length+(bT B).sum≤_
  rw[List.length_cons];lia
section
variable {Φ:Nat→List Own→Option (Own×Own)} {lo la W n:Nat}
theorem bin_run{o:Op}{a b:E}{fr fr1 fr2:Fr}{x y:V}{r:Own}(h1:evV (sem Φ lo la W n) a fr=some (x,fr1))(h2:evV (sem Φ lo la W n) b fr1=some (y,fr2))(h3:bH o x y=some r):(sem Φ lo la W (n+1)).ev (.bin o a b) fr=some (r,fr2):=ac h1 (ac h2 (ac h3 rfl))
end
section
variable {B:List Bk} {k:Nat}
noncomputable def wyF(B:List Bk)(S F:Own)(j:Nat→V):Fr:=[.v (.list (B.map aT)),S,F,.v (j 3),.v (j 4),.v (j 5),.v (j 6),.v (j 7),.v (j 8),.v (j 9),.v (j 10)]
noncomputable def wyS(S F:SO)(j:Nat→V):SFr:=[.v (.a 0),S,F,.v (.k (j 3)),.v (.k (j 4)),.v (.k (j 5)),.v (.k (j 6)),.v (.k (j 7)),.v (.k (j 8)),.v (.k (j 9)),.v (.k (j 10))]
theorem sum_ok{l:List Nat}(h:l.length≤100)(h2:∀ x∈l,x≤1000):Mine.prim .sum (.list (ae l))=some (.v (.int (l.sum:Nat))):=by
 have hi:aP (ae l)=some (l.map fun (n:Nat)=>(n:Int)):=by
  clear h h2
  induction l with
  | nil=>rfl
  | cons x l ih=>show (aP (ae l)).bind _=_;rw[ih];rfl
 have hs:(l.map fun (n:Nat)=>(n:Int)).sum=((l.sum:Nat):Int):=by
  clear h h2 hi
  induction l with
  | nil=>rfl
  | cons x l ih=>rw[List.map_cons,List.sum_cons,List.sum_cons,ih];lia
 show (if (ae l).length≤cap then (aP (ae l)).bind (fun x=>if x.all (fun i=>decide (0≤i∧i≤100000)) then some (Own.v (.int x.sum)) else none) else none)=_
 rw[hi,if_pos (by rw[au];unfold cap;lia)]
 show (if _ then _ else _)=_
 rw[if_pos,hs]
 rw[List.all_eq_true]
 intro x hx
 obtain ⟨y,hy,rfl⟩:=List.mem_map.mp hx
 have:=h2 y hy
 exact decide_eq_true (by lia)
noncomputable abbrev U:Own:=.v .undef
theorem wy_in(hB:B.length≤100)(l:List Bk):∀ (acc:List V) (j:Nat→V),acc.length+l.length≤100→(∀ b∈l,b.1.length≤20)→∃ j',bt (sem (PN k) 0 1 1000 35) 0 (.tup [.var 8,.var 9]) none (.len (.var 8)) (l.map aT) acc (wyF B U U j)=some (acc++ae (bT l),wyF B U U j')∧∀ i<8,j' i=j i:=by
 induction l with
 | nil=>intro acc j _ _;exact⟨j,by show some (acc,wyF B U U j)=some (acc++[],wyF B U U j);rw[List.append_nil],fun _ _=>rfl⟩
 | cons b l ih=>
  intro acc j h hb
  rw[List.length_cons] at h
  have hb1:=hb b (List.mem_cons_self ..)
  obtain ⟨j',h1,h2⟩:=ih (acc++[.int b.1.length]) (upd (upd j 8 (aK b.1)) 9 (aK b.2)) (by rw[aM];lia) fun x hx=>hb x (List.mem_cons_of_mem _ hx)
  have hl:V.len (aK b.1)=some b.1.length:=by
   show V.len (.list (ae b.1))=_
   rw[len_list (by rw[au];lia),au]
  let σ:=mkσ [.list (B.map aT),aK b.1] [b.1.length] [] [] [] ⟨a8,a8,trivial⟩ trivial trivial trivial
  have H:FA (PN k) σ { len:=[(.a 1,.i 0)] }:={ len:=⟨⟨_,hl,rfl⟩,trivial⟩ }
  have e:=bu (lo:=0) (la:=1) (W:=1000) H (n:=35) (e:=.len (.var 8)) (fr:=[.v (.a 0),.v .undef,.v .undef,.v (.k (j 3)),.v (.k (j 4)),.v (.k (j 5)),.v (.k (j 6)),.v (.k (j 7)),.v (.a 1),.v (.k (aK b.2)),.v (.k (j 10))]) (o:=.i 0) (fr':=[.v (.a 0),.v .undef,.v .undef,.v (.k (j 3)),.v (.k (j 4)),.v (.k (j 5)),.v (.k (j 6)),.v (.k (j 7)),.v (.a 1),.v (.k (aK b.2)),.v (.k (j 10))]) (by kernel_rfl)
  refine⟨j',(cZ (fr1:=wyF B U U (upd (upd j 8 (aK b.1)) 9 (aK b.2))) rfl e (by lia) h1).trans ?_,fun i hi=>?_⟩
  ·rw[List.append_assoc];rfl
  ·rw[h2 i hi];unfold upd;rw[if_neg (by lia),if_neg (by lia)]
theorem slice_take{l:List V}{a:Nat}(h:a≤l.length)(hl:l.length≤5000):V.slice (.list l) none (some (a:Int))=some (.list (l.take a)):=by
 refine slice_listE.trans ?_
 show (if l.length≤cap then some (Own.list ((l.take (d6 l.length (a:Int))).drop 0)) else none)=_
 rw[if_pos (Nat.le_trans hl (by decide)),List.drop_zero]
 unfold d6
 rw[if_neg (by lia),if_neg (by lia),Int.toNat_natCast]
noncomputable abbrev wyE:E:=.bin .add (.const (.int 1)) (.prim .sum (.comp (.tup [.var 8,.var 9]) (.val (.slice (.var 0) none (some (.var 7)))) none (.len (.var 8))))
theorem wy_elt(Y:BsOK B){a:Nat}(ha:a≤B.length)(j:Nat→V)(hj:j 7=.int a):∃ j',evV (sem (PN k) 0 1 1000 38) wyE (wyF B U U j)=some (.int (st B a),wyF B U U j'):=by
 have hB:=Y.le
 have hl:∀ b∈B.take a,b.1.length≤20:=fun b hb=>(Y.b b (List.mem_of_mem_take hb)).le
 have hta:(B.take a).length≤4:=by rw[List.length_take];lia
 obtain ⟨j',h1,h2⟩:=wy_in (k:=k) (B:=B) (by lia) (B.take a) [] (upd (upd j 8 .undef) 9 .undef) (by rw[List.length_nil];lia) hl
 have hs:V.slice (.list (B.map aT)) none (some (a:Int))=some (.list ((B.take a).map aT++[])):=by rw[slice_take (by rw[List.length_map];exact ha) (by rw[List.length_map];lia),List.append_nil,List.map_take]
 let σ:=mkσ [.list (B.map aT)] [a] [(B.take a).map aT] [] [] ⟨a8,trivial⟩ ⟨by show (List.map _ _).length≤5000;rw[List.length_map];lia,trivial⟩ trivial trivial
 have H:FA (PN k) σ { slice:=[(.a 0,.undef,.i 0,.list (some 0) [])] }:={ slice:=⟨⟨_,_,rfl,rfl,hs⟩,trivial⟩ }
 have e:=bu (lo:=0) (la:=1) (W:=1000) H (n:=35) (e:=.slice (.var 0) none (some (.var 7))) (fr:=[.v (.a 0),.v .undef,.v .undef,.v (.k (j 3)),.v (.k (j 4)),.v (.k (j 5)),.v (.k (j 6)),.v (.i 0),.v (.k (j 8)),.v (.k (j 9)),.v (.k (j 10))]) (o:=.list (some 0) []) (fr':=[.v (.a 0),.v .undef,.v .undef,.v (.k (j 3)),.v (.k (j 4)),.v (.k (j 5)),.v (.k (j 6)),.v (.i 0),.v (.k (j 8)),.v (.k (j 9)),.v (.k (j 10))]) (by kernel_rfl)
 have hf:am σ [.v (.a 0),.v .undef,.v .undef,.v (.k (j 3)),.v (.k (j 4)),.v (.k (j 5)),.v (.k (j 6)),.v (.i 0),.v (.k (j 8)),.v (.k (j 9)),.v (.k (j 10))]=wyF B U U j:=by
  show [Own.v (.list (B.map aT)),U,U,.v (j 3),.v (j 4),.v (j 5),.v (j 6),.v (.int a),.v (j 8),.v (j 9),.v (j 10)]=_
  rw[← hj];rfl
 rw[hf] at e
 have e':evV (sem (PN k) 0 1 1000 35) (.slice (.var 0) none (some (.var 7))) (wyF B U U j)=some (.list ((B.take a).map aT++[]),wyF B U U j):=e
 rw[List.append_nil] at e'
 have hit:bZ (sem (PN k) 0 1 1000 35) (.val (.slice (.var 0) none (some (.var 7)))) (wyF B U U j)=some ((B.take a).map aT,wyF B U U j):=ac e' rfl
 have hc:=cw (n:=35) (t:=.tup [.var 8,.var 9]) hit h1
 rw[List.nil_append] at hc
 have hsum:Mine.prim .sum (.list (ae (bT (B.take a))))=some (.v (.int ((bT (B.take a)).sum:Nat))):=sum_ok (by unfold bT;rw[List.length_map];lia) fun x hx=>by
  obtain ⟨b,hb,rfl⟩:=List.mem_map.mp hx
  have:=hl b hb;lia
 have hp:=b8 (fc (n:=36) hc hsum)
 have hb:bH .add (.int 1) (.int ((bT (B.take a)).sum:Nat))=some (.v (.int (st B a))):=by
  show some (Own.v (.int (1+((bT (B.take a)).sum:Int))))=_
  unfold st
  rw[Int.natCast_add];rfl
 exact⟨upd (upd j' 8 .undef) 9 .undef,b8 (bin_run (n:=37) (a:=.const (.int 1)) (x:=.int 1) (fr1:=wyF B U U j) (r:=.v (.int (st B a))) rfl hp hb)⟩
theorem wy_out(Y:BsOK B)(l:List Nat):∀ (acc:List V) (j:Nat→V),acc.length+l.length≤100→(∀ a∈l,a≤B.length)→
  ∃ j',bt (sem (PN k) 0 1 1000 38) 0 (.var 7) none wyE (ae l) acc (wyF B U U j)=some (acc++ae (l.map (st B)),wyF B U U j'):=by
 induction l with
 | nil=>intro acc j _ _;exact⟨j,by show some (acc,wyF B U U j)=some (acc++[],wyF B U U j);rw[List.append_nil]⟩
 | cons a l ih=>
  intro acc j h hb
  rw[List.length_cons] at h
  obtain ⟨j1,h1⟩:=wy_elt (k:=k) Y (hb a (List.mem_cons_self ..)) (upd j 7 (.int a)) rfl
  obtain ⟨j2,h2⟩:=ih (acc++[.int (st B a)]) j1 (by rw[aM];lia) fun x hx=>hb x (List.mem_cons_of_mem _ hx)
  refine⟨j2,(cZ (fr1:=wyF B U U (upd j 7 (.int a))) rfl h1 (by lia) h2).trans ?_⟩
  rw[List.append_assoc];rfl
theorem rangeL_nats{n:Nat}:b9 0 n=ae (List.range n):=by
 unfold b9 ae
 rw[show ((n:Int) - 0).toNat=n by lia]
 exact List.map_congr_left fun i _=>by rw[Int.zero_add]
noncomputable def sts(B:List Bk):List Nat:=(List.range B.length).map (st B)
theorem wy_starts(Y:BsOK B):∃ j',(sem (PN k) 0 1 1000 40).ex (.asg (.t (.var 1)) (.comp (.var 7) (.range none (.len (.var 0))) none wyE)) (wyF B U U (fun _=>.undef))=some (.next,wyF B (.list (ae (sts B))) U j'):=by
 have hB:=Y.le
 obtain ⟨j1,h1⟩:=wy_out (k:=k) Y (List.range B.length) [] (upd (fun _=>.undef) 7 .undef) (by rw[List.length_range,List.length_nil];lia) fun a ha=>Nat.le_of_lt (List.mem_range.mp ha)
 let σ:=mkσ [.list (B.map aT)] [B.length] [] [] [] ⟨a8,trivial⟩ trivial trivial trivial
 have H:FA (PN k) σ { len:=[(.a 0,.i 0)] }:={ len:=⟨⟨_,(len_list (l:=B.map aT) (by rw[List.length_map];lia)).trans (by rw[List.length_map]),rfl⟩,trivial⟩ }
 have e:=bu (lo:=0) (la:=1) (W:=1000) H (n:=38) (e:=.len (.var 0)) (fr:=wyS (.v .undef) (.v .undef) fun _=>.undef) (o:=.i 0) (fr':=wyS (.v .undef) (.v .undef) fun _=>.undef) (by kernel_rfl)
 have e':evV (sem (PN k) 0 1 1000 38) (.len (.var 0)) (wyF B U U (fun _=>.undef))=some (.int B.length,wyF B U U (fun _=>.undef)):=e
 have hit:=it_rng e' (by lia)
 rw[rangeL_nats] at hit
 rw[List.nil_append] at h1
 have hc:=cw (n:=38) (t:=.var 7) hit h1
 exact⟨upd j1 7 .undef,dm (n:=39) (i:=1) hc rfl⟩
end
noncomputable def bQ(p:Rw):V:=.tup [.int p.1,aK p.2]
theorem dN{i:Nat}{l:List Nat}:(dj i l).length=l.length:=by
 revert i
 induction l with
 | nil=>intro i;rfl
 | cons x l ih=>intro i;show (dj (i+1) l).length+1=_;rw[ih];rfl
section
variable {B:List Bk} {k:Nat} {S F:List V}
noncomputable abbrev wyB:List Mine.S:=bJ f_law_ways.body 2
noncomputable abbrev wyI:List Mine.S:=bJ wyB 0
theorem wi_turn{o i:Nat}(j:Nat→V)(hF:F.length=i)(hi:i≤1000)(hS:S.length≤100):
  exs (sem (PN k) 0 1 1000 38) wyI (wyF B (.list S) (.list F) (upd j 5 (.int o)))=some (.next,wyF B (.list S) (.list (F++[bQ (o,[i+1])])) (upd (upd j 5 (.int o)) 6 (.int (i+1:Nat)))):=by
 let σ:=mkσ [.list (B.map aT)] [o,i,(i+1:Nat)] [S,F] [] [] ⟨a8,trivial⟩ ⟨by lia,by lia,trivial⟩ trivial trivial
 have hl:V.len (.list (F++[]))=some i:=by rw[List.append_nil,len_list (by lia),hF]
 have H:FA (PN k) σ { len:=[(.list (some 1) [],.i 1)],bin:=[(.add,.i 1,.int 1,.v (.i 2))] }:={ len:=⟨⟨_,hl,rfl⟩,trivial⟩,bin:=⟨add_int,trivial⟩ }
 let f0:SO→SV→SFr:=fun F x=>[.v (.a 0),.list (some 0) [],F,.v (.k (j 3)),.v (.k (j 4)),.v (.i 0),.v x,.v (.k (j 7)),.v (.k (j 8)),.v (.k (j 9)),.v (.k (j 10))]
 have e:=ag (lo:=0) (la:=1) (W:=1000) H (n:=38) (b:=wyI) (fr:=f0 (.list (some 1) []) (.k (j 6))) (f:=.next) (fr':=f0 (.list (some 1) [.tup [.i 0,.list none [.i 2]]]) (.i 2)) (by kernel_rfl)
 replace e:exs (sem (PN k) 0 1 1000 38) wyI (wyF B (.list (S++[])) (.list (F++[])) (upd j 5 (.int o)))=some (.next,wyF B (.list (S++[])) (.list (F++[bQ (o,[i+1])])) (upd (upd j 5 (.int o)) 6 (.int (i+1:Nat)))):=e
 rw[List.append_nil,List.append_nil] at e;exact e
theorem wi_for(hS:S.length≤100)(l:List Nat):∀ (i:Nat) (F:List V) (j:Nat→V),F.length=i→i+l.length≤1000→
  ∃ j',cF (sem (PN k) 0 1 1000 38) 0 (.var 5) wyI (ae l) (wyF B (.list S) (.list F) j)=some (.next,wyF B (.list S) (.list (F++(dj i l).map bQ)) j')∧∀ i<5,j' i=j i:=by
 induction l with
 | nil=>intro i F j _ _;exact⟨j,by show some (Fl.next,_)=some (Fl.next,wyF B (.list S) (.list (F++[])) j);rw[List.append_nil],fun _ _=>rfl⟩
 | cons o l ih=>
  intro i F j hF hi
  rw[List.length_cons] at hi
  obtain ⟨j',h1,h2⟩:=ih (i+1) (F++[bQ (o,[i+1])]) (upd (upd j 5 (.int o)) 6 (.int (i+1:Nat))) (by rw[aM,hF]) (by lia)
  refine⟨j',aS (fr1:=wyF B (.list S) (.list F) (upd j 5 (.int o))) rfl (wi_turn j hF (by lia) hS) (h1.trans ?_),fun n hn=>?_⟩
  ·rw[List.append_assoc];rfl
  ·rw[h2 n hn];unfold upd;rw[if_neg (by lia),if_neg (by lia)]
theorem neg1_nat{n:Nat}:(-1+(n:Int)).toNat=n - 1:=by rw[Int.add_comm];exact Int.toNat_sub n 1
theorem slice_init{l:List V}(hl:l.length≤5000):V.slice (.list l) none (some (-1))=some (.list l.dropLast):=by
 refine slice_listE.trans ?_
 show (if l.length≤cap then some (Own.list ((l.take (d6 l.length (-1))).drop 0)) else none)=_
 rw[if_pos (Nat.le_trans hl (by decide)),List.drop_zero,List.dropLast_eq_take]
 unfold d6
 rw[if_pos (by decide),neg1_nat]
theorem item_last{l:List Nat}(h:l≠[])(hl:l.length≤5000):V.item (.list (ae l)) (.int (-1))=some (.int (l.getLast?.getD 0:Nat)):=by
 have hp:0<l.length:=List.length_pos_iff.mpr h
 refine item_listE.trans ?_
 show (place (ae l).length (-1)).bind (fun j=>(ae l)[j]?)=_
 rw[au]
 unfold place
 rw[if_pos (Nat.le_trans hl (by decide)),if_neg (by decide),if_pos (by lia),neg1_nat]
 show (ae l)[l.length - 1]?=_
 unfold ae
 rw[List.getElem?_map,List.getLast?_eq_getElem?,List.getElem?_eq_getElem (by lia)];rfl
theorem wy_last{b:Bk}{s:Nat→Nat}{j:Nat→V}(hb:BkOK S.length b)(hj3:j 3=aK b.1)(hj4:j 4=aK b.2)(hs:∀ x,x<S.length→S[x]?=some (.int (s x:Nat)))(hF:F.length≤1000)(hS:S.length≤100):
  ∃ j',exs (sem (PN k) 0 1 1000 39) (wyB.drop 1) (wyF B (.list S) (.list F) j)=some (.next,wyF B (.list S) (.list (F++[bQ (b.1.getLast?.getD 0,b.2.map s)])) j'):=by
 obtain ⟨ops,gs⟩:=b
 have hgl:gs.length≤2:=hb.gl
 have hle:ops.length≤20:=hb.le
 have hlast:=item_last (l:=ops) hb.ne (by lia)
 have hit:∀ g,g<S.length→V.item (.list (S++[])) (.int g)=some (.int (s g)):=fun g hg=>by rw[List.append_nil];exact item_list (hs g hg) (by lia)
 have ew:∀ j',wyF B (.list (S++[])) (.list (F++[])) j'=wyF B (.list S) (.list F) j':=fun j'=>by rw[List.append_nil,List.append_nil]
 have ew2:∀ j' x,wyF B (.list (S++[])) (.list (F++[x])) j'=wyF B (.list S) (.list (F++[x])) j':=fun j' x=>by rw[List.append_nil]
 have hju:∀ v w,j 3=v→j 4=w→wyF B (.list S) (.list F) j=wyF B (.list S) (.list F) (upd (upd j 3 v) 4 w):=fun v w h1 h2=>by
  unfold wyF upd;simp [h1,h2]
 rw[hju _ _ hj3 hj4]
 let f0:SO→List SV→SV→SFr:=fun F g x=>[.v (.a 0),.list (some 0) [],F,.v (.a 1),.v (.list none g),.v (.k (j 5)),.v (.k (j 6)),.v (.k (j 7)),.v (.k (j 8)),.v (.k (j 9)),.v x]
 refine⟨upd (upd (upd j 3 (aK ops)) 4 (aK gs)) 10 .undef,?_⟩
 match gs,hgl,hb.g with
 | [],_,_=>
  let σ:=mkσ [.list (B.map aT),aK ops] [ops.getLast?.getD 0] [S,F] [] [] ⟨a8,a8,trivial⟩ ⟨by lia,by lia,trivial⟩ trivial trivial
  have H:FA (PN k) σ { item:=[(.a 1,.int (-1),.i 0)] }:={ item:=⟨⟨hlast,aL⟩,trivial⟩ }
  have e:=ag (lo:=0) (la:=1) (W:=1000) H (n:=39) (b:=wyB.drop 1) (fr:=f0 (.list (some 1) []) [] (.k (j 10))) (f:=.next) (fr':=f0 (.list (some 1) [.tup [.i 0,.list none []]]) [] .undef) (by kernel_rfl)
  replace e:exs (sem (PN k) 0 1 1000 39) (wyB.drop 1) (wyF B (.list (S++[])) (.list (F++[])) (upd (upd j 3 (aK ops)) 4 (aK [])))=some (.next,wyF B (.list (S++[])) (.list (F++[bQ (ops.getLast?.getD 0,[].map s)])) (upd (upd (upd j 3 (aK ops)) 4 (aK [])) 10 .undef)):=e
  rw[ew,ew2] at e;exact e
 | [g],_,hg=>
  have g1:=hg g (by simp)
  let σ:=mkσ [.list (B.map aT),aK ops] [ops.getLast?.getD 0,g,s g] [S,F] [] [] ⟨a8,a8,trivial⟩ ⟨by lia,by lia,trivial⟩ trivial trivial
  have H:FA (PN k) σ { item:=[(.a 1,.int (-1),.i 0),(.list (some 0) [],.i 1,.i 2)] }:={ item:=⟨⟨hlast,aL⟩,⟨hit g g1,aL⟩,trivial⟩ }
  have e:=ag (lo:=0) (la:=1) (W:=1000) H (n:=39) (b:=wyB.drop 1) (fr:=f0 (.list (some 1) []) [.i 1] (.k (j 10))) (f:=.next) (fr':=f0 (.list (some 1) [.tup [.i 0,.list none [.i 2]]]) [.i 1] .undef) (by kernel_rfl)
  replace e:exs (sem (PN k) 0 1 1000 39) (wyB.drop 1) (wyF B (.list (S++[])) (.list (F++[])) (upd (upd j 3 (aK ops)) 4 (aK [g])))=some (.next,wyF B (.list (S++[])) (.list (F++[bQ (ops.getLast?.getD 0,[g].map s)])) (upd (upd (upd j 3 (aK ops)) 4 (aK [g])) 10 .undef)):=e
  rw[ew,ew2] at e;exact e
 | [g,g'],_,hg=>
  have g1:=hg g (by simp)
  have g2:=hg g' (by simp)
  let σ:=mkσ [.list (B.map aT),aK ops] [ops.getLast?.getD 0,g,s g,g',s g'] [S,F] [] [] ⟨a8,a8,trivial⟩ ⟨by lia,by lia,trivial⟩ trivial trivial
  have H:FA (PN k) σ { item:=[(.a 1,.int (-1),.i 0),(.list (some 0) [],.i 1,.i 2),(.list (some 0) [],.i 3,.i 4)] }:={ item:=⟨⟨hlast,aL⟩,⟨hit g g1,aL⟩,⟨hit g' g2,aL⟩,trivial⟩ }
  have e:=ag (lo:=0) (la:=1) (W:=1000) H (n:=39) (b:=wyB.drop 1) (fr:=f0 (.list (some 1) []) [.i 1,.i 3] (.k (j 10))) (f:=.next) (fr':=f0 (.list (some 1) [.tup [.i 0,.list none [.i 2,.i 4]]]) [.i 1,.i 3] .undef) (by kernel_rfl)
  replace e:exs (sem (PN k) 0 1 1000 39) (wyB.drop 1) (wyF B (.list (S++[])) (.list (F++[])) (upd (upd j 3 (aK ops)) 4 (aK [g,g'])))=some (.next,wyF B (.list (S++[])) (.list (F++[bQ (ops.getLast?.getD 0,[g,g'].map s)])) (upd (upd (upd j 3 (aK ops)) 4 (aK [g,g'])) 10 .undef)):=e
  rw[ew,ew2] at e;exact e
theorem wy_for{s:Nat→Nat}(hS:S.length≤100)(hs:∀ x,x<S.length→S[x]?=some (.int (s x:Nat)))(l:List Bk):∀ (i:Nat) (F:List V) (j:Nat→V),F.length=i→i+(bT l).sum≤900→(∀ b∈l,BkOK S.length b)→
  ∃ j',cF (sem (PN k) 0 1 1000 39) 0 (.tup [.var 3,.var 4]) wyB (l.map aT) (wyF B (.list S) (.list F) j)=some (.next,wyF B (.list S) (.list (F++(cQ s i l).map bQ)) j'):=by
 induction l with
 | nil=>intro i F j _ _ _;exact⟨j,by show some (Fl.next,_)=some (Fl.next,wyF B (.list S) (.list (F++[])) j);rw[List.append_nil]⟩
 | cons b l ih=>
  intro i F j hF hi hb
  have hb1:=hb b (List.mem_cons_self ..)
  have hi:i+(b.1.length+(bT l).sum)≤900:=hi
  have hpos:0<b.1.length:=List.length_pos_iff.mpr hb1.ne
  have hle:=hb1.le
  let j0:Nat→V:=upd (upd j 3 (aK b.1)) 4 (aK b.2)
  obtain ⟨j1,h1,h2⟩:=wi_for (k:=k) (B:=B) hS b.1.dropLast i F j0 hF (by rw[List.length_dropLast];lia)
  have hsl:V.slice (.list (ae b.1)) none (some (-1))=some (.list (ae b.1.dropLast++[])):=by
   rw[slice_init (by rw[au];lia),List.append_nil];unfold ae;rw[List.map_dropLast]
  let σ:=mkσ [.list (B.map aT),.list (ae b.1)] [] [S,F,ae b.1.dropLast] [] [] ⟨a8,a8,trivial⟩ ⟨by lia,by lia,by show (ae _).length≤5000;rw[au,List.length_dropLast];lia,trivial⟩ trivial trivial
  have H:FA (PN k) σ { slice:=[(.a 1,.undef,.int (-1),.list (some 2) [])] }:={ slice:=⟨⟨_,_,rfl,rfl,hsl⟩,trivial⟩ }
  let f0:SFr:=[.v (.a 0),.list (some 0) [],.list (some 1) [],.v (.a 1),.v (.k (aK b.2)),.v (.k (j 5)),.v (.k (j 6)),.v (.k (j 7)),.v (.k (j 8)),.v (.k (j 9)),.v (.k (j 10))]
  have e:=bu (lo:=0) (la:=1) (W:=1000) H (n:=38) (e:=.slice (.var 3) none (some (.neg (.const (.int 1))))) (fr:=f0) (o:=.list (some 2) []) (fr':=f0) (by kernel_rfl)
  replace e:evV (sem (PN k) 0 1 1000 38) (.slice (.var 3) none (some (.neg (.const (.int 1))))) (wyF B (.list (S++[])) (.list (F++[])) j0)=some (.list (ae b.1.dropLast++[]),wyF B (.list (S++[])) (.list (F++[])) j0):=e
  rw[List.append_nil,List.append_nil,List.append_nil] at e
  have hit:bZ (sem (PN k) 0 1 1000 38) (.val (.slice (.var 3) none (some (.neg (.const (.int 1)))))) (wyF B (.list S) (.list F) j0)=some (ae b.1.dropLast,wyF B (.list S) (.list F) j0):=ac e rfl
  have hfor:=cu (n:=38) hit h1
  have hcl:(F++(dj i b.1.dropLast).map bQ).length=i+(b.1.length - 1):=by rw[List.length_append,List.length_map,dN,hF,List.length_dropLast]
  obtain ⟨j2,h3⟩:=wy_last (k:=k) (B:=B) (S:=S) (F:=F++(dj i b.1.dropLast).map bQ) (b:=b) (s:=s) (j:=j1) hb1 (by rw[h2 3 (by decide)];rfl) (by rw[h2 4 (by decide)];rfl) hs (by lia) hS
  obtain ⟨j3,h4⟩:=ih (i+b.1.length) ((F++(dj i b.1.dropLast).map bQ)++[bQ (b.1.getLast?.getD 0,b.2.map s)]) j2 (by rw[aM,hcl];lia) (by lia) fun x hx=>hb x (List.mem_cons_of_mem _ hx)
  refine⟨j3,aS (fr1:=wyF B (.list S) (.list F) j0) rfl (ak hfor h3) (h4.trans ?_)⟩
  have e5:(cQ s i (b::l)).map bQ=(dj i b.1.dropLast).map bQ++([bQ (b.1.getLast?.getD 0,b.2.map s)]++(cQ s (i+b.1.length) l).map bQ):=by
   show ((dj i b.1.dropLast++[(b.1.getLast?.getD 0,b.2.map s)])++cQ s (i+b.1.length) l).map bQ=_
   rw[List.map_append,List.map_append,List.append_assoc];rfl
  rw[e5,List.append_assoc,List.append_assoc]
theorem ways_ok(Y:BsOK B):PN (k+1) 39 [.v (.list (B.map aT))]=some (.list (c4 (aX B)),.v .undef):=by
 have hpos:=Y.pos
 have hle:=Y.le
 have hsum:=lens_sum fun b hb=>(Y.b b hb).le
 obtain ⟨j1,h1⟩:=wy_starts (k:=k) Y
 have hsl:(sts B).length=B.length:=by unfold sts;rw[List.length_map,List.length_range]
 have hS:(ae (sts B)).length=B.length:=by rw[au,hsl]
 have hs:∀ x,x<(ae (sts B)).length→(ae (sts B))[x]?=some (.int (st B x:Nat)):=fun x hx=>by
  rw[hS] at hx
  unfold ae sts
  rw[List.getElem?_map,List.getElem?_map,List.getElem?_range hx];rfl
 obtain ⟨j2,h2⟩:=wy_for (k:=k) (B:=B) (S:=ae (sts B)) (s:=st B) (by lia) hs B 1 [bQ (5,[st B 0])] j1 rfl (by lia) (by rw[hS];exact Y.b)
 let σ:=mkσ [.list (B.map aT)] [st B 0] [ae (sts B)] [] [] ⟨a8,trivial⟩ ⟨by lia,trivial⟩ trivial trivial
 have hit:V.item (.list (ae (sts B)++[])) (.int 0)=some (.int (st B 0)):=by rw[List.append_nil];exact item_list (hs 0 (by lia)) (by lia)
 have H:FA (PN k) σ { item:=[(.list (some 0) [],.int 0,.i 0)] }:={ item:=⟨⟨hit,aL⟩,trivial⟩ }
 have e:=ag (lo:=0) (la:=1) (W:=1000) H (n:=40) (b:=(f_law_ways.body.drop 1).take 1) (fr:=wyS (.list (some 0) []) (.v .undef) j1) (f:=.next) (fr':=wyS (.list (some 0) []) (.list none [.tup [.int 5,.list none [.i 0]]]) j1) (by kernel_rfl)
 replace e:exs (sem (PN k) 0 1 1000 40) ((f_law_ways.body.drop 1).take 1) (wyF B (.list (ae (sts B)++[])) U j1)=some (.next,wyF B (.list (ae (sts B)++[])) (.list [bQ (5,[st B 0])]) j1):=e
 rw[List.append_nil] at e
 rw[ao (fn:=f_law_ways) rfl (by decide)]
 have h3:=cu (n:=39) (ed (n:=38) (i:=0) (fr:=wyF B (.list (ae (sts B))) (.list [bQ (5,[st B 0])]) j1) (l:=B.map aT) rfl) h2
 exact aq (fn:=f_law_ways) (la:=1) (args:=[.v (.list (B.map aT))]) rfl (ak h1 (b7 (a:=(f_law_ways.body.drop 1).take 1) e (ak h3 (aW (dY (n:=39) (i:=2) (fr:=wyF B (.list (ae (sts B))) (.list ([bQ (5,[st B 0])]++(cQ (st B) 1 B).map bQ)) j2) (o:=.list (c4 (aX B))) rfl rfl (by decide))))))
end
section
variable {Φ:Nat→List Own→Option (Own×Own)} {lo la W n:Nat}
theorem dG{i:Nat}{fr:Fr}{l:List V}(h:fr[i]?=some (.list l)):aV (.var i) fr=some l:=ac h rfl
theorem pop_run{i p:Nat}{k:E}{fr fr1:Fr}{l0 l:List V}{j:Int}{x:V}(h0:fr[i]?=some (.list l0))(h1:evV (sem Φ lo la W n) k fr=some (.int j,fr1))(h2:fr1[i]?=some (.list l))(h3:place l.length j=some p)(h4:l[p]?=some x)(h5:x≠.undef):(sem Φ lo la W (n+1)).ev (.pop (.var i) (some k)) fr=some (.v x,fr1.set i (.list (l.eraseIdx p))):=
 ac (dG h0) (ac h1 (ac rfl (ac (dG h2) (ac h3 (ac h4 (ac (ok_of h5) rfl))))))
theorem app_run{i:Nat}{e:E}{fr fr1:Fr}{l0 l:List V}{x:V}(h0:fr[i]?=some (.list l0))(h1:evV (sem Φ lo la W n) e fr=some (x,fr1))(h2:fr1[i]?=some (.list l))(h3:l.length≤5000):(sem Φ lo la W (n+1)).ev (.app (.var i) e) fr=some (.v .none,fr1.set i (.list (l++[x]))):=
 ac (dG h0) (ac h1 (ac (dG h2) (if_pos (Nat.lt_of_le_of_lt h3 (by decide)))))
theorem ext_run{i:Nat}{e:E}{fr fr1:Fr}{l0 l m:List V}(h0:fr[i]?=some (.list l0))(h1:evV (sem Φ lo la W n) e fr=some (.list m,fr1))(h2:fr1[i]?=some (.list l))(h3:l.length+m.length≤5000):(sem Φ lo la W (n+1)).ev (.ext (.var i) e) fr=some (.v .none,fr1.set i (.list (l++m))):=
 ac (dG h0) (ac h1 (ac (dG h2) (if_pos (Nat.le_trans h3 (by decide)))))
theorem expr_run{e:E}{fr fr1:Fr}{o:Own}(h:(sem Φ lo la W n).ev e fr=some (o,fr1)):(sem Φ lo la W (n+1)).ex (.expr e) fr=some (.next,fr1):=ac h rfl
theorem asgT_run{is:List Nat}{es:List E}{fr fr1 fr2:Fr}{os:List Own}(h:evOs (sem Φ lo la W n) es fr=some (os,fr1))(h2:bX lo is os fr1=some fr2):(sem Φ lo la W (n+1)).ex (.asgT is es) fr=some (.next,fr2):=ac h (ac h2 rfl)
theorem lrange_run{e:E}{fr fr1:Fr}{m:Nat}(h:evV (sem Φ lo la W n) e fr=some (.int m,fr1))(hm:m≤5000):(sem Φ lo la W (n+1)).ev (.lrange e) fr=some (.list (ae (List.range m)),fr1):=by
 rw[← rangeL_nats]
 exact ac h (if_pos (decide_eq_true (by lia)))
end
theorem place_nat{n i:Nat}(h:i<n)(hn:n≤5000):place n (i:Int)=some i:=by
 unfold place
 rw[if_pos (Nat.le_trans hn (by decide)),if_pos (Int.natCast_nonneg i),if_pos (Int.ofNat_lt.mpr h),Int.toNat_natCast]
theorem fH:∀ {l:List Nat} {i:Nat},(ae l).eraseIdx i=ae (l.eraseIdx i)
 | [],i=>rfl
 | x::l,0=>rfl
 | x::l,i+1=>congrArg (V.int x::·) (fH (l:=l) (i:=i))
section
variable {k:Nat}
noncomputable def orF(num m:Nat)(F L:List Nat)(x:V):Fr:=[.v (.int num),.v (.int m),.list (ae F),.list (ae L),.v x]
noncomputable abbrev orB:List S:=bJ f_law_order.body 1
theorem ord_turn{num m:Nat}{F L:List Nat}{x:V}(hL:0<L.length)(hL2:L.length≤100)(hF:F.length≤100):
  ∃ v,L[num % L.length]?=some v∧exs (sem (PN k) 0 1 1000 39) orB (orF num m F L x)=some (.next,orF (num / L.length) m (F++[v]) (L.eraseIdx (num % L.length)) (.int L.length)):=by
 have hlt:=Nat.mod_lt num hL
 have hv:L[num % L.length]?=some L[num % L.length]:=List.getElem?_eq_getElem hlt
 refine⟨_,hv,?_⟩
 have hln:(ae L).length=L.length:=au
 let σ:=mkσ [] [num,L.length,(num % L.length:Nat),(num / L.length:Nat),m] [ae F,ae L,ae (F++[L[num % L.length]]),ae (L.eraseIdx (num % L.length))] [] [] trivial ⟨by show (ae _).length≤5000;rw[au];lia,by lia,by show (ae _).length≤5000;rw[au,aM];lia,by show (ae _).length≤5000;rw[au];have:=List.length_eraseIdx_le L (num % L.length);lia,trivial⟩ trivial trivial
 have hlen:V.len (.list (ae L++[]))=some L.length:=by rw[List.append_nil,len_list (by lia),hln]
 have H:FA (PN k) σ { len:=[(.list (some 1) [],.i 1)],bin:=[(.mod,.i 0,.i 1,.v (.i 2)),(.fdiv,.i 0,.i 1,.v (.i 3))] }:={ len:=⟨⟨_,hlen,rfl⟩,trivial⟩,bin:=⟨mod_int hL (by lia),gg hL (by lia),trivial⟩ }
 have e1:=ag (lo:=0) (la:=1) (W:=1000) H (n:=39) (b:=orB.take 1) (fr:=[.v (.i 0),.v (.i 4),.list (some 0) [],.list (some 1) [],.v (.k x)]) (f:=.next) (fr':=[.v (.i 0),.v (.i 4),.list (some 0) [],.list (some 1) [],.v (.i 1)]) (by kernel_rfl)
 replace e1:exs (sem (PN k) 0 1 1000 39) (orB.take 1) [.v (.int num),.v (.int m),.list (ae F++[]),.list (ae L++[]),.v x]=some (.next,[.v (.int num),.v (.int m),.list (ae F++[]),.list (ae L++[]),.v (.int L.length)]):=e1
 have e2:=bu (lo:=0) (la:=1) (W:=1000) H (n:=36) (e:=.bin .mod (.var 0) (.var 4)) (fr:=[.v (.i 0),.v (.i 4),.list (some 0) [],.list (some 1) [],.v (.i 1)]) (o:=.i 2) (fr':=[.v (.i 0),.v (.i 4),.list (some 0) [],.list (some 1) [],.v (.i 1)]) (by kernel_rfl)
 replace e2:evV (sem (PN k) 0 1 1000 36) (.bin .mod (.var 0) (.var 4)) [.v (.int num),.v (.int m),.list (ae F++[]),.list (ae L++[]),.v (.int L.length)]=some (.int (num % L.length:Nat),[.v (.int num),.v (.int m),.list (ae F++[]),.list (ae L++[]),.v (.int L.length)]):=e2
 have e4:=ag (lo:=0) (la:=1) (W:=1000) H (n:=39) (b:=orB.drop 2) (fr:=[.v (.i 0),.v (.i 4),.list (some 2) [],.list (some 3) [],.v (.i 1)]) (f:=.next) (fr':=[.v (.i 3),.v (.i 4),.list (some 2) [],.list (some 3) [],.v (.i 1)]) (by kernel_rfl)
 replace e4:exs (sem (PN k) 0 1 1000 39) (orB.drop 2) [.v (.int num),.v (.int m),.list (ae (F++[L[num % L.length]])++[]),.list (ae (L.eraseIdx (num % L.length))++[]),.v (.int L.length)]=some (.next,[.v (.int (num / L.length:Nat)),.v (.int m),.list (ae (F++[L[num % L.length]])++[]),.list (ae (L.eraseIdx (num % L.length))++[]),.v (.int L.length)]):=e4
 rw[List.append_nil,List.append_nil] at e1 e2 e4
 have hx:(ae L)[num % L.length]?=some (.int L[num % L.length]):=by unfold ae;rw[List.getElem?_map,hv];rfl
 have e3:=pop_run (n:=36) (i:=3) rfl e2 rfl (by rw[hln];exact place_nat hlt (by lia)) hx aL
 have e5:=expr_run (n:=38) (app_run (n:=37) (i:=2) rfl (b8 e3) rfl (by rw[au];lia))
 refine b7 (a:=orB.take 1) e1 (ak e5 ?_)
 rw[← fH,cY] at e4
 refine e4.trans ?_
 show _=some (Fl.next,[Own.v (.int (num / L.length:Nat)),.v (.int m),.list (ae (F++[L[num % L.length]])),.list (ae (L.eraseIdx (num % L.length))),.v (.int L.length)])
 rw[cY,fH]
theorem perm_erase{α:Type}{v:α}:∀ {l:List α} {i:Nat},l[i]?=some v→(v::l.eraseIdx i).Perm l
 | [],i,h=>nomatch h
 | x::l,0,h=>by cases h;exact .refl _
 | x::l,i+1,h=>(List.Perm.swap x v _).trans ((perm_erase (l:=l) (i:=i) h).cons x)
theorem ord_test{num m:Nat}{F L:List Nat}{x:V}(hL2:L.length≤100)(hF:F.length≤100):evB (sem (PN k) 0 1 1000 39) (cv f_law_order.body 1) (orF num m F L x)=some (decide (0<L.length),orF num m F L x):=by
 let σ:=mkσ [] [num,m] [ae F,ae L] [] [] trivial ⟨by show (ae _).length≤5000;rw[au];lia,by show (ae _).length≤5000;rw[au];lia,trivial⟩ trivial trivial
 have hc:aH .ne (.list (ae L++[])) (.list [])=some (decide (0<L.length)):=by
  rw[List.append_nil]
  cases L with
  | nil=>rfl
  | cons y L=>exact(ne_nilL (by rw[au];exact Nat.succ_pos _)).trans (congrArg some (decide_eq_true (Nat.succ_pos _)).symm)
 have H:FA (PN k) σ { cmp:=[(.ne,.list (some 1) [],.list none [],decide (0<L.length))] }:={ cmp:=⟨hc,trivial⟩ }
 have e:=cH (lo:=0) (la:=1) (W:=1000) H (n:=39) (e:=cv f_law_order.body 1) (fr:=[.v (.i 0),.v (.i 1),.list (some 0) [],.list (some 1) [],.v (.k x)]) (b:=decide (0<L.length)) (fr':=[.v (.i 0),.v (.i 1),.list (some 0) [],.list (some 1) [],.v (.k x)]) (by kernel_rfl)
 replace e:evB (sem (PN k) 0 1 1000 39) (cv f_law_order.body 1) [.v (.int num),.v (.int m),.list (ae F++[]),.list (ae L++[]),.v x]=some (decide (0<L.length),[.v (.int num),.v (.int m),.list (ae F++[]),.list (ae L++[]),.v x]):=e
 rw[List.append_nil,List.append_nil] at e;exact e
theorem ord_loop{m:Nat}:∀ (n num:Nat) (F L:List Nat) (x:V),L.length<n→F.length+L.length≤100→
  ∃ num' x' O,bL (sem (PN k) 0 1 1000 39) (cv f_law_order.body 1) orB n (orF num m F L x)=some (.next,orF num' m (F++O) [] x')∧O.Perm L:=by
 intro n
 induction n with
 | zero=>intro num F L x h;lia
 | succ n ih=>
  intro num F L x hn hs
  have T:=ord_test (k:=k) (num:=num) (m:=m) (F:=F) (L:=L) (x:=x) (by lia) (by lia)
  by_cases hL:0<L.length
  ·rw[decide_eq_true hL] at T
   obtain ⟨v,hv,hb⟩:=ord_turn (k:=k) (num:=num) (m:=m) (F:=F) (x:=x) hL (by lia) (by lia)
   have hlen:=List.length_eraseIdx_of_lt (Nat.mod_lt num hL)
   obtain ⟨num',x',O,h1,h2⟩:=ih (num / L.length) (F++[v]) (L.eraseIdx (num % L.length)) (.int L.length) (by lia) (by rw[aM];lia)
   refine⟨num',x',v::O,c6 T hb (h1.trans ?_),(h2.cons v).trans (perm_erase hv)⟩
   rw[List.append_assoc];rfl
  ·rw[decide_eq_false hL] at T
   have e:L=[]:=List.length_eq_zero_iff.mp (by lia)
   subst e
   exact⟨num,x,[],by rw[List.append_nil];exact cB T,.refl _⟩
theorem order_ok{num m:Nat}(hm:m≤50):∃ O,PN (k+1) 40 [.v (.int num),.v (.int m)]=some (.list (ae O),.v .undef)∧O.Perm (List.range m):=by
 obtain ⟨num',x',O,h1,h2⟩:=ord_loop (k:=k) (m:=m) 1000 num [] (List.range m) .undef (by rw[List.length_range];lia) (by rw[List.length_range,List.length_nil];lia)
 refine⟨O,?_,h2⟩
 have e0:=lrange_run (Φ:=PN k) (lo:=0) (la:=1) (W:=1000) (n:=38) (e:=.var 1) (fr:=[.v (.int num),.v (.int m),.v .undef,.v .undef,.v .undef]) (fr1:=[.v (.int num),.v (.int m),.v .undef,.v .undef,.v .undef]) (m:=m) rfl (by lia)
 have e1:(sem (PN k) 0 1 1000 40).ex (.asgT [2,3] [.list [],.lrange (.var 1)]) [.v (.int num),.v (.int m),.v .undef,.v .undef,.v .undef]=some (.next,orF num m [] (List.range m) .undef):=
  asgT_run (n:=39) (os:=[.list [],.list (ae (List.range m))]) (ac (x:=(Own.list [],[.v (.int num),.v (.int m),.v .undef,.v .undef,.v .undef])) rfl (ac (ac e0 rfl) rfl)) rfl
 rw[ao (fn:=f_law_order) rfl (by decide)]
 exact aq (fn:=f_law_order) (la:=1) (args:=[.v (.int num),.v (.int m)]) rfl (ak e1 (ak (while_run (n:=39) h1) (aW (dY (n:=39) (i:=2) (o:=.list (ae O)) rfl rfl (by decide)))))
end
noncomputable def bw(k:Nat):List Nat:=[98,48+k]
noncomputable def xw(k:Nat):List Nat:=[120,48+k]
noncomputable def fZ(g0:Nat)(o:Nat):RowI:=if o=59∨o=60 then .j o (xw g0) else .o o
noncomputable def bb(b:Bk):List RowI:=b.1.map (fZ (b.2.headD 0))
noncomputable def jg:Option Nat→List RowI
 | none=>[]
 | some g=>[.j 58 (bw g)]
noncomputable def aI(sh:Bool)(goal:Option Nat)(a:Nat):List RowI:=if sh=true∧goal=some a then [] else jg goal
noncomputable def bC(B:Nat→Bk)(sh:Bool):Option Nat→List Nat→List RowI
 | goal,[]=>jg goal
 | goal,a::r=>aI sh goal a++([RowI.l (bw a),RowI.l (xw a)]++(bb (B a)++bC B sh (B a).2.getLast? r))
theorem fS{g:Nat}(h:g<10):Mine.prim .str (.int g)=some (.v (.str [48+g])):=by
 show (if 0≤(g:Int)∧(g:Int)<10 then some (Own.v (.str [48+(g:Int).toNat])) else none)=_
 rw[if_pos (by lia),Int.toNat_natCast]
theorem eq_int{a b:Nat}:aH .eq (.int a) (.int b)=some (decide (a=b)):=by
 show some ((a:Int)==(b:Int))=_
 congr 1
 by_cases h:a=b
 ·subst h;simp
 ·rw[decide_eq_false h];exact beq_false_of_ne (by lia)
section
variable {B:List Bk} {ord:List Nat} {sh:Bool} {R:List V} {k:Nat}
noncomputable abbrev ptB:List S:=bJ f_law_put.body 1
noncomputable def ptF(B:List Bk)(ord:List Nat)(sh:Bool)(R:List V)(goal:Option Nat)(j:Nat→V):Fr:=[.v (.list (B.map aT)),.v (.list (ae ord)),.v (.bool sh),.list R,.v (enc goal),.v (j 5),.v (j 6),.v (j 7),.v (j 8)]
noncomputable def ptJ(j:Nat→V)(a:Nat)(b:Bk):Nat→V:=upd (upd (upd j 5 (.int a)) 6 (aK b.1)) 7 (aK b.2)
theorem pt_ahead{goal:Option Nat}{a:Nat}{b:Bk}(j:Nat→V)(hb:B[a]?=some b)(ha:a<10)(hg:∀ g,goal=some g→g<10)(hB:B.length≤100)(hR:R.length≤3000):
  exs (sem (PN k) 0 1 1000 39) (ptB.take 3) (ptF B ord sh R goal (upd j 5 (.int a)))=some (.next,ptF B ord sh (R++(aI sh goal a++[RowI.l (bw a),RowI.l (xw a)]).map aJ) goal (ptJ j a b)):=by
 have hit:V.item (.list (B.map aT)) (.int a)=some (.tup [aK b.1,aK b.2]):=item_list (by rw[List.getElem?_map,hb];rfl) (by rw[List.length_map];lia)
 have e0:∀ j,ptF B ord sh (R++[]) goal j=ptF B ord sh R goal j:=fun j=>by rw[List.append_nil]
 cases goal with
 | none=>
  let σ:=mkσ [.list (B.map aT),.list (ae ord),.str [48+a],.str (bw a),.str (xw a),aK b.1,aK b.2] [a] [R] [] [] ⟨a8,a8,bW,bW,bW,a8,a8,trivial⟩ ⟨by lia,trivial⟩ trivial trivial
  have H:FA (PN k) σ { item:=[(.a 0,.i 0,.tup [.a 5,.a 6])],prim:=[(.str,.i 0,.v (.a 2))],bin:=[(.add,.str [98],.a 2,.v (.a 3)),(.add,.str [120],.a 2,.v (.a 4))] }:={ item:=⟨⟨hit,aD⟩,trivial⟩,prim:=⟨fS ha,trivial⟩,bin:=⟨rfl,rfl,trivial⟩ }
  have e:=ag (lo:=0) (la:=1) (W:=1000) H (n:=39) (b:=ptB.take 3) (fr:=[.v (.a 0),.v (.a 1),.v (.bool sh),.list (some 0) [],.v .none,.v (.i 0),.v (.k (j 6)),.v (.k (j 7)),.v (.k (j 8))]) (f:=.next) (fr':=[.v (.a 0),.v (.a 1),.v (.bool sh),.list (some 0) [.a 3,.a 4],.v .none,.v (.i 0),.v (.a 5),.v (.a 6),.v (.k (j 8))]) (by kernel_rfl)
  replace e:exs (sem (PN k) 0 1 1000 39) (ptB.take 3) (ptF B ord sh (R++[]) none (upd j 5 (.int a)))=some (.next,ptF B ord sh (R++[.str (bw a),.str (xw a)]) none (ptJ j a b)):=e
  rw[e0] at e
  have ea:aI sh none a=[]:=by unfold aI;split <;> rfl
  rw[ea];exact e
 | some g=>
  have hg:=hg g rfl
  let σ:=mkσ [.list (B.map aT),.list (ae ord),.str [48+a],.str (bw a),.str (xw a),aK b.1,aK b.2,.str [48+g],.str (bw g)] [a,g] [R] [] [] ⟨a8,a8,bW,bW,bW,a8,a8,bW,bW,trivial⟩ ⟨by lia,trivial⟩ trivial trivial
  have H:FA (PN k) σ { item:=[(.a 0,.i 0,.tup [.a 5,.a 6])],cmp:=[(.eq,.i 1,.i 0,decide (g=a))],prim:=[(.str,.i 0,.v (.a 2)),(.str,.i 1,.v (.a 7))],bin:=[(.add,.str [98],.a 2,.v (.a 3)),(.add,.str [120],.a 2,.v (.a 4)),(.add,.str [98],.a 7,.v (.a 8))] }:={ item:=⟨⟨hit,aD⟩,trivial⟩,cmp:=⟨eq_int,trivial⟩,prim:=⟨fS ha,fS hg,trivial⟩,bin:=⟨rfl,rfl,rfl,trivial⟩ }
  have e:=ag (lo:=0) (la:=1) (W:=1000) H (n:=39) (b:=ptB.take 3) (fr:=[.v (.a 0),.v (.a 1),.v (.bool sh),.list (some 0) [],.v (.i 1),.v (.i 0),.v (.k (j 6)),.v (.k (j 7)),.v (.k (j 8))]) (f:=.next) (fr':=[.v (.a 0),.v (.a 1),.v (.bool sh),.list (some 0) ((if sh&&decide (g=a) then [] else [.tup [.int 58,.a 8]])++[.a 3,.a 4]),.v (.i 1),.v (.i 0),.v (.a 5),.v (.a 6),.v (.k (j 8))]) (by cases sh <;> cases decide (g=a) <;> kernel_rfl)
  have e1:am σ [.v (.a 0),.v (.a 1),.v (.bool sh),.list (some 0) ((if sh&&decide (g=a) then [] else [.tup [.int 58,.a 8]])++[.a 3,.a 4]),.v (.i 1),.v (.i 0),.v (.a 5),.v (.a 6),.v (.k (j 8))]=ptF B ord sh (R++(aI sh (some g) a++[RowI.l (bw a),RowI.l (xw a)]).map aJ) (some g) (ptJ j a b):=by
   have ea:aI sh (some g) a=if sh&&decide (g=a) then [] else jg (some g):=by
    unfold aI
    by_cases h:sh=true∧some g=some a
    ·have h2:(sh&&decide (g=a))=true:=by rw[h.1,decide_eq_true (Option.some.inj h.2)];rfl
     rw[if_pos h,if_pos h2]
    ·have h2:¬(sh&&decide (g=a))=true:=fun h3=>h ⟨(and2 h3).1,congrArg some (of_decide_eq_true (and2 h3).2)⟩
     rw[if_neg h,if_neg h2]
   rw[ea]
   cases sh&&decide (g=a) <;> rfl
  rw[e1] at e
  replace e:exs (sem (PN k) 0 1 1000 39) (ptB.take 3) (ptF B ord sh (R++[]) (some g) (upd j 5 (.int a)))=some (.next,ptF B ord sh (R++(aI sh (some g) a++[RowI.l (bw a),RowI.l (xw a)]).map aJ) (some g) (ptJ j a b)):=e
  rw[e0] at e;exact e
noncomputable abbrev ptE:E:=.tup [.var 8,.ite (.cmp .isIn (.var 8) (.tup [.const (.int 59),.const (.int 60)])) (.bin .add (.const (.str [120])) (.prim .str (.sub (.var 7) (.const (.int 0))))) (.const .none)]
theorem pt_elt{goal:Option Nat}{a o:Nat}{b:Bk}(j:Nat→V)(hb2:o=59∨o=60→0<b.2.length)(hb3:b.2.length≤2)(hb4:∀ x∈b.2,x<10)(hR:R.length≤3000):
  evV (sem (PN k) 0 1 1000 36) ptE (ptF B ord sh R goal (upd (ptJ j a b) 8 (.int o)))=some (aJ (fZ (b.2.headD 0) o),ptF B ord sh R goal (upd (ptJ j a b) 8 (.int o))):=by
 have e0:∀ j,ptF B ord sh (R++[]) goal j=ptF B ord sh R goal j:=fun j=>by rw[List.append_nil]
 unfold fZ
 by_cases ho:o=59∨o=60
 ·have hp:=hb2 ho
  have hg:b.2.headD 0<10:=hb4 _ (by cases h:b.2 with | nil=>rw[h] at hp;cases hp | cons x l=>exact List.mem_cons_self ..)
  have hit:V.item (aK b.2) (.int 0)=some (.int (b.2.headD 0:Nat)):=item_list (i:=0) (by cases h:b.2 with | nil=>rw[h] at hp;cases hp | cons x l=>rfl) (by rw[List.length_map];lia)
  let σ:=mkσ [.list (B.map aT),.list (ae ord),aK b.1,aK b.2,.str [48+b.2.headD 0],.str (xw (b.2.headD 0)),.none,enc goal] [a,o,b.2.headD 0] [R] [] [] ⟨a8,a8,a8,a8,bW,bW,fe,cX,trivial⟩ ⟨by lia,trivial⟩ trivial trivial
  have H:FA (PN k) σ { item:=[(.a 3,.int 0,.i 2)],cmp:=[(.isIn,.i 1,.tup [.int 59,.int 60],true)],prim:=[(.str,.i 2,.v (.a 4))],bin:=[(.add,.str [120],.a 4,.v (.a 5))] }:={ item:=⟨⟨hit,aL⟩,trivial⟩,cmp:=⟨in_yes ho,trivial⟩,prim:=⟨fS hg,trivial⟩,bin:=⟨rfl,trivial⟩ }
  have e:=bu (lo:=0) (la:=1) (W:=1000) H (n:=36) (e:=ptE) (fr:=[.v (.a 0),.v (.a 1),.v (.bool sh),.list (some 0) [],.v (.a 7),.v (.i 0),.v (.a 2),.v (.a 3),.v (.i 1)]) (o:=.tup [.i 1,.a 5]) (fr':=[.v (.a 0),.v (.a 1),.v (.bool sh),.list (some 0) [],.v (.a 7),.v (.i 0),.v (.a 2),.v (.a 3),.v (.i 1)]) (by kernel_rfl)
  replace e:evV (sem (PN k) 0 1 1000 36) ptE (ptF B ord sh (R++[]) goal (upd (ptJ j a b) 8 (.int o)))=some (aJ (.j o (xw (b.2.headD 0))),ptF B ord sh (R++[]) goal (upd (ptJ j a b) 8 (.int o))):=e
  rw[e0] at e
  rw[if_pos ho];exact e
 ·let σ:=mkσ [.list (B.map aT),.list (ae ord),aK b.1,aK b.2,.none,.none,.none,enc goal] [a,o] [R] [] [] ⟨a8,a8,a8,a8,fe,fe,fe,cX,trivial⟩ ⟨by lia,trivial⟩ trivial trivial
  have H:FA (PN k) σ { cmp:=[(.isIn,.i 1,.tup [.int 59,.int 60],false)] }:={ cmp:=⟨in_no ⟨fun h=>ho (.inl h),fun h=>ho (.inr h)⟩,trivial⟩ }
  have e:=bu (lo:=0) (la:=1) (W:=1000) H (n:=36) (e:=ptE) (fr:=[.v (.a 0),.v (.a 1),.v (.bool sh),.list (some 0) [],.v (.a 7),.v (.i 0),.v (.a 2),.v (.a 3),.v (.i 1)]) (o:=.tup [.i 1,.none]) (fr':=[.v (.a 0),.v (.a 1),.v (.bool sh),.list (some 0) [],.v (.a 7),.v (.i 0),.v (.a 2),.v (.a 3),.v (.i 1)]) (by kernel_rfl)
  replace e:evV (sem (PN k) 0 1 1000 36) ptE (ptF B ord sh (R++[]) goal (upd (ptJ j a b) 8 (.int o)))=some (aJ (.o o),ptF B ord sh (R++[]) goal (upd (ptJ j a b) 8 (.int o))):=e
  rw[e0] at e
  rw[if_neg ho];exact e
structure PutOK (b:Bk):Prop where
 le:b.1.length≤20
 gl:b.2.length≤2
 g:∀ x∈b.2,x<10
 j:∀ o∈b.1,o=59∨o=60→0<b.2.length
theorem pt_comp{goal:Option Nat}{a:Nat}{b:Bk}(j:Nat→V)(hb:PutOK b)(hR:R.length≤3000)(l:List Nat):∀ (acc:List V) (x:V),(∀ o∈l,o∈b.1)→acc.length+l.length≤100→
  ∃ y,bt (sem (PN k) 0 1 1000 36) 0 (.var 8) none ptE (ae l) acc (ptF B ord sh R goal (upd (ptJ j a b) 8 x))=some (acc++(l.map (fZ (b.2.headD 0))).map aJ,ptF B ord sh R goal (upd (ptJ j a b) 8 y)):=by
 induction l with
 | nil=>intro acc x _ _;exact⟨x,by show some (acc,_)=some (acc++[],_);rw[List.append_nil]⟩
 | cons o l ih=>
  intro acc x hm h
  rw[List.length_cons] at h
  obtain ⟨y,h1⟩:=ih (acc++[aJ (fZ (b.2.headD 0) o)]) (.int o) (fun x hx=>hm x (List.mem_cons_of_mem _ hx)) (by rw[aM];lia)
  have e:=pt_elt (k:=k) (B:=B) (ord:=ord) (sh:=sh) (R:=R) (goal:=goal) (a:=a) (o:=o) (b:=b) j (hb.j o (hm o (List.mem_cons_self ..))) hb.gl hb.g hR
  refine⟨y,(cZ (fr1:=ptF B ord sh R goal (upd (ptJ j a b) 8 (.int o))) rfl e (by lia) h1).trans ?_⟩
  rw[List.append_assoc];rfl
theorem pt_last{goal:Option Nat}{a:Nat}{b:Bk}{x:V}(j:Nat→V)(hb:PutOK b)(hR:R.length≤3000):
  exs (sem (PN k) 0 1 1000 39) (ptB.drop 4) (ptF B ord sh R goal (upd (ptJ j a b) 8 x))=some (.next,ptF B ord sh R b.2.getLast? (upd (ptJ j a b) 8 x)):=by
 have e0:∀ goal j,ptF B ord sh (R++[]) goal j=ptF B ord sh R goal j:=fun goal j=>by rw[List.append_nil]
 cases hg:b.2 with
 | nil=>
  let σ:=mkσ [.list (B.map aT),.list (ae ord),aK b.1,aK b.2,enc goal] [a] [R] [] [] ⟨a8,a8,a8,a8,cX,trivial⟩ ⟨by lia,trivial⟩ trivial trivial
  have H:FA (PN k) σ { cmp:=[(.ne,.a 3,.list none [],false)] }:={ cmp:=⟨by show aH .ne (aK b.2) (.list [])=_;rw[hg];rfl,trivial⟩ }
  have e:=ag (lo:=0) (la:=1) (W:=1000) H (n:=39) (b:=ptB.drop 4) (fr:=[.v (.a 0),.v (.a 1),.v (.bool sh),.list (some 0) [],.v (.a 4),.v (.i 0),.v (.a 2),.v (.a 3),.v (.k x)]) (f:=.next) (fr':=[.v (.a 0),.v (.a 1),.v (.bool sh),.list (some 0) [],.v .none,.v (.i 0),.v (.a 2),.v (.a 3),.v (.k x)]) (by kernel_rfl)
  replace e:exs (sem (PN k) 0 1 1000 39) (ptB.drop 4) (ptF B ord sh (R++[]) goal (upd (ptJ j a b) 8 x))=some (.next,ptF B ord sh (R++[]) none (upd (ptJ j a b) 8 x)):=e
  rw[e0,e0] at e;exact e
 | cons g gs=>
  have hne:b.2≠[]:=by rw[hg];exact fun h=>nomatch h
  have hgl:=hb.gl
  have hl:=item_last hne (by lia)
  have e2:b.2.getLast?=some (b.2.getLast?.getD 0):=by rw[hg,List.getLast?_cons];rfl
  rw[← hg,e2]
  let σ:=mkσ [.list (B.map aT),.list (ae ord),aK b.1,aK b.2,enc goal] [a,b.2.getLast?.getD 0] [R] [] [] ⟨a8,a8,a8,a8,cX,trivial⟩ ⟨by lia,trivial⟩ trivial trivial
  have H:FA (PN k) σ { item:=[(.a 3,.int (-1),.i 1)],cmp:=[(.ne,.a 3,.list none [],true)] }:={ item:=⟨⟨hl,aL⟩,trivial⟩,cmp:=⟨ne_nilL (by rw[List.length_map];exact List.length_pos_iff.mpr hne),trivial⟩ }
  have e:=ag (lo:=0) (la:=1) (W:=1000) H (n:=39) (b:=ptB.drop 4) (fr:=[.v (.a 0),.v (.a 1),.v (.bool sh),.list (some 0) [],.v (.a 4),.v (.i 0),.v (.a 2),.v (.a 3),.v (.k x)]) (f:=.next) (fr':=[.v (.a 0),.v (.a 1),.v (.bool sh),.list (some 0) [],.v (.i 1),.v (.i 0),.v (.a 2),.v (.a 3),.v (.k x)]) (by kernel_rfl)
  replace e:exs (sem (PN k) 0 1 1000 39) (ptB.drop 4) (ptF B ord sh (R++[]) goal (upd (ptJ j a b) 8 x))=some (.next,ptF B ord sh (R++[]) (some (b.2.getLast?.getD 0)) (upd (ptJ j a b) 8 x)):=e
  rw[e0,e0] at e;exact e
end
section
variable {B:List Bk} {ord:List Nat} {sh:Bool} {k:Nat}
noncomputable abbrev ptC:E:=.comp (.var 8) (.val (.var 6)) none ptE
theorem pt_turn{R:List V}{goal:Option Nat}{a:Nat}{b:Bk}(j:Nat→V)(hb:B[a]?=some b)(ha:a<10)(hg:∀ g,goal=some g→g<10)(hB:B.length≤100)(hP:PutOK b)(hR:R.length≤2000):
  ∃ j',exs (sem (PN k) 0 1 1000 39) ptB (ptF B ord sh R goal (upd j 5 (.int a)))=some (.next,ptF B ord sh (R++(aI sh goal a++([RowI.l (bw a),RowI.l (xw a)]++bb b)).map aJ) b.2.getLast? j'):=by
 have h1:=pt_ahead (k:=k) (ord:=ord) (sh:=sh) (R:=R) (goal:=goal) j hb ha hg hB (by lia)
 let R1:List V:=R++(aI sh goal a++[RowI.l (bw a),RowI.l (xw a)]).map aJ
 have hah:(aI sh goal a).length≤1:=by
  unfold aI
  split
  ·exact Nat.zero_le _
  ·cases goal <;> first | exact Nat.zero_le _ | exact Nat.le_refl _
 have hR1:R1.length≤3000:=by
  show (R++_).length≤_
  rw[List.length_append,List.length_map,List.length_append]
  show R.length+((aI sh goal a).length+2)≤3000
  lia
 have hle:=hP.le
 obtain ⟨y,h2⟩:=pt_comp (k:=k) (B:=B) (ord:=ord) (sh:=sh) (R:=R1) (goal:=goal) (a:=a) j hP hR1 b.1 [] .undef (fun _ h=>h) (by rw[List.length_nil];lia)
 have hit:bZ (sem (PN k) 0 1 1000 36) (.val (.var 6)) (ptF B ord sh R1 goal (ptJ j a b))=some (ae b.1,ptF B ord sh R1 goal (ptJ j a b)):=ed (n:=35) (i:=6) rfl
 have hc:=cw (n:=36) (t:=.var 8) hit h2
 rw[List.nil_append] at hc
 have hc2:(sem (PN k) 0 1 1000 37).ev ptC (ptF B ord sh R1 goal (ptJ j a b))=some (.list ((bb b).map aJ),ptF B ord sh R1 goal (upd (ptJ j a b) 8 .undef)):=hc
 have hbl:((bb b).map aJ).length≤20:=by unfold bb;rw[List.length_map,List.length_map];exact hle
 have e:(R1++(bb b).map aJ)=R++(aI sh goal a++([RowI.l (bw a),RowI.l (xw a)]++bb b)).map aJ:=by
  show (R++_)++_=_
  rw[List.append_assoc,← List.map_append,List.append_assoc]
 have hx:(sem (PN k) 0 1 1000 38).ev (.ext (.var 3) ptC) (ptF B ord sh R1 goal (ptJ j a b))=some (.v .none,ptF B ord sh (R1++(bb b).map aJ) goal (upd (ptJ j a b) 8 .undef)):=ext_run (n:=37) (i:=3) (l0:=R1) (l:=R1) rfl (b8 hc2) rfl (by lia)
 have h3:=expr_run (n:=38) hx
 have h4:=pt_last (k:=k) (B:=B) (ord:=ord) (sh:=sh) (R:=R1++(bb b).map aJ) (goal:=goal) (a:=a) (x:=.undef) j hP (by
  have:R1.length≤2003:=by
   show (R++_).length≤_
   rw[List.length_append,List.length_map,List.length_append]
   show R.length+((aI sh goal a).length+2)≤2003
   lia
  rw[List.length_append];lia)
 rw[← e]
 exact⟨_,b7 (a:=ptB.take 3) h1 (ak h3 h4)⟩
theorem pt_for(hB:B.length≤100)(hP:∀ b∈B,PutOK b)(r:List Nat):∀ (R:List V) (goal:Option Nat) (j:Nat→V),(∀ a∈r,a<B.length∧a<10)→(∀ g,goal=some g→g<10)→R.length+30*r.length≤1000→
  ∃ j' g',cF (sem (PN k) 0 1 1000 39) 0 (.var 5) ptB (ae r) (ptF B ord sh R goal j)=some (.next,ptF B ord sh (R++((bC (fun a=>B.getD a ([],[])) sh goal r).take ((bC (fun a=>B.getD a ([],[])) sh goal r).length - (jg g').length)).map aJ) g' j')∧(∀ g,g'=some g→g<10)∧bC (fun a=>B.getD a ([],[])) sh goal r=(bC (fun a=>B.getD a ([],[])) sh goal r).take ((bC (fun a=>B.getD a ([],[])) sh goal r).length - (jg g').length)++jg g':=by
 induction r with
 | nil=>
  intro R goal j _ hg _
  refine⟨j,goal,?_,hg,?_⟩
  ·show some (Fl.next,_)=some (Fl.next,ptF B ord sh (R++((jg goal).take ((jg goal).length - (jg goal).length)).map aJ) goal j)
   rw[Nat.sub_self,List.take_zero];show _=some (Fl.next,ptF B ord sh (R++[]) goal j);rw[List.append_nil]
  ·show jg goal=(jg goal).take ((jg goal).length - (jg goal).length)++jg goal
   rw[Nat.sub_self];rfl
 | cons a r ih=>
  intro R goal j ha hg hR
  rw[List.length_cons] at hR
  obtain ⟨a1,a2⟩:=ha a (List.mem_cons_self ..)
  have hb:B[a]?=some (B.getD a ([],[])):=by rw[List.getD_eq_getElem?_getD,List.getElem?_eq_getElem a1];rfl
  have hbm:B.getD a ([],[])∈B:=List.mem_of_getElem? hb
  have hPb:=hP _ hbm
  have hle:=hPb.le
  obtain ⟨j1,T⟩:=pt_turn (k:=k) (ord:=ord) (sh:=sh) (R:=R) (goal:=goal) j hb a2 hg hB hPb (by lia)
  let X:=aI sh goal a++([RowI.l (bw a),RowI.l (xw a)]++bb (B.getD a ([],[])))
  have hah:(aI sh goal a).length≤1:=by
   unfold aI
   split
   ·exact Nat.zero_le _
   ·cases goal <;> first | exact Nat.zero_le _ | exact Nat.le_refl _
  have hX:X.length≤30:=by
   show (aI sh goal a++_).length≤30
   rw[List.length_append,List.length_append]
   unfold bb
   rw[List.length_map]
   show (aI sh goal a).length+(2+_)≤30
   lia
  obtain ⟨j2,g',h1,h2,h3⟩:=ih (R++X.map aJ) (B.getD a ([],[])).2.getLast? j1 (fun x hx=>ha x (List.mem_cons_of_mem _ hx)) (fun g h=>hPb.g g (List.mem_of_getLast? h)) (by rw[List.length_append,List.length_map];lia)
  let Z:=bC (fun a=>B.getD a ([],[])) sh (B.getD a ([],[])).2.getLast? r
  have hZ:Z=Z.take (Z.length - (jg g').length)++jg g':=h3
  have hlen:(jg g').length≤Z.length:=by rw[hZ,List.length_append];exact Nat.le_add_left ..
  have ep:bC (fun a=>B.getD a ([],[])) sh goal (a::r)=X++Z:=by
   show aI sh goal a++([RowI.l (bw a),RowI.l (xw a)]++(bb (B.getD a ([],[]))++Z))=_
   show _=(aI sh goal a++([RowI.l (bw a),RowI.l (xw a)]++bb (B.getD a ([],[]))))++Z
   rw[List.append_assoc,List.append_assoc]
  have et:(X++Z).take ((X++Z).length - (jg g').length)=X++Z.take (Z.length - (jg g').length):=by
   rw[List.length_append,Nat.add_sub_assoc hlen,List.take_length_add_append]
  refine⟨j2,g',aS (fr1:=ptF B ord sh R goal (upd j 5 (.int a))) rfl T (h1.trans ?_),h2,?_⟩
  ·rw[ep,et];exact congrArg (fun l=>some (Fl.next,ptF B ord sh l g' j2)) ((List.append_assoc ..).trans (congrArg (R++·) List.map_append.symm))
  ·rw[ep,et];exact(congrArg (X++·) hZ).trans (List.append_assoc ..).symm
theorem pt_end{R:List V}{goal:Option Nat}{j:Nat→V}(hg:∀ g,goal=some g→g<10)(hR:R.length≤3000):
  ∃ R',exs (sem (PN k) 0 1 1000 40) ((f_law_put.body.drop 2).take 1) (ptF B ord sh R goal j)=some (.next,R')∧R'=ptF B ord sh (R++(jg goal).map aJ) goal j:=by
 refine⟨_,?_,rfl⟩
 cases goal with
 | none=>
  let σ:=mkσ [.list (B.map aT),.list (ae ord)] [] [R] [] [] ⟨a8,a8,trivial⟩ ⟨by lia,trivial⟩ trivial trivial
  have H:FA (PN k) σ {}:={}
  have e:=ag (lo:=0) (la:=1) (W:=1000) H (n:=40) (b:=(f_law_put.body.drop 2).take 1) (fr:=[.v (.a 0),.v (.a 1),.v (.bool sh),.list (some 0) [],.v .none,.v (.k (j 5)),.v (.k (j 6)),.v (.k (j 7)),.v (.k (j 8))]) (f:=.next) (fr':=[.v (.a 0),.v (.a 1),.v (.bool sh),.list (some 0) [],.v .none,.v (.k (j 5)),.v (.k (j 6)),.v (.k (j 7)),.v (.k (j 8))]) (by kernel_rfl)
  replace e:exs (sem (PN k) 0 1 1000 40) ((f_law_put.body.drop 2).take 1) (ptF B ord sh (R++[]) none j)=some (.next,ptF B ord sh (R++[]) none j):=e
  refine Eq.trans ?_ e
  rw[List.append_nil]
 | some g=>
  have hg:=hg g rfl
  let σ:=mkσ [.list (B.map aT),.list (ae ord),.str [48+g],.str (bw g)] [g] [R] [] [] ⟨a8,a8,bW,bW,trivial⟩ ⟨by lia,trivial⟩ trivial trivial
  have H:FA (PN k) σ { prim:=[(.str,.i 0,.v (.a 2))],bin:=[(.add,.str [98],.a 2,.v (.a 3))] }:={ prim:=⟨fS hg,trivial⟩,bin:=⟨rfl,trivial⟩ }
  have e:=ag (lo:=0) (la:=1) (W:=1000) H (n:=40) (b:=(f_law_put.body.drop 2).take 1) (fr:=[.v (.a 0),.v (.a 1),.v (.bool sh),.list (some 0) [],.v (.i 0),.v (.k (j 5)),.v (.k (j 6)),.v (.k (j 7)),.v (.k (j 8))]) (f:=.next) (fr':=[.v (.a 0),.v (.a 1),.v (.bool sh),.list (some 0) [.tup [.int 58,.a 3]],.v (.i 0),.v (.k (j 5)),.v (.k (j 6)),.v (.k (j 7)),.v (.k (j 8))]) (by kernel_rfl)
  replace e:exs (sem (PN k) 0 1 1000 40) ((f_law_put.body.drop 2).take 1) (ptF B ord sh (R++[]) (some g) j)=some (.next,ptF B ord sh (R++[aJ (.j 58 (bw g))]) (some g) j):=e
  rw[List.append_nil] at e;exact e
noncomputable def cM(B:List Bk)(sh:Bool)(ord:List Nat):List RowI:=.o 5::bC (fun a=>B.getD a ([],[])) sh (some 0) ord
theorem put_okL(hB:B.length≤10)(hP:∀ b∈B,PutOK b)(ho:∀ a∈ord,a<B.length)(hol:ord.length≤10)(Y:RowsOK (cM B sh ord)):
  PN (k+6) 41 [.v (.list (B.map aT)),.v (.list (ae ord)),.v (.bool sh)]=some (unitO (placed (cM B sh ord)) (ah (placed (cM B sh ord)).length),.v .undef):=by
 obtain ⟨X,ha⟩:=assemble_ok (k:=k) Y
 let Z:=bC (fun a=>B.getD a ([],[])) sh (some 0) ord
 obtain ⟨j,g',h1,h2,h3⟩:=pt_for (k:=k+5) (B:=B) (ord:=ord) (sh:=sh) (by omega) hP ord [aJ (.o 5)] (some 0) (fun _=>.undef) (fun a h=>⟨ho a h,Nat.lt_of_lt_of_le (ho a h) hB⟩) (fun g h=>by cases h;decide) (by rw[List.length_singleton];omega)
 have hl:=Y.len
 have hZl:Z.length+1≤1000:=hl
 obtain ⟨R',h4,h5⟩:=pt_end (k:=k+5) (B:=B) (ord:=ord) (sh:=sh) (j:=j) (R:=[aJ (.o 5)]++(Z.take (Z.length - (jg g').length)).map aJ) h2 (by rw[List.length_append,List.length_map,List.length_take,List.length_singleton];omega)
 have hfin:([aJ (.o 5)]++(Z.take (Z.length - (jg g').length)).map aJ)++(jg g').map aJ=(cM B sh ord).map aJ:=by
  rw[List.append_assoc,← List.map_append]
  show aJ (.o 5)::(Z.take (Z.length - (jg g').length)++jg g').map aJ=aJ (.o 5)::Z.map aJ
  rw[← show Z=Z.take (Z.length - (jg g').length)++jg g' from h3]
 rw[h5,hfin] at h4
 have e0:(sem (PN (k+5)) 0 1 1000 40).ex (.asgT [3,4] [.list [.tup [.const (.int 5),.const .none]],.const (.int 0)]) [.v (.list (B.map aT)),.v (.list (ae ord)),.v (.bool sh),.v .undef,.v .undef,.v .undef,.v .undef,.v .undef,.v .undef]=some (.next,ptF B ord sh [aJ (.o 5)] (some 0) (fun _=>.undef)):=rfl
 have h6:=cu (n:=39) (ed (n:=38) (i:=1) (fr:=ptF B ord sh [aJ (.o 5)] (some 0) (fun _=>.undef)) (l:=ae ord) rfl) h1
 rw[ao (fn:=f_law_put) rfl (by decide)]
 exact aq (fn:=f_law_put) (la:=1) (args:=[.v (.list (B.map aT)),.v (.list (ae ord)),.v (.bool sh)]) rfl (ak e0 (ak h6 (b7 (a:=(f_law_put.body.drop 2).take 1) h4 (aW (g4 (n:=39) (bR (n:=38) (f:=15) (es:=[.const ey,.var 3]) (vs:=[ey,.list ((cM B sh ord).map aJ)]) (fr1:=(ptF B ord sh ((cM B sh ord).map aJ) g' j).set 3 (.v (.list ((cM B sh ord).map aJ)))) rfl ha))))))
end
theorem bw_inj{a b:Nat}(h:bw a=bw b):a=b:=by injection h with _ h;injection h with h _;lia
theorem xw_inj{a b:Nat}(h:xw a=xw b):a=b:=by injection h with _ h;injection h with h _;lia
theorem bx_ne{a b:Nat}:bw a≠xw b:=fun h=>by injection h with h _;cases h
noncomputable def fE(R:List RowI):List (List Nat):=R.filterMap fun r=>match r with
 | .l w=>some w
 | _=>none
theorem cr{A B:List RowI}:fE (A++B)=fE A++fE B:=List.filterMap_append
theorem labs_mem{w:List Nat}{A:List RowI}:w∈fE A↔RowI.l w∈A:=by
 unfold fE
 rw[List.mem_filterMap]
 constructor
 ·rintro ⟨r,hr,e⟩
  cases r <;> cases e
  exact hr
 ·intro h;exact⟨_,h,rfl⟩
theorem labs_jg{g:Option Nat}:fE (jg g)=[]:=by cases g <;> rfl
theorem ec{sh:Bool}{g:Option Nat}{a:Nat}:fE (aI sh g a)=[]:=by
 unfold aI
 split
 ·rfl
 ·exact labs_jg
theorem labs_blk{b:Bk}:fE (bb b)=[]:=by
 unfold bb
 generalize b.1=l
 induction l with
 | nil=>rfl
 | cons o l ih=>
  rw[List.map_cons,← List.singleton_append,cr,ih]
  unfold fZ
  split <;> rfl
theorem nc_blk{b:Bk}:nc (bb b)=b.1.length:=by
 unfold bb
 generalize b.1=l
 induction l with
 | nil=>rfl
 | cons o l ih=>
  rw[List.map_cons,nc_cons,ih,List.length_cons,Nat.add_comm]
  congr 1
  unfold fZ
  split <;> rfl
section
variable {B:Nat→Bk} {sh:Bool}
theorem labs_put:∀ {ord:List Nat} {goal:Option Nat},fE (bC B sh goal ord)=ord.flatMap fun a=>[bw a,xw a]:=by
 intro ord
 induction ord with
 | nil=>intro goal;exact labs_jg
 | cons a r ih=>
  intro goal
  rw[bC,cr,ec,cr,cr,labs_blk,ih];rfl
theorem put_labs{ord:List Nat}{goal:Option Nat}{w:List Nat}:RowI.l w∈bC B sh goal ord↔∃ a∈ord,w=bw a∨w=xw a:=by
 rw[← labs_mem,labs_put,List.mem_flatMap]
 simp
theorem labs_nodup{ord:List Nat}(h:ord.Nodup):(ord.flatMap fun a=>[bw a,xw a]).Nodup:=by
 induction ord with
 | nil=>exact .nil
 | cons a r ih=>
  rw[List.nodup_cons] at h
  rw[List.flatMap_cons,List.nodup_append]
  refine⟨by simp [bx_ne],ih h.2,fun x hx y hy e=>?_⟩
  subst e
  obtain ⟨k,hk,hk2⟩:=List.mem_flatMap.mp hy
  have hne:a≠k:=fun e=>h.1 (e▸hk)
  simp only[List.mem_cons,List.not_mem_nil,or_false] at hx hk2
  rcases hx with rfl | rfl <;> rcases hk2 with h2 | h2
  ·exact hne (bw_inj h2)
  ·exact bx_ne h2
  ·exact bx_ne h2.symm
  ·exact hne (xw_inj h2)
structure Split (B:Nat→Bk) (sh:Bool) (R:List RowI) (a:Nat) (A:List RowI) (A' T':List Nat):Prop where
 eq:R=A++([.l (bw a),.l (xw a)]++(bb (B a)++bC B sh (B a).2.getLast? T'))
 lab:∀ w,RowI.l w∈A→∃ k∈A',w=bw k∨w=xw k
 be:∀ k∈A',∃ q,bz (bw k) A=some q∧q+(B k).1.length≤nc A
theorem cE{w:List Nat}{A C:List RowI}{q:Nat}(h:bz w A=none)(h2:bz w C=some q):bz w (A++C)=some (nc A+q):=by
 rw[dD,h,h2,Nat.add_comm];rfl
theorem posW_here{a:Nat}{X:List RowI}:bz (bw a) ([.l (bw a),.l (xw a)]++X)=some 0∧bz (xw a) ([.l (bw a),.l (xw a)]++X)=some 0:=by
 constructor
 ·show (if (bw a==bw a)=true then some 0 else _)=_
  rw[if_pos (beq_self_eq_true _)]
 ·show (if (bw a==xw a)=true then some 0 else (if (xw a==xw a)=true then some 0 else _).map (·+0))=_
  rw[if_neg (by rw[beq_false_of_ne bx_ne];exact fun h=>nomatch h),if_pos (beq_self_eq_true _)];rfl
theorem put_split:∀ {ord:List Nat} {goal:Option Nat} {a:Nat},a∈ord→ord.Nodup→∃ A A' T',ord=A'++a::T'∧Split B sh (bC B sh goal ord) a A A' T':=by
 intro ord
 induction ord with
 | nil=>intro goal a h;cases h
 | cons x r ih=>
  intro goal a h nd
  rw[List.nodup_cons] at nd
  rcases List.mem_cons.mp h with rfl | h
  ·refine⟨aI sh goal a,[],r,rfl,rfl,fun w hw=>?_,fun k hk=>(nomatch hk)⟩
   rw[← labs_mem,ec] at hw;cases hw
  ·obtain ⟨A,A',T',h1,S⟩:=ih (goal:=(B x).2.getLast?) h nd.2
   let A0:=aI sh goal x++([RowI.l (bw x),RowI.l (xw x)]++bb (B x))
   have hl0:fE A0=[bw x,xw x]:=by
    show fE (aI sh goal x++_)=_
    rw[cr,ec,cr,labs_blk];rfl
   have hn0:nc A0=nc (aI sh goal x)+(B x).1.length:=by
    show nc (aI sh goal x++_)=_
    rw[bY,bY,nc_blk]
    show _+(0+_)=_
    rw[Nat.zero_add]
   refine⟨A0++A,x::A',T',by rw[h1];rfl,?_,fun w hw=>?_,fun k hk=>?_⟩
   ·rw[bC,S.eq]
    show _=((aI sh goal x++([RowI.l (bw x),RowI.l (xw x)]++bb (B x)))++A)++_
    simp only[List.append_assoc]
   ·rcases List.mem_append.mp hw with hw | hw
    ·rw[← labs_mem,hl0] at hw
     exact⟨x,List.mem_cons_self ..,by simpa using hw⟩
    ·obtain ⟨k,hk,e⟩:=S.lab w hw
     exact⟨k,List.mem_cons_of_mem _ hk,e⟩
   ·by_cases hkx:k=x
    ·subst hkx
     refine⟨nc (aI sh goal k),?_,by rw[bY,hn0];lia⟩
     have e1:bz (bw k) A0=some (nc (aI sh goal k)+0):=cE (ci fun h=>by rw[← labs_mem,ec] at h;cases h) posW_here.1
     rw[dD,e1];rfl
    ·have hk':=(List.mem_cons.mp hk).resolve_left hkx
     obtain ⟨q,h2,h3⟩:=S.be k hk'
     refine⟨nc A0+q,cE (ci fun h=>?_) h2,by have:=bY (A:=A0) (B:=A);lia⟩
     rw[← labs_mem,hl0] at h
     simp only[List.mem_cons,List.not_mem_nil,or_false] at h
     rcases h with h | h
     ·exact hkx (bw_inj h)
     ·exact bx_ne h
end
noncomputable def g1(o:Nat):Int:=(pt o:Int) - tk o
noncomputable def htB(ops:List Nat)(i:Nat):Int:=1+((ops.take i).map g1).sum
theorem htB_succ{ops:List Nat}{i o:Nat}(h:ops[i]?=some o):htB ops (i+1)=htB ops i+g1 o:=by
 unfold htB
 rw[List.take_add_one,h,List.map_append,List.sum_append]
 show 1+(_+(g1 o+0))=_
 lia
structure BlkF (b:Bk):Prop where
 two:2≤b.1.length
 six:b.1.length≤6
 all:∀ i o,b.1[i]?=some o→o≠58∧(tk o:Int)≤htB b.1 i∧htB b.1 i≤100∧db eD (o:Int)=some (.int (g1 o))
 mid:∀ i o,b.1[i]?=some o→i+1<b.1.length→o∈bS∧o≠65
 last:∀ i o,b.1[i]?=some o→i+1=b.1.length→(b.2=[]∧o=65)∨(∃ g,b.2=[g]∧o∈bS∧o≠65∧htB b.1 b.1.length=1)∨(∃ g g',b.2=[g,g']∧(o=59∨o=60)∧htB b.1 b.1.length=1)
structure BOK (B:List Bk):Prop where
 pos:0<B.length
 le:B.length≤4
 f:∀ b∈B,BlkF b
 g:∀ b∈B,∀ x∈b.2,x<B.length
structure OOK (B:List Bk) (ord:List Nat):Prop where
 nd:ord.Nodup
 m:∀ a,a∈ord↔a<B.length
noncomputable def Bf(B:List Bk)(a:Nat):Bk:=B.getD a ([],[])
theorem br{B:List Bk}{a:Nat}(h:a<B.length):Bf B a∈B∧B[a]?=some (Bf B a):=by
 have:B[a]?=some (Bf B a):=by unfold Bf;rw[List.getD_eq_getElem?_getD,List.getElem?_eq_getElem h];rfl
 exact⟨List.mem_of_getElem? this,this⟩
section
variable {B:List Bk} {sh:Bool} {ord:List Nat}
noncomputable def fR(B:List Bk)(sh:Bool)(ord:List Nat)(w:List Nat):Nat:=(bz w (cM B sh ord)).getD 0
noncomputable def pB(B:List Bk)(sh:Bool)(ord:List Nat)(a:Nat):Nat:=fR B sh ord (bw a)
theorem posW_some{w:List Nat}{X:List RowI}(h:RowI.l w∈X):∃ q,bz w X=some q:=by
 induction X with
 | nil=>cases h
 | cons r X ih=>
  rw[bz]
  by_cases hr:isLb w r=true
  ·exact⟨0,if_pos hr⟩
  ·rw[if_neg hr]
   rcases List.mem_cons.mp h with rfl | h
   ·exact absurd (beq_self_eq_true w) hr
   ·obtain ⟨q,hq⟩:=ih h
    exact⟨_,by rw[hq];rfl⟩
structure At (B:List Bk) (sh:Bool) (ord:List Nat) (a:Nat) (A:List RowI) (T:List Nat):Prop where
 eq:cM B sh ord=A++([.l (bw a),.l (xw a)]++(bb (Bf B a)++bC (Bf B) sh (Bf B a).2.getLast? T))
 p:pB B sh ord a=nc A
 px:fR B sh ord (xw a)=nc A
 one:1≤nc A
 T:∀ t∈T,t∈ord∧RowI.l (bw t)∉A++([.l (bw a),.l (xw a)]++bb (Bf B a))
 dis:∀ k∈ord,k≠a→pB B sh ord k+(Bf B k).1.length≤nc A∨nc A+(Bf B a).1.length≤pB B sh ord k
theorem gu:cM B sh ord=[.o 5]++bC (Bf B) sh (some 0) ord:=rfl
theorem at_okL(O:OOK B ord){a:Nat}(ha:a∈ord):∃ A T,At B sh ord a A T:=by
 obtain ⟨A,A',T,h1,S⟩:=put_split (B:=Bf B) (sh:=sh) (goal:=some 0) ha O.nd
 have hR:cM B sh ord=([.o 5]++A)++([.l (bw a),.l (xw a)]++(bb (Bf B a)++bC (Bf B) sh (Bf B a).2.getLast? T)):=by rw[gu,S.eq,List.append_assoc]
 have nd:=O.nd
 rw[h1,List.nodup_append,List.nodup_cons] at nd
 have n1:nc ([RowI.o 5]++A)=1+nc A:=bY
 have hno:∀ k,k∉A'→RowI.l (bw k)∉[RowI.o 5]++A∧RowI.l (xw k)∉[RowI.o 5]++A:=fun k hk=>⟨fun h=>by
   obtain ⟨k',hk',e⟩:=S.lab (bw k) (by simpa using h)
   rcases e with e | e
   ·exact hk (bw_inj e▸hk')
   ·exact bx_ne e,fun h=>by
   obtain ⟨k',hk',e⟩:=S.lab (xw k) (by simpa using h)
   rcases e with e | e
   ·exact bx_ne e.symm
   ·exact hk (xw_inj e▸hk')⟩
 have haA:a∉A':=fun h=>nd.2.2 a h a (List.mem_cons_self ..) rfl
 have hT:∀ t∈T,t∈ord∧RowI.l (bw t)∉([RowI.o 5]++A)++([.l (bw a),.l (xw a)]++bb (Bf B a)):=fun t ht=>by
  refine⟨by rw[h1];simp [ht],fun h=>?_⟩
  rcases List.mem_append.mp h with h | h
  ·exact(hno t fun h2=>nd.2.2 t h2 t (List.mem_cons_of_mem _ ht) rfl).1 h
  ·rw[← labs_mem,cr,labs_blk] at h
   have h:bw t∈[bw a,xw a]:=h
   simp only[List.mem_cons,List.not_mem_nil,or_false] at h
   rcases h with h | h
   ·exact nd.2.1.1 (bw_inj h▸ht)
   ·exact bx_ne h
 have p1:pB B sh ord a=nc ([RowI.o 5]++A):=by
  unfold pB fR
  rw[hR,cE (ci (hno a haA).1) posW_here.1];rfl
 have p2:fR B sh ord (xw a)=nc ([RowI.o 5]++A):=by
  unfold fR
  rw[hR,cE (ci (hno a haA).2) posW_here.2];rfl
 refine⟨[.o 5]++A,T,hR,p1,p2,by lia,hT,fun k hk hka=>?_⟩
 rw[h1] at hk
 rcases List.mem_append.mp hk with hk | hk
 ·obtain ⟨q,h2,h3⟩:=S.be k hk
  have:pB B sh ord k=1+q:=by
   unfold pB fR
   have e:bz (bw k) ([RowI.o 5]++A)=some (1+q):=cE (A:=[RowI.o 5]) rfl h2
   rw[hR,dD,e];rfl
  exact .inl (by lia)
 ·have hk:=(List.mem_cons.mp hk).resolve_left hka
  obtain ⟨q,hq⟩:=posW_some (w:=bw k) (X:=bC (Bf B) sh (Bf B a).2.getLast? T) (put_labs.mpr ⟨k,hk,.inl rfl⟩)
  have e:cM B sh ord=(([.o 5]++A)++([.l (bw a),.l (xw a)]++bb (Bf B a)))++bC (Bf B) sh (Bf B a).2.getLast? T:=by rw[hR];simp only[List.append_assoc]
  have n2:nc (([RowI.o 5]++A)++([RowI.l (bw a),RowI.l (xw a)]++bb (Bf B a)))=nc ([RowI.o 5]++A)+(Bf B a).1.length:=by
   rw[bY,bY (A:=[RowI.l (bw a),RowI.l (xw a)]),nc_blk]
   show _+(0+_)=_
   rw[Nat.zero_add]
  have:pB B sh ord k=nc ([RowI.o 5]++A)+(Bf B a).1.length+q:=by
   unfold pB fR
   rw[e,cE (ci (hT k hk).2) hq,n2];rfl
  exact .inr (by lia)
noncomputable abbrev cd(B:List Bk)(sh:Bool)(ord:List Nat):Cd:=placed (cM B sh ord)
noncomputable def opC(B:List Bk)(sh:Bool)(ord:List Nat)(g0 o:Nat):Nat×Option Nat:=if o=59∨o=60 then (o,some (pB B sh ord g0)) else (o,none)
theorem opC_fst{g0 o:Nat}:(opC B sh ord g0 o).1=o:=by unfold opC;split <;> rfl
theorem fR_x(O:OOK B ord){a:Nat}(ha:a∈ord):fR B sh ord (xw a)=pB B sh ord a:=by
 obtain ⟨A,T,h⟩:=at_okL (sh:=sh) O ha
 rw[h.p,h.px]
theorem code_at{X Y:List RowI}{r:RowI}(h:cM B sh ord=X++r::Y)(p:Nat×Option Nat)(hr:fY (fR B sh ord) r=[p]):(cd B sh ord)[nc X]?=some p:=by
 show (bg (fR B sh ord) (cM B sh ord))[nc X]?=some p
 have e:bg (fR B sh ord) (cM B sh ord)=bg (fR B sh ord) X++(p::bg (fR B sh ord) Y):=by
  rw[h,dz]
  show _++(fY _ r++_)=_
  rw[hr];rfl
 rw[e,List.getElem?_append_right (by rw[ch];exact Nat.le_refl _),ch,Nat.sub_self];rfl
theorem blk_at(O:OOK B ord)(Y:BOK B){a i o:Nat}(ha:a∈ord)(hi:(Bf B a).1[i]?=some o):(cd B sh ord)[pB B sh ord a+i]?=some (opC B sh ord ((Bf B a).2.headD 0) o):=by
 obtain ⟨A,T,h⟩:=at_okL (sh:=sh) O ha
 have hlt:=ai hi
 have ham:=(br ((O.m a).mp ha)).1
 have e:(bb (Bf B a))=(bb (Bf B a)).take i++fZ ((Bf B a).2.headD 0) o::(bb (Bf B a)).drop (i+1):=by
  have:(bb (Bf B a))[i]?=some (fZ ((Bf B a).2.headD 0) o):=by unfold bb;rw[List.getElem?_map,hi];rfl
  have hl:=ai this
  rw[List.getElem?_eq_getElem hl] at this
  rw[← Option.some.inj this,← List.drop_eq_getElem_cons hl,List.take_append_drop]
 have n1:nc ((bb (Bf B a)).take i)=i:=by
  have e2:(bb (Bf B a)).take i=bb ((Bf B a).1.take i,(Bf B a).2):=by unfold bb;rw[List.map_take]
  rw[e2,nc_blk,List.length_take];lia
 have hc:fY (fR B sh ord) (fZ ((Bf B a).2.headD 0) o)=[opC B sh ord ((Bf B a).2.headD 0) o]:=by
  unfold fZ opC
  split
  ·rename_i ho
   have hg:(Bf B a).2.headD 0∈ord:=by
    rw[O.m]
    rcases (Y.f _ ham).last i o hi (by
     rcases Nat.lt_or_ge (i+1) (Bf B a).1.length with h2 | h2
     ·have:=((Y.f _ ham).mid i o hi h2).1
      rcases ho with rfl | rfl <;> exact absurd this (by decide)
     ·lia) with ⟨_,h3⟩ | ⟨_,_,h3,_⟩ | ⟨g,g',h3,_⟩
    ·lia
    ·rcases ho with rfl | rfl <;> exact absurd h3 (by decide)
    ·rw[h3];exact Y.g _ ham g (by rw[h3];exact List.mem_cons_self ..)
   show [(o,some (fR B sh ord (xw _)))]=_
   rw[fR_x O hg]
  ·rfl
 have hR:cM B sh ord=(A++([RowI.l (bw a),RowI.l (xw a)]++(bb (Bf B a)).take i))++fZ ((Bf B a).2.headD 0) o::((bb (Bf B a)).drop (i+1)++bC (Bf B) sh (Bf B a).2.getLast? T):=by
  rw[h.eq]
  conv=>lhs;rw[e]
  simp only[List.append_assoc,List.cons_append]
 have hn:nc (A++([RowI.l (bw a),RowI.l (xw a)]++(bb (Bf B a)).take i))=pB B sh ord a+i:=by
  rw[bY,bY,n1,h.p]
  show _+(0+i)=_
  rw[Nat.zero_add]
 rw[← hn]
 exact code_at hR _ hc
theorem first_at(O:OOK B ord)(Y:BOK B){a:Nat}(ha:a∈ord):∃ o ar,(cd B sh ord)[pB B sh ord a]?=some (o,ar)∧o≠58:=by
 have F:=Y.f _ (br ((O.m a).mp ha)).1
 have h2:=F.two
 have hi:(Bf B a).1[0]?=some (Bf B a).1[0]:=List.getElem?_eq_getElem (by omega)
 have h:=blk_at (sh:=sh) O Y ha hi
 rw[Nat.add_zero] at h
 exact⟨_,_,h,fun e=>(F.all 0 _ hi).1 ((opC_fst (B:=B) (sh:=sh) (ord:=ord)).symm.trans e)⟩
theorem past_put(O:OOK B ord)(Y:BOK B){X:List RowI}{T:List Nat}{g:Nat}(hR:cM B sh ord=X++bC (Bf B) sh (some g) T)(hT:∀ t∈T,t∈ord∧RowI.l (bw t)∉X)(hg:g∈ord):fj (cd B sh ord) (nc X) (pB B sh ord g):=by
 obtain ⟨o,ar,h1,h2⟩:=first_at (sh:=sh) O Y hg
 have jump:∀ Z,bC (Bf B) sh (some g) T=.j 58 (bw g)::Z→fj (cd B sh ord) (nc X) (pB B sh ord g):=fun Z hz=>by
  rw[hz] at hR
  exact .inr ⟨o,ar,code_at hR (58,some (pB B sh ord g)) rfl,h1,h2⟩
 cases T with
 | nil=>exact jump [] rfl
 | cons t r=>
  by_cases hs:sh=true∧some g=some t
  ·have e:g=t:=Option.some.inj hs.2
   subst e
   have hR2:cM B sh ord=X++([.l (bw g),.l (xw g)]++(bb (Bf B g)++bC (Bf B) sh (Bf B g).2.getLast? r)):=by
    rw[hR,bC,aI,if_pos hs];rfl
   have:pB B sh ord g=nc X:=by
    unfold pB fR
    rw[hR2,cE (ci (hT g (List.mem_cons_self ..)).2) posW_here.1];rfl
   exact .inl ⟨this,o,ar,by rw[← this];exact h1,h2⟩
  ·refine jump ([.l (bw t),.l (xw t)]++(bb (Bf B t)++bC (Bf B) sh (Bf B t).2.getLast? r)) ?_
   rw[bC,aI,if_neg hs];rfl
end
theorem sub_mid{a b i:Nat}:a+b+i - a=b+i:=by rw[Nat.add_assoc,Nat.add_sub_cancel_left]
theorem chain_at{l:List Nat}:∀ {i0 i o:Nat},l[i]?=some o→(dj i0 l)[i]?=some (o,[i0+i+1]):=by
 induction l with
 | nil=>intro i0 i o h;cases h
 | cons x l ih=>
  intro i0 i o h
  cases i with
  | zero=>cases h;rfl
  | succ i=>
   have:=ih (i0:=i0+1) (i:=i) (o:=o) h
   show (dj (i0+1) l)[i]?=_
   rw[this,show i0+1+i+1=i0+(i+1)+1 by lia]
theorem gm{s:Nat→Nat}{i:Nat}{b:Bk}(h:0<b.1.length):(blkW s i b).length=b.1.length:=by
 unfold blkW
 rw[List.length_append,dN,List.length_dropLast]
 show b.1.length - 1+1=_
 lia
theorem blkW_at{s:Nat→Nat}{i0 i o:Nat}{b:Bk}(h:b.1[i]?=some o):(blkW s i0 b)[i]?=some (o,if i+1<b.1.length then [i0+i+1] else b.2.map s):=by
 have hl:=ai h
 unfold blkW
 by_cases hi:i+1<b.1.length
 ·rw[if_pos hi,List.getElem?_append_left (by rw[dN,List.length_dropLast];lia)]
  exact chain_at (by rw[List.getElem?_dropLast,if_pos (by lia)];exact h)
 ·have e:i=b.1.length - 1:=by lia
  rw[if_neg hi,List.getElem?_append_right (by rw[dN,List.length_dropLast];lia),dN,List.length_dropLast,e,Nat.sub_self]
  show some (b.1.getLast?.getD 0,_)=_
  rw[List.getLast?_eq_getElem?,← e,h];rfl
theorem waysL_at{s:Nat→Nat}{l:List Bk}(hp:∀ b∈l,0<b.1.length):∀ {i0 a i o:Nat} {b:Bk},l[a]?=some b→b.1[i]?=some o→(cQ s i0 l)[(bT (l.take a)).sum+i]?=some (o,if i+1<b.1.length then [i0+(bT (l.take a)).sum+i+1] else b.2.map s):=by
 induction l with
 | nil=>intro i0 a i o b h;cases h
 | cons x l ih=>
  intro i0 a i o b h ho
  have hx:=hp x (List.mem_cons_self ..)
  have hl:=ai ho
  cases a with
  | zero=>
   cases h
   show (blkW s i0 x++_)[0+i]?=_
   rw[Nat.zero_add,List.getElem?_append_left (by rw[gm hx];exact hl)]
   exact blkW_at ho
  | succ a=>
   have:=ih (fun b hb=>hp b (List.mem_cons_of_mem _ hb)) (i0:=i0+x.1.length) (a:=a) h ho
   show (blkW s i0 x++cQ s (i0+x.1.length) l)[x.1.length+(bT (l.take a)).sum+i]?=some (o,if i+1<b.1.length then [i0+(x.1.length+(bT (l.take a)).sum)+i+1] else b.2.map s)
   rw[List.getElem?_append_right (by rw[gm hx];lia),gm hx,show x.1.length+(bT (l.take a)).sum+i - x.1.length=(bT (l.take a)).sum+i from sub_mid,this,Nat.add_assoc i0]
theorem waysL_len{s:Nat→Nat}{l:List Bk}(hp:∀ b∈l,0<b.1.length):∀ {i0:Nat},(cQ s i0 l).length=(bT l).sum:=by
 induction l with
 | nil=>intro i0;rfl
 | cons x l ih=>
  intro i0
  show (blkW s i0 x++cQ s (i0+x.1.length) l).length=x.1.length+(bT l).sum
  rw[List.length_append,gm (hp x (List.mem_cons_self ..)),ih fun b hb=>hp b (List.mem_cons_of_mem _ hb)]
theorem sum_loc{l:List Bk}:∀ {t:Nat},t<(bT l).sum→∃ a b i,l[a]?=some b∧i<b.1.length∧t=(bT (l.take a)).sum+i:=by
 induction l with
 | nil=>intro t h;cases h
 | cons x l ih=>
  intro t h
  have h:t<x.1.length+(bT l).sum:=h
  by_cases hx:t<x.1.length
  ·exact⟨0,x,t,rfl,hx,(Nat.zero_add t).symm⟩
  ·obtain ⟨a,b,i,h1,h2,h3⟩:=ih (t:=t - x.1.length) (by omega)
   refine⟨a+1,b,i,h1,h2,?_⟩
   show t=x.1.length+(bT (l.take a)).sum+i
   omega
noncomputable def loc:List Bk→Nat→Nat×Nat
 | [],t=>(0,t)
 | b::l,t=>if t<b.1.length then (0,t) else ((loc l (t - b.1.length)).1+1,(loc l (t - b.1.length)).2)
theorem loc_at{l:List Bk}:∀ {a i:Nat} {b:Bk},l[a]?=some b→i<b.1.length→loc l ((bT (l.take a)).sum+i)=(a,i):=by
 induction l with
 | nil=>intro a i b h;cases h
 | cons x l ih=>
  intro a i b h hi
  cases a with
  | zero=>
   cases h
   show loc (x::l) (0+i)=_
   rw[Nat.zero_add,loc,if_pos hi]
  | succ a=>
   have:=ih (a:=a) h hi
   show loc (x::l) (x.1.length+(bT (l.take a)).sum+i)=_
   rw[loc,if_neg (by lia),show x.1.length+(bT (l.take a)).sum+i - x.1.length=(bT (l.take a)).sum+i from sub_mid,this]
section
variable {B:List Bk} {sh:Bool} {ord:List Nat}
noncomputable def plO(B:List Bk)(sh:Bool)(ord:List Nat):Nat→Nat
 | 0=>0
 | t+1=>pB B sh ord (loc B t).1+(loc B t).2
noncomputable def htO(B:List Bk):Nat→Int
 | 0=>0
 | t+1=>htB (Bf B (loc B t).1).1 (loc B t).2
inductive Idx (B:List Bk):Nat→Prop
 | zero:Idx B 0
 | at' {a i o:Nat}:a<B.length→(Bf B a).1[i]?=some o→Idx B (st B a+i)
theorem st_eq{a i:Nat}:st B a+i=(bT (B.take a)).sum+i+1:=by unfold st;lia
theorem loc_st{a i o:Nat}(ha:a<B.length)(h:(Bf B a).1[i]?=some o):loc B ((bT (B.take a)).sum+i)=(a,i):=loc_at (br ha).2 (ai h)
theorem dE{a i o:Nat}(ha:a<B.length)(h:(Bf B a).1[i]?=some o):plO B sh ord (st B a+i)=pB B sh ord a+i:=by
 rw[st_eq,plO,loc_st ha h]
theorem ht_at{a i o:Nat}(ha:a<B.length)(h:(Bf B a).1[i]?=some o):htO B (st B a+i)=htB (Bf B a).1 i:=by
 rw[st_eq,htO,loc_st ha h]
theorem way_at(Y:BOK B){a i o:Nat}(ha:a<B.length)(h:(Bf B a).1[i]?=some o):(aX B)[st B a+i]?=some (o,if i+1<(Bf B a).1.length then [st B a+(i+1)] else (Bf B a).2.map (st B)):=by
 have hp:∀ b∈B,0<b.1.length:=fun b hb=>Nat.lt_of_lt_of_le (by decide) (Y.f b hb).two
 have:=waysL_at (s:=st B) hp (i0:=1) (br ha).2 h
 rw[st_eq]
 show (cQ (st B) 1 B)[(bT (B.take a)).sum+i]?=_
 rw[this]
 unfold st
 rw[Nat.add_assoc (1+(bT (B.take a)).sum)]
theorem way_len(Y:BOK B):(aX B).length=1+(bT B).sum:=by
 show (cQ (st B) 1 B).length+1=_
 rw[waysL_len fun b hb=>Nat.lt_of_lt_of_le (by decide) (Y.f b hb).two,Nat.add_comm]
theorem idx_of(Y:BOK B){r:Nat}(h:r<(aX B).length):Idx B r:=by
 cases r with
 | zero=>exact .zero
 | succ t=>
  rw[way_len Y] at h
  obtain ⟨a,b,i,h1,h2,h3⟩:=sum_loc (l:=B) (t:=t) (by lia)
  have ha:=ai h1
  have hb:=(br ha).2
  rw[h1] at hb
  have hb:=Option.some.inj hb
  rw[hb] at h2
  have:t+1=st B a+i:=by rw[st_eq,h3]
  rw[this]
  exact .at' ha (List.getElem?_eq_getElem h2)
theorem ways_wok(Y:BOK B):WOK (aX B):=by
 intro r o gs h
 cases idx_of Y (ai h) with
 | zero=>cases h;exact .inr (.inl ⟨_,rfl,by decide,by decide⟩)
 | @at' a i o' ha hi=>
  rw[way_at Y ha hi] at h
  have F:=Y.f _ (br ha).1
  cases h
  have hl:=ai hi
  by_cases h2:i+1<(Bf B a).1.length
  ·rw[if_pos h2]
   obtain ⟨f1,f2⟩:=F.mid i _ hi h2
   exact .inr (.inl ⟨_,rfl,f1,f2⟩)
  ·rw[if_neg h2]
   rcases F.last i _ hi (by lia) with ⟨h3,h4⟩ | ⟨g,h3,h4,h5,_⟩ | ⟨g,g',h3,h4,_⟩
   ·exact .inl ⟨by rw[h3];rfl,h4⟩
   ·exact .inr (.inl ⟨st B g,by rw[h3];rfl,h4,h5⟩)
   ·exact .inr (.inr ⟨st B g,st B g',by rw[h3];rfl,h4⟩)
theorem st_first(Y:BOK B){g:Nat}(hg:g<B.length):∃ o,(Bf B g).1[0]?=some o:=by
 have:=(Y.f _ (br hg).1).two
 exact⟨_,List.getElem?_eq_getElem (by lia)⟩
theorem pl_st(Y:BOK B){g:Nat}(hg:g<B.length):plO B sh ord (st B g)=pB B sh ord g:=by
 obtain ⟨o,ho⟩:=st_first Y hg
 exact dE (i:=0) hg ho
theorem ht_st(Y:BOK B){g:Nat}(hg:g<B.length):htO B (st B g)=1:=by
 obtain ⟨o,ho⟩:=st_first Y hg
 exact(ht_at (i:=0) hg ho).trans rfl
theorem dC(Y:BOK B){r:Nat}(h:Reach (aX B) r):Idx B r:=by
 cases h with
 | zero=>exact .zero
 | @step r g o gs hr hw hg=>
  have hst:∀ {x},x<B.length→Idx B (st B x):=fun hx=>by
   obtain ⟨o,ho⟩:=st_first Y hx
   exact .at' (i:=0) hx ho
  cases idx_of Y (ai hw) with
  | zero=>cases hw;rw[List.mem_singleton.mp hg];exact hst Y.pos
  | @at' a i o' ha hi=>
   rw[way_at Y ha hi] at hw
   cases hw
   by_cases h2:i+1<(Bf B a).1.length
   ·rw[if_pos h2,List.mem_singleton] at hg
    rw[hg];exact .at' ha (List.getElem?_eq_getElem h2)
   ·rw[if_neg h2] at hg
    obtain ⟨x,hx,rfl⟩:=List.mem_map.mp hg
    exact hst (Y.g _ (br ha).1 x hx)
theorem heights(Y:BOK B){r:Nat}(h:Reach (aX B) r)(o:Nat)(gs:List Nat)(hw:(aX B)[r]?=some (o,gs)):(tk o:Int)≤htO B r∧htO B r≤100:=by
 cases dC Y h with
 | zero=>cases hw;exact(by decide:(0:Int)≤0∧(0:Int)≤100)
 | @at' a i o' ha hi=>
  rw[way_at Y ha hi] at hw
  cases hw
  rw[ht_at ha hi]
  have:=(Y.f _ (br ha).1).all i _ hi
  exact⟨this.2.1,this.2.2.1⟩
end
section
variable {B:List Bk} {sh:Bool} {ord:List Nat}
theorem nc_jg{g:Option Nat}:nc (jg g)≤1:=by cases g <;> first | exact Nat.zero_le _ | exact Nat.le_refl _
theorem nc_ahead{g:Option Nat}{a:Nat}:nc (aI sh g a)≤1:=by
 unfold aI
 split
 ·exact Nat.zero_le _
 ·exact nc_jg
theorem len_jg{g:Option Nat}:(jg g).length≤1:=by cases g <;> first | exact Nat.zero_le _ | exact Nat.le_refl _
theorem len_ahead{g:Option Nat}{a:Nat}:(aI sh g a).length≤1:=by
 unfold aI
 split
 ·exact Nat.zero_le _
 ·exact len_jg
theorem len_put(Y:BOK B):∀ {r:List Nat} {goal:Option Nat},(∀ a∈r,a<B.length)→(bC (Bf B) sh goal r).length≤9*r.length+1∧nc (bC (Bf B) sh goal r)≤7*r.length+1:=by
 intro r
 induction r with
 | nil=>intro goal _;exact⟨len_jg,nc_jg⟩
 | cons a r ih=>
  intro goal h
  obtain ⟨h1,h2⟩:=ih (goal:=(Bf B a).2.getLast?) fun x hx=>h x (List.mem_cons_of_mem _ hx)
  have h3:=(Y.f _ (br (h a (List.mem_cons_self ..))).1).six
  have h4:=len_ahead (sh:=sh) (g:=goal) (a:=a)
  have h5:=nc_ahead (sh:=sh) (g:=goal) (a:=a)
  have e1:(bb (Bf B a)).length=(Bf B a).1.length:=List.length_map ..
  rw[bC,List.length_cons]
  constructor
  ·rw[List.length_append,List.length_append,List.length_append,e1]
   show _+(2+_)≤_
   lia
  ·rw[bY,bY,bY,nc_blk]
   show _+(0+_)≤_
   lia
theorem opC_N{g o:Nat}(h:o∈bS):opC B sh ord g o=(o,none):=if_neg fun h2=>by rcases h2 with rfl | rfl <;> exact absurd h (by decide)
theorem opsN_no{o:Nat}(h:o∈bS):o≠59∧o≠60:=⟨fun e=>absurd (e▸h) (by decide),fun e=>absurd (e▸h) (by decide)⟩
theorem perm_len{l:List Nat}{m:Nat}(nd:l.Nodup)(h:∀ a,a∈l↔a<m):l.length=m:=by
 have:=((List.perm_ext_iff_of_nodup nd (List.nodup_range (n:=m))).mpr fun a=>by rw[h,List.mem_range]).length_eq
 rwa [List.length_range] at this
theorem good_ok(Y:BOK B)(O:OOK B ord):Good (cd B sh ord) (aX B) (plO B sh ord) (htO B):=by
 have hm:∀ {a},a<B.length→a∈ord:=fun h=>(O.m _).mpr h
 have hlen:=perm_len O.nd O.m
 have hB:=Y.le
 have hput:=len_put (sh:=sh) Y (r:=ord) (goal:=some 0) fun a h=>(O.m a).mp h
 have hc0:(cd B sh ord)[0]?=some (5,none):=code_at (X:=[]) (gu (B:=B) (sh:=sh) (ord:=ord)) _ rfl
 have tail:∀ {a g:Nat},a<B.length→(Bf B a).2.getLast?=some g→g<B.length→fj (cd B sh ord) (pB B sh ord a+(Bf B a).1.length) (pB B sh ord g):=fun {a g} ha hl hg=>by
  obtain ⟨A,T,h⟩:=at_okL (sh:=sh) O (hm ha)
  have e:cM B sh ord=(A++([.l (bw a),.l (xw a)]++bb (Bf B a)))++bC (Bf B) sh (some g) T:=by rw[h.eq,hl];simp only[List.append_assoc]
  have n2:nc (A++([RowI.l (bw a),RowI.l (xw a)]++bb (Bf B a)))=pB B sh ord a+(Bf B a).1.length:=by
   rw[bY,bY,nc_blk,h.p]
   show _+(0+_)=_
   rw[Nat.zero_add]
  rw[← n2]
  exact past_put O Y e h.T (hm hg)
 refine⟨⟨?_,?_,.inl ⟨rfl,_,_,hc0,by decide⟩,rfl,fun r hr=>?_⟩,fun r r' hr hr' e=>?_⟩
 ·show (bg _ (cM B sh ord)).length≤200
  rw[ch,gu,bY]
  show 1+_≤200
  lia
 ·rw[way_len Y]
  have:=lens_sum fun b hb=>Nat.le_trans (Y.f b hb).six (by decide:6≤20)
  lia
 ·cases dC Y hr with
  | zero=>
   refine⟨5,[st B 0],rfl,⟨1,rfl,fun x hx=>?_⟩,by decide,.inr (.inl ⟨_,rfl,hc0,by decide,?_⟩)⟩
   ·rw[List.mem_singleton.mp hx,ht_st Y Y.pos];rfl
   ·rw[pl_st Y Y.pos]
    exact past_put O Y (X:=[.o 5]) gu (fun t ht=>⟨ht,fun h=>by cases h with | tail _ h=>cases h⟩) (hm Y.pos)
  | @at' a i o ha hi=>
   have F:=Y.f _ (br ha).1
   obtain ⟨f1,f2,f3,f4⟩:=F.all i o hi
   have hw:=way_at Y ha hi
   have hc:=blk_at (sh:=sh) O Y (hm ha) hi
   have hl:=ai hi
   have hs:=htB_succ hi
   by_cases h2:i+1<(Bf B a).1.length
   ·rw[if_pos h2] at hw
    obtain ⟨m1,m2⟩:=F.mid i o hi h2
    have hn:(Bf B a).1[i+1]?=some (Bf B a).1[i+1]:=List.getElem?_eq_getElem h2
    have hc2:=blk_at (sh:=sh) O Y (hm ha) hn
    rw[opC_N m1] at hc
    refine⟨o,_,hw,⟨g1 o,f4,fun x hx=>?_⟩,f1,.inr (.inl ⟨_,rfl,by rw[dE ha hi];exact hc,opsN_no m1,?_⟩)⟩
    ·rw[List.mem_singleton.mp hx,ht_at ha hn,ht_at ha hi,hs]
    ·rw[dE ha hi,dE ha hn]
     exact .inl ⟨rfl,_,_,hc2,by show (opC B sh ord _ _).1≠58;rw[opC_fst];exact(F.all _ _ hn).1⟩
   ·rw[if_neg h2] at hw
    have hil:i+1=(Bf B a).1.length:=by lia
    rcases F.last i o hi hil with ⟨h3,rfl⟩ | ⟨g,h3,h4,h5,h6⟩ | ⟨g,g',h3,h4,h6⟩
    ·rw[h3] at hw
     exact⟨65,_,hw,⟨_,f4,fun x hx=>(nomatch hx)⟩,f1,.inl ⟨rfl,by rw[dE ha hi];exact hc,by decide⟩⟩
    ·have hg:g<B.length:=Y.g _ (br ha).1 g (by rw[h3];simp)
     rw[h3] at hw
     rw[opC_N h4] at hc
     refine⟨o,_,hw,⟨g1 o,f4,fun x hx=>?_⟩,f1,.inr (.inl ⟨st B g,rfl,by rw[dE ha hi];exact hc,opsN_no h4,?_⟩)⟩
     ·rw[List.mem_singleton.mp hx,ht_st Y hg,ht_at ha hi,← hs,hil,h6]
     ·rw[dE ha hi,pl_st Y hg,Nat.add_assoc,hil]
      exact tail ha (by rw[h3];rfl) hg
    ·have hg:g<B.length:=Y.g _ (br ha).1 g (by rw[h3];simp)
     have hg':g'<B.length:=Y.g _ (br ha).1 g' (by rw[h3];simp)
     rw[h3] at hw hc
     have hop:opC B sh ord ([g,g'].headD 0) o=(o,some (pB B sh ord g)):=if_pos h4
     rw[hop] at hc
     refine⟨o,_,hw,⟨g1 o,f4,fun x hx=>?_⟩,f1,.inr (.inr ⟨st B g,st B g',pB B sh ord g,rfl,by rw[dE ha hi];exact hc,h4,?_,?_⟩)⟩
     ·have:htO B x=1:=by
       have hx:x∈[st B g,st B g']:=hx
       simp only[List.mem_cons,List.not_mem_nil,or_false] at hx
       rcases hx with rfl | rfl
       ·exact ht_st Y hg
       ·exact ht_st Y hg'
      rw[this,ht_at ha hi,← hs,hil,h6]
     ·rw[pl_st Y hg]
      obtain ⟨o',ar,k1,k2⟩:=first_at (sh:=sh) O Y (hm hg)
      exact .inl ⟨rfl,o',ar,k1,k2⟩
     ·rw[dE ha hi,pl_st Y hg',Nat.add_assoc,hil]
      exact tail ha (by rw[h3];rfl) hg'
 ·have pos:∀ {a},a<B.length→1≤pB B sh ord a:=fun h=>by
   obtain ⟨A,T,k⟩:=at_okL (sh:=sh) O (hm h)
   rw[k.p];exact k.one
  cases dC Y hr with
  | zero=>
   cases dC Y hr' with
   | zero=>rfl
   | @at' a i o ha hi=>rw[dE ha hi] at e;have:=pos ha;have e:0=_:=e;lia
  | @at' a i o ha hi=>
   cases dC Y hr' with
   | zero=>rw[dE ha hi] at e;have:=pos ha;have e:_=0:=e;lia
   | @at' a' i' o' ha' hi'=>
    rw[dE ha hi,dE ha' hi'] at e
    have l1:=ai hi
    have l2:=ai hi'
    by_cases haa:a'=a
    ·subst haa;rw[show i=i' by lia]
    ·obtain ⟨A,T,k⟩:=at_okL (sh:=sh) O (hm ha)
     rcases k.dis a' (hm ha') haa with h | h <;> rw[← k.p] at h <;> lia
end
section
variable {B:List Bk} {sh:Bool} {ord:List Nat}
theorem last_lt(Y:BOK B){a g:Nat}(ha:a<B.length)(h:(Bf B a).2.getLast?=some g):g<B.length:=Y.g _ (br ha).1 g (List.mem_of_getLast? h)
theorem opJ_goal(Y:BOK B){a o:Nat}(ha:a<B.length)(h:o∈(Bf B a).1)(ho:o=59∨o=60):0<(Bf B a).2.length∧(Bf B a).2.headD 0<B.length:=by
 have F:=Y.f _ (br ha).1
 obtain ⟨i,hi,e⟩:=List.mem_iff_getElem.mp h
 have hi2:(Bf B a).1[i]?=some o:=by rw[← e];exact List.getElem?_eq_getElem hi
 rcases F.last i o hi2 (by
  rcases Nat.lt_or_ge (i+1) (Bf B a).1.length with h2 | h2
  ·have:=(F.mid i o hi2 h2).1
   rcases ho with rfl | rfl <;> exact absurd this (by decide)
  ·lia) with ⟨_,h3⟩ | ⟨_,_,h3,_⟩ | ⟨g,g',h3,_⟩
 ·lia
 ·rcases ho with rfl | rfl <;> exact absurd h3 (by decide)
 ·rw[h3]
  exact⟨Nat.succ_pos _,Y.g _ (br ha).1 g (by rw[h3];exact List.mem_cons_self ..)⟩
theorem op_any(Y:BOK B){a o:Nat}(ha:a<B.length)(h:o∈(Bf B a).1):o∈bS∨o=59∨o=60:=by
 have F:=Y.f _ (br ha).1
 obtain ⟨i,hi,e⟩:=List.mem_iff_getElem.mp h
 have hi2:(Bf B a).1[i]?=some o:=by rw[← e];exact List.getElem?_eq_getElem hi
 rcases Nat.lt_or_ge (i+1) (Bf B a).1.length with h2 | h2
 ·exact .inl (F.mid i o hi2 h2).1
 ·rcases F.last i o hi2 (by lia) with ⟨_,h3⟩ | ⟨_,_,h3,_⟩ | ⟨g,g',_,h3,_⟩
  ·exact .inl (by rw[h3];decide)
  ·exact .inl h3
  ·exact .inr h3
noncomputable def RowP(B:List Bk):RowI→Prop
 | .l w=>∃ a,a<B.length∧(w=bw a∨w=xw a)
 | .o op=>op∈bS
 | .j op w=>op∈cz∧∃ a,a<B.length∧(w=bw a∨w=xw a)
theorem jg_P{g:Option Nat}(hg:∀ x,g=some x→x<B.length):∀ r∈jg g,RowP B r:=by
 cases g with
 | none=>intro r h;cases h
 | some g=>intro r h;rw[List.mem_singleton.mp h];exact⟨by decide,g,hg g rfl,.inl rfl⟩
theorem put_P(Y:BOK B):∀ {r:List Nat} {goal:Option Nat},(∀ a∈r,a<B.length)→(∀ x,goal=some x→x<B.length)→∀ x∈bC (Bf B) sh goal r,RowP B x:=by
 intro r
 induction r with
 | nil=>intro goal _ hg;exact jg_P hg
 | cons a r ih=>
  intro goal h hg x hx
  have ha:=h a (List.mem_cons_self ..)
  rw[bC] at hx
  rcases List.mem_append.mp hx with hx | hx
  ·unfold aI at hx
   split at hx
   ·cases hx
   ·exact jg_P hg x hx
  ·rcases List.mem_append.mp hx with hx | hx
   ·simp only[List.mem_cons,List.not_mem_nil,or_false] at hx
    rcases hx with rfl | rfl
    ·exact⟨a,ha,.inl rfl⟩
    ·exact⟨a,ha,.inr rfl⟩
   ·rcases List.mem_append.mp hx with hx | hx
    ·obtain ⟨o,ho,rfl⟩:=List.mem_map.mp hx
     unfold fZ
     split
     ·rename_i h2
      exact⟨by rcases h2 with rfl | rfl <;> decide,_,(opJ_goal Y ha ho h2).2,.inr rfl⟩
     ·rename_i h2
      exact(op_any Y ha ho).resolve_right h2
    ·exact ih (fun y hy=>h y (List.mem_cons_of_mem _ hy)) (fun g hg=>last_lt Y ha hg) x hx
theorem all_P(Y:BOK B)(O:OOK B ord):∀ x∈cM B sh ord,RowP B x:=fun x hx=>by
 rcases List.mem_cons.mp hx with rfl | hx
 ·show 5∈bS;decide
 ·exact put_P Y (fun a h=>(O.m a).mp h) (fun x e=>by cases e;exact Y.pos) x hx
theorem lab_in(O:OOK B ord){a:Nat}(ha:a<B.length){w:List Nat}(hw:w=bw a∨w=xw a):RowI.l w∈cM B sh ord:=List.mem_cons_of_mem _ (put_labs.mpr ⟨a,(O.m a).mpr ha,hw⟩)
theorem rows_ok(Y:BOK B)(O:OOK B ord):RowsOK (cM B sh ord):=by
 have hlen:=perm_len O.nd O.m
 have hB:=Y.le
 have hput:=len_put (sh:=sh) Y (r:=ord) (goal:=some 0) fun a h=>(O.m a).mp h
 refine⟨?_,fun r hr=>?_,fun A C w e=>?_,fun r hr w hw=>?_⟩
 ·show (bC (Bf B) sh (some 0) ord).length+1≤1000
  lia
 ·have:=all_P Y O r hr
  cases r with
  | l w=>trivial
  | o op=>exact this
  | j op w=>exact this.1
 ·refine ci fun h=>?_
  have nd:(fE (cM B sh ord)).Nodup:=by
   show (fE ([RowI.o 5]++bC (Bf B) sh (some 0) ord)).Nodup
   rw[cr,labs_put]
   exact labs_nodup O.nd
  rw[e,cr] at nd
  have:fE (RowI.l w::C)=w::fE C:=rfl
  rw[this,List.nodup_append] at nd
  exact nd.2.2 w (labs_mem.mpr h) w (List.mem_cons_self ..) rfl
 ·have:=all_P Y O r hr
  cases r with
  | l w'=>cases hw;exact posW_some hr
  | o op=>cases hw
  | j op w'=>
   cases hw
   obtain ⟨_,a,ha,h2⟩:=this
   exact posW_some (lab_in O ha h2)
theorem jok_ok(Y:BOK B)(O:OOK B ord):JOK (cd B sh ord):=by
 intro p hp
 obtain ⟨r,hr,hp⟩:=List.mem_flatMap.mp (show p∈(cM B sh ord).flatMap _ from hp)
 have h:=all_P Y O r hr
 cases r with
 | l w=>cases hp
 | o op=>rw[List.mem_singleton.mp hp];exact⟨.inl ⟨h,rfl⟩,fun s hs=>(nomatch hs)⟩
 | j op w=>
  rw[List.mem_singleton.mp hp]
  obtain ⟨h1,a,ha,h2⟩:=h
  refine⟨.inr ⟨h1,_,rfl⟩,fun s hs=>?_⟩
  cases hs
  have ho:=(O.m a).mpr ha
  have e:fR B sh ord w=pB B sh ord a:=by
   rcases h2 with rfl | rfl
   ·rfl
   ·exact fR_x O ho
  obtain ⟨o,ar,k1,k2⟩:=first_at (sh:=sh) O Y ho
  exact⟨(o,ar),by show (cd B sh ord)[fR B sh ord w]?=_;rw[e];exact k1,k2⟩
noncomputable def opR(R:List RowI):List Nat:=R.flatMap fun r=>match r with
 | .l _=>[]
 | .o op=>if op=58 then [] else [op]
 | .j op _=>if op=58 then [] else [op]
theorem g6{A C:List RowI}:opR (A++C)=opR A++opR C:=List.flatMap_append
theorem noJ_rows{f:List Nat→Nat}(R:List RowI):(noJ (bg f R)).map (·.1)=opR R:=by
 induction R with
 | nil=>rfl
 | cons r R ih=>
  have e:noJ (bg f (r::R))=noJ (fY f r)++noJ (bg f R):=by
   show List.filter _ (fY f r++bg f R)=_
   rw[List.filter_append];rfl
  rw[e,List.map_append,ih]
  show _=_++opR R
  congr 1
  cases r with
  | l w=>rfl
  | o op=>by_cases h:op=58 <;> simp [fY,noJ,h]
  | j op w=>by_cases h:op=58 <;> simp [fY,noJ,h]
theorem opR_jg{g:Option Nat}:opR (jg g)=[]:=by cases g <;> rfl
theorem opR_blk(Y:BOK B){a:Nat}(ha:a<B.length):opR (bb (Bf B a))=(Bf B a).1:=by
 have h:∀ o∈(Bf B a).1,o≠58:=fun o ho=>by
  rcases op_any Y ha ho with h | h
  ·exact fun e=>absurd (e▸h) (by decide)
  ·lia
 unfold bb
 revert h
 generalize (Bf B a).1=l
 intro h
 induction l with
 | nil=>rfl
 | cons o l ih=>
  have h1:=h o (List.mem_cons_self ..)
  rw[List.map_cons,← List.singleton_append,g6,ih fun x hx=>h x (List.mem_cons_of_mem _ hx)]
  unfold fZ
  split <;> simp [opR,h1]
theorem opR_put(Y:BOK B):∀ {r:List Nat} {goal:Option Nat},(∀ a∈r,a<B.length)→opR (bC (Bf B) sh goal r)=r.flatMap fun a=>(Bf B a).1:=by
 intro r
 induction r with
 | nil=>intro goal _;exact opR_jg
 | cons a r ih=>
  intro goal h
  have ea:opR (aI sh goal a)=[]:=by
   unfold aI
   split
   ·rfl
   ·exact opR_jg
  rw[bC,g6,ea,g6,g6,opR_blk Y (h a (List.mem_cons_self ..)),ih fun x hx=>h x (List.mem_cons_of_mem _ hx)];rfl
theorem chain_fst{l:List Nat}:∀ {i:Nat},(dj i l).map (·.1)=l:=by
 induction l with
 | nil=>intro i;rfl
 | cons x l ih=>intro i;show x::(dj (i+1) l).map _=_;rw[ih]
theorem waysL_fst{s:Nat→Nat}{l:List Bk}(hp:∀ b∈l,0<b.1.length):∀ {i:Nat},(cQ s i l).map (·.1)=l.flatMap (·.1):=by
 induction l with
 | nil=>intro i;rfl
 | cons b l ih=>
  intro i
  have hb:=hp b (List.mem_cons_self ..)
  have hne:b.1≠[]:=List.length_pos_iff.mp hb
  show (blkW s i b++cQ s (i+b.1.length) l).map _=b.1++l.flatMap _
  rw[List.map_append,ih fun x hx=>hp x (List.mem_cons_of_mem _ hx)]
  congr 1
  unfold blkW
  rw[List.map_append,chain_fst]
  show b.1.dropLast++[b.1.getLast?.getD 0]=b.1
  rw[List.getLast?_eq_some_getLast hne]
  exact List.dropLast_concat_getLast hne
theorem range_Bf:(List.range B.length).flatMap (fun a=>(Bf B a).1)=B.flatMap (·.1):=by
 have:(List.range B.length).map (Bf B)=B:=by
  apply List.ext_getElem?
  intro i
  rw[List.getElem?_map]
  by_cases hi:i<B.length
  ·rw[List.getElem?_range hi,(br hi).2];rfl
  ·rw[List.getElem?_eq_none (by rw[List.length_range];lia),List.getElem?_eq_none (by lia)];rfl
 conv=>rhs;rw[← this]
 rw[List.flatMap_map]
theorem ops_perm(Y:BOK B)(O:OOK B ord):((noJ (cd B sh ord)).map (·.1)).Perm ((aX B).map (·.1)):=by
 have e1:(noJ (cd B sh ord)).map (·.1)=5::ord.flatMap fun a=>(Bf B a).1:=by
  show (noJ (bg _ _)).map _=_
  rw[noJ_rows,gu,g6,opR_put Y fun a h=>(O.m a).mp h];rfl
 have e2:(aX B).map (·.1)=5::B.flatMap (·.1):=by
  show 5::(cQ (st B) 1 B).map _=_
  rw[waysL_fst fun b hb=>Nat.lt_of_lt_of_le (by decide) (Y.f b hb).two]
 rw[e1,e2,← range_Bf]
 refine List.Perm.cons 5 (List.Perm.flatMap_right _ ?_)
 exact(List.perm_ext_iff_of_nodup O.nd List.nodup_range).mpr fun a=>by rw[O.m,List.mem_range]
end
theorem ins_comm(x y:Int)(l:List Int):insert x (insert y l)=insert y (insert x l):=by
 induction l with
 | nil=>
  show (if x≤y then x::y::[] else y::insert x [])=(if y≤x then y::x::[] else x::insert y [])
  by_cases h1:x≤y <;> by_cases h2:y≤x
  ·rw[if_pos h1,if_pos h2,show x=y by lia]
  ·rw[if_pos h1,if_neg h2];rfl
  ·rw[if_neg h1,if_pos h2];rfl
  ·lia
 | cons z l ih=>
  by_cases hx:x≤z <;> by_cases hy:y≤z
  ·rw[show insert y (z::l)=y::z::l from if_pos hy,show insert x (z::l)=x::z::l from if_pos hx]
   show (if x≤y then x::y::z::l else y::insert x (z::l))=(if y≤x then y::x::z::l else x::insert y (z::l))
   rw[show insert y (z::l)=y::z::l from if_pos hy,show insert x (z::l)=x::z::l from if_pos hx]
   by_cases h1:x≤y <;> by_cases h2:y≤x
   ·rw[if_pos h1,if_pos h2,show x=y by lia]
   ·rw[if_pos h1,if_neg h2]
   ·rw[if_neg h1,if_pos h2]
   ·lia
  ·rw[show insert y (z::l)=z::insert y l from if_neg hy,show insert x (z::l)=x::z::l from if_pos hx]
   show (if x≤z then x::z::insert y l else _)=(if y≤x then y::x::z::l else x::insert y (z::l))
   rw[if_pos hx,if_neg (by lia),show insert y (z::l)=z::insert y l from if_neg hy]
  ·rw[show insert y (z::l)=y::z::l from if_pos hy,show insert x (z::l)=z::insert x l from if_neg hx]
   show (if x≤y then x::y::z::l else y::insert x (z::l))=(if y≤z then y::z::insert x l else _)
   rw[if_neg (by lia),if_pos hy,show insert x (z::l)=z::insert x l from if_neg hx]
  ·rw[show insert y (z::l)=z::insert y l from if_neg hy,show insert x (z::l)=z::insert x l from if_neg hx]
   show (if x≤z then _ else z::insert x (insert y l))=(if y≤z then _ else z::insert y (insert x l))
   rw[if_neg hx,if_neg hy,ih]
theorem isort_permL{l m:List Int}(h:l.Perm m):eC l=eC m:=by
 induction h with
 | nil=>rfl
 | cons x _ ih=>show insert x _=insert x _;rw[ih]
 | swap x y l=>exact ins_comm y x (eC l)
 | trans _ _ h1 h2=>exact h1.trans h2
noncomputable def lastOk(ops:List Nat)(o ng:Nat):Bool:=decide (ng=0∧o=65)||decide (ng=1∧o∈bS∧o≠65∧htB ops ops.length=1)||decide (ng=2∧(o=59∨o=60)∧htB ops ops.length=1)
noncomputable def chkO(ops:List Nat)(ng i o:Nat):Bool:=decide (o≠58∧(tk o:Int)≤htB ops i∧htB ops i≤100)&&((db eD (o:Int)).any fun v=>(vInt v).any (·==g1 o))&&(if i+1<ops.length then decide (o∈bS∧o≠65) else lastOk ops o ng)
noncomputable def chkB(ops:List Nat)(ng:Nat):Bool:=decide (2≤ops.length∧ops.length≤6)&&(List.range ops.length).all fun i=>(ops[i]?).any (chkO ops ng i)
theorem or2{a b:Bool}{P:Prop}(h:(a||b)=true)(k1:a=true→P)(k2:b=true→P):P:=(Bool.or_eq_true_iff.mp h).elim k1 k2
theorem any_ex{α:Type}{o:Option α}{f:α→Bool}(h:o.any f=true):∃ a,o=some a∧f a=true:=by
 cases o with
 | none=>cases h
 | some a=>exact⟨a,rfl,h⟩
theorem oAny{α:Type}{o:Option α}{f:α→Bool}{a:α}(h:o.any f=true)(e:o=some a):f a=true:=by rw[e] at h;exact h
theorem len2{α:Type}{l:List α}(h:l.length=2):∃ a b,l=[a,b]:=by
 rcases l with _ | ⟨a,_ | ⟨b,_ | ⟨c,l⟩⟩⟩ <;> first | exact⟨a,b,rfl⟩ | cases h
theorem chkO_last{b:Bk}{i o:Nat}(h3:i+1=b.1.length)(k:chkO b.1 b.2.length i o=true):(b.2=[]∧o=65)∨(∃ g,b.2=[g]∧o∈bS∧o≠65∧htB b.1 b.1.length=1)∨(∃ g g',b.2=[g,g']∧(o=59∨o=60)∧htB b.1 b.1.length=1):=by
 have k:=aa k
 rw[if_neg (Nat.not_lt.mpr (Nat.le_of_eq h3.symm))] at k
 exact or2 k (fun k=>or2 k (fun k=>.inl ⟨List.length_eq_zero_iff.mp (of_decide_eq_true k).1,(of_decide_eq_true k).2⟩) fun k=>.inr (.inl (exE (List.length_eq_one_iff.mp (of_decide_eq_true k).1) fun g e=>⟨g,e,(of_decide_eq_true k).2⟩)))
  fun k=>.inr (.inr (exE (len2 (of_decide_eq_true k).1) fun g z=>exE z fun g' e=>⟨g,g',e,(of_decide_eq_true k).2⟩))
theorem chkB_ok{b:Bk}(h:chkB b.1 b.2.length=true):BlkF b:=
 have key:∀ {i o},b.1[i]?=some o→chkO b.1 b.2.length i o=true:=fun hi=>oAny (List.all_eq_true.mp (aa h) _ (List.mem_range.mpr (ai hi))) hi
 have d:=of_decide_eq_true (a9 h)
 ⟨d.1,d.2,fun i o hi=>have q:=of_decide_eq_true (a9 (a9 (key hi)));⟨q.1,q.2.1,q.2.2,exE (any_ex (aa (a9 (key hi)))) fun v z=>exE (any_ex z.2) fun g y=>by rw[z.1,aB y.1,eq_of_beq y.2]⟩,
  fun i o hi h3=>of_decide_eq_true (by have k:=aa (key hi);rwa [if_pos h3] at k),fun i o hi h3=>chkO_last h3 (key hi)⟩
theorem goals_len{α:Type}{kind:Nat}{x y:α}:(bB kind x y).length=(bB kind () ()).length:=by unfold bB;split <;> rfl
theorem shapes_ok{at' n kind:Nat}(h1:at'<4)(h2:n<3)(h3:kind<4):chkB (fq at' n kind) (bB kind () ()).length=true:=
 cO (l:=tri) (f:=fun p=>chkB (fq p.1 p.2.2 p.2.1) (bB p.2.1 () ()).length) (g:=fun _=>true) (by kernel_rfl) (at',kind,n) (tri_mem h1 h3 h2)
theorem blocks_bok{cells:List Nat}(h0:0<cells.length)(h4:cells.length≤4):BOK (dw cells.length 0 cells):=by
 have key:∀ (l:List Nat) (i:Nat),i+l.length≤4→∀ b∈dw cells.length i l,BlkF b∧∀ x∈b.2,x<cells.length:=fun l=>by
  induction l with
  | nil=>intro i _ b hb;cases hb
  | cons c l ih=>
   intro i hi b hb
   rw[List.length_cons] at hi
   rcases List.mem_cons.mp hb with rfl | hb
   ·have hk:=Nat.mod_lt c (show 4 > 0 by decide)
    have hg:∀ x∈bB (c % 4) (c / 4 % cells.length) (c / 20 % cells.length),x<cells.length:=fun x hx=>by
     have a1:=Nat.mod_lt (c / 4) h0
     have a2:=Nat.mod_lt (c / 20) h0
     unfold bB at hx
     split at hx
     ·cases hx
     ·rw[List.mem_singleton.mp hx];exact a1
     ·simp only[List.mem_cons,List.not_mem_nil,or_false] at hx
      rcases hx with rfl | rfl
      ·exact a1
      ·exact a2
    refine⟨chkB_ok ?_,hg⟩
    show chkB (fq i (c / 100 % 3) (c % 4)) (bB _ _ _).length=true
    rw[goals_len]
    exact shapes_ok (by lia) (Nat.mod_lt _ (by decide)) hk
   ·exact ih (i+1) (by lia) b hb
 have hl:(dw cells.length 0 cells).length=cells.length:=gk _ _
 exact⟨by lia,by lia,fun b hb=>(key cells 0 (by lia) b hb).1,fun b hb x hx=>by rw[hl];exact(key cells 0 (by lia) b hb).2 x hx⟩
theorem comp_noJ{R:Rec}{lo i j:Nat}{G:V→V→Fr}(hb:∀ x y v w,cj lo (.tup [.var i,.var j]) (.tup [v,w]) (G x y)=some (G v w))
  (hc:∀ (o:Nat) w,evB R (.cmp .ne (.var i) (.const (.int 58))) (G (.int o) w)=some (!((o:Int)==58),G (.int o) w)) (he:∀ (o:Nat) w,evV R (.var i) (G (.int o) w)=some (.int o,G (.int o) w)) (c:Cd):
  ∀ (acc:List V) (x y:V),acc.length+c.length≤5000→∃ x' y',bt R lo (.tup [.var i,.var j]) (some (.cmp .ne (.var i) (.const (.int 58)))) (.var i) (af c) acc (G x y)=some (acc++ae ((noJ c).map (·.1)),G x' y'):=by
 induction c with
 | nil=>intro acc x y _;exact⟨x,y,by show some (acc,_)=some (acc++[],_);rw[List.append_nil]⟩
 | cons p c ih=>
  intro acc x y h
  rw[List.length_cons] at h
  have hb1:=hb x y (.int p.1) (enc p.2)
  have hc1:=hc p.1 (enc p.2)
  by_cases ho:p.1=58
  ·obtain ⟨x',y',h1⟩:=ih acc (.int p.1) (enc p.2) (by lia)
   have e:(!((p.1:Int)==58))=false:=by rw[ho];rfl
   rw[e] at hc1
   refine⟨x',y',(comp_no hb1 hc1 h1).trans ?_⟩
   have:noJ (p::c)=noJ c:=by unfold noJ;rw[List.filter_cons,if_neg (by simp [ho])]
   rw[this]
  ·obtain ⟨x',y',h1⟩:=ih (acc++[.int p.1]) (.int p.1) (enc p.2) (by rw[aM];lia)
   have e:(!((p.1:Int)==58))=true:=by rw[beq_false_of_ne (by lia)];rfl
   rw[e] at hc1
   refine⟨x',y',(comp_yes hb1 hc1 (he p.1 (enc p.2)) (by lia) h1).trans ?_⟩
   have:noJ (p::c)=p::noJ c:=by unfold noJ;rw[List.filter_cons,if_pos (by simp [ho])]
   rw[this,List.append_assoc];rfl
theorem comp_fst{R:Rec}{lo i j:Nat}{G:V→V→Fr}(hb:∀ x y v w,cj lo (.tup [.var i,.var j]) (.tup [v,w]) (G x y)=some (G v w))
  (he:∀ (o:Nat) w,evV R (.var i) (G (.int o) w)=some (.int o,G (.int o) w)) (c:List Rw):
  ∀ (acc:List V) (x y:V),acc.length+c.length≤5000→∃ x' y',bt R lo (.tup [.var i,.var j]) none (.var i) (c4 c) acc (G x y)=some (acc++ae (c.map (·.1)),G x' y'):=by
 induction c with
 | nil=>intro acc x y _;exact⟨x,y,by show some (acc,_)=some (acc++[],_);rw[List.append_nil]⟩
 | cons p c ih=>
  intro acc x y h
  rw[List.length_cons] at h
  obtain ⟨x',y',h1⟩:=ih (acc++[.int p.1]) (.int p.1) (aK p.2) (by rw[aM];lia)
  refine⟨x',y',(cZ (hb x y (.int p.1) (aK p.2)) (he p.1 _) (by lia) h1).trans ?_⟩
  rw[List.append_assoc];rfl
theorem intsOf_nats(l:List Nat):aP (ae l)=some (l.map fun (n:Nat)=>(n:Int)):=by
 induction l with
 | nil=>rfl
 | cons x l ih=>show (aP (ae l)).bind _=_;rw[ih];rfl
theorem intsOf_ints(l:List Int):aP (l.map .int)=some l:=by
 induction l with
 | nil=>rfl
 | cons x l ih=>show (aP (l.map .int)).bind _=_;rw[ih];rfl
noncomputable def srt(l:List Nat):V:=.list ((eC (l.map fun (n:Nat)=>(n:Int))).map .int)
theorem sorted_ok{l:List Nat}(h:l.length<64):Mine.prim .sorted (.list (ae l))=some (.list ((eC (l.map fun (n:Nat)=>(n:Int))).map .int)):=by
 show (if (ae l).length<64 then (aP (ae l)).bind (fun x=>some (Own.list ((eC x).map .int))) else none)=_
 rw[if_pos (by rw[au];exact h),intsOf_nats];rfl
theorem srt_ne{l m:List Nat}(h:l.Perm m):aH .ne (srt l) (srt m)=some false:=by
 have e:srt l=srt m:=by unfold srt;rw[isort_permL (h.map _)]
 rw[e]
 unfold srt
 generalize eC _=x
 show (if (x.map V.int).length==(x.map V.int).length then eQ (x.map .int) (x.map .int) else some false).bind (fun r=>some !r)=_
 rw[beq_self_eq_true,if_pos rfl]
 unfold eQ
 rw[intsOf_ints]
 show (some (x==x)).bind _=_
 rw[beq_self_eq_true];rfl
theorem comp_told{R:Rec}{lo:Nat}{G:V→V→Fr}{cond:E}{pl:Nat→Nat}{ht:Nat→Int}(hb:∀ x y v w,cj lo (.tup [.var 15,.var 16]) (.tup [v,w]) (G x y)=some (G v w))
  (l:List Nat) (hc:∀ r∈l,evB R cond (G (.int (pl r)) (.int (ht r)))=some (false,G (.int (pl r)) (.int (ht r)))):∀ (x y:V),∃ x' y',bt R lo (.tup [.var 15,.var 16]) (some cond) (.var 15) (l.map (cq pl ht)) [] (G x y)=some ([],G x' y'):=by
 induction l with
 | nil=>intro x y;exact⟨x,y,rfl⟩
 | cons r l ih=>
  intro x y
  obtain ⟨x',y',h⟩:=ih (fun r hr=>hc r (List.mem_cons_of_mem _ hr)) (.int (pl r)) (.int (ht r))
  exact⟨x',y',comp_no (hb x y _ _) (hc r (List.mem_cons_self ..)) h⟩
section
variable {k:Nat} {SC CL:List V} {m:Nat} {Bv W:List V}
noncomputable def lwF(SC CL:List V)(m:Nat)(Bv:List V)(w5 o6 o7 o8 o9:Own)(Wv:Own)(j:Nat→V):Fr:=[.v (.list SC),.list CL,.v (.int m),.v (.list Bv),Wv,w5,o6,o7,o8,o9,.v (j 10),.v (j 11),.v (j 12),.v (j 13),.v (j 14),.v (j 15),.v (j 16),.v (j 17),.v (j 18)]
noncomputable abbrev lwB:List S:=bJ f_law.body 4
noncomputable def unitR(c:Cd)(ln:List V):Own:=.inst 1 [.v (.str [98,108,111,99,107,115]),.v (.list []),.v (.bool false),.v (.list (af c)),.list ln,.v .undef,.list [],.list [],.v .undef,.list [],.v (.int 0),.v (.int 0),.v (.list []),.v (.bool false),.v .none,.v .none,.v (.list [])]
noncomputable def unS(co li:SO1):SO:=.inst 1 [.v (.str [98,108,111,99,107,115]),.v (.list none []),.v (.bool false),co,li,.v .undef,.list none [],.list none [],.v .undef,.list none [],.v (.int 0),.v (.int 0),.v (.list none []),.v (.bool false),.v .none,.v .none,.v (.list none [])]
noncomputable def wO(b:Bool)(W:List V):Own:=if b then .list W else .v (.list W)
noncomputable def wS(b:Bool):SO:=if b then .list (some 1) [] else .v (.list (some 1) [])
noncomputable def tO(b:Bool)(T:List (Int×V)):Own:=if b then .v .undef else .dict T
noncomputable def tS(b:Bool):SO:=if b then .v .undef else .dict 1
theorem lw_A{c:Cd}{ord ln:List V}{D T:List (Int×V)}{cell1:Nat}{x6 x7:V}{j:Nat→V}(b sh:Bool)(h1:V.item (.list CL) (.int 1)=some (.int cell1))(hsh:decide (cell1 % 2=1)=sh)
  (hu:PN (k+1) 41 [.v (.list Bv),.v (.list ord),.v (.bool sh)]=some (unitO c ln,.v .undef)) (hf:PN (k+1) 43 [.v (.list (af c)),.v (.list W)]=some (.dict D,.v .undef)) (hCL:CL.length≤5000) (hW:W.length≤5000) (hc:c.length≤5000) (hln:ln.length≤5000) (hD:D.length≤5000) (hT:T.length≤5000):
  exs (sem (PN (k+1)) 0 1 1000 39) (lwB.take 3) (lwF SC CL m Bv (.v (.list ord)) (.v x6) (.v x7) (tO b T) (.v .undef) (wO b W) j)=some (.next,lwF SC CL m Bv (.v (.list ord)) (unitR c ln) (.dict D) (tO b T) (.v .undef) (.v (.list W)) j):=by
 let σ:=mkσ [.list SC,.list Bv,.list ord] [m,cell1,(cell1 % 2:Nat)] [CL,W,af c,ln] [D,T] [] ⟨a8,a8,a8,trivial⟩ ⟨hCL,hW,by show (af c).length≤5000;rw[bn];exact hc,hln,trivial⟩ ⟨hD,hT,trivial⟩ trivial
 have h1':V.item (.list (CL++[])) (.int 1)=some (.int cell1):=by rw[List.append_nil];exact h1
 have hu':PN (k+1) 41 [.v (.list Bv),.v (.list ord),.v (.bool sh)]=some ((unS (.list (some 2) []) (.list (some 3) [])).den σ,.v .undef):=by
  rw[hu]
  show some (unitO c ln,_)=some (Own.inst 1 [.v (.str [98,108,111,99,107,115]),.v (.list []),.v (.bool false),.list (af c++[]),.list (ln++[]),.v .undef,.list [],.list [],.v .undef,.list [],.v (.int 0),.v (.int 0),.v (.list []),.v (.bool false),.v .none,.v .none,.v (.list [])],_)
  rw[List.append_nil,List.append_nil];rfl
 have hf':PN (k+1) 43 [.v (.list (af c++[])),.v (.list (W++[]))]=some (.dict D,.v .undef):=by rw[List.append_nil,List.append_nil];exact hf
 have hq:aH .eq (.int (cell1 % 2:Nat)) (.int 1)=some sh:=(eq_int (b:=1)).trans (by rw[hsh])
 have H:FA (PN (k+1)) σ { item:=[(.list (some 0) [],.int 1,.i 1)],bin:=[(.mod,.i 1,.int 2,.v (.i 2))],cmp:=[(.eq,.i 2,.int 1,sh)],call:=[(41,[.a 1,.a 2,.bool sh],unS (.list (some 2) []) (.list (some 3) [])),(43,[.list (some 2) [],.list (some 1) []],.dict 0)] }:=
  { item:=⟨⟨h1',aL⟩,trivial⟩,bin:=⟨mod_int (b:=2) (by decide) (by decide),trivial⟩,cmp:=⟨hq,trivial⟩,call:=⟨⟨_,hu'⟩,⟨_,hf'⟩,trivial⟩ }
 let jk:List SO:=[.v (.k (j 10)),.v (.k (j 11)),.v (.k (j 12)),.v (.k (j 13)),.v (.k (j 14)),.v (.k (j 15)),.v (.k (j 16)),.v (.k (j 17)),.v (.k (j 18))]
 have e:=ag (lo:=0) (la:=1) (W:=1000) H (n:=39) (b:=lwB.take 3) (fr:=[.v (.a 0),.list (some 0) [],.v (.i 0),.v (.a 1),wS b,.v (.a 2),.v (.k x6),.v (.k x7),tS b,.v .undef]++jk) (f:=.next)
  (fr':=[.v (.a 0),.list (some 0) [],.v (.i 0),.v (.a 1),.v (.list (some 1) []),.v (.a 2),unS (.v (.list (some 2) [])) (.list (some 3) []),.dict 0,tS b,.v .undef]++jk) (by cases b <;> cases sh <;> kernel_rfl)
 have e1:am σ ([.v (.a 0),.list (some 0) [],.v (.i 0),.v (.a 1),wS b,.v (.a 2),.v (.k x6),.v (.k x7),tS b,.v .undef]++jk)=lwF SC CL m Bv (.v (.list ord)) (.v x6) (.v x7) (tO b T) (.v .undef) (wO b W) j:=by
  cases b
  ·show lwF SC (CL++[]) m Bv (.v (.list ord)) (.v x6) (.v x7) (.dict T) (.v .undef) (.v (.list (W++[]))) j=_
   rw[List.append_nil,List.append_nil];rfl
  ·show lwF SC (CL++[]) m Bv (.v (.list ord)) (.v x6) (.v x7) (.v .undef) (.v .undef) (.list (W++[])) j=_
   rw[List.append_nil,List.append_nil];rfl
 have e2:am σ ([.v (.a 0),.list (some 0) [],.v (.i 0),.v (.a 1),.v (.list (some 1) []),.v (.a 2),unS (.v (.list (some 2) [])) (.list (some 3) []),.dict 0,tS b,.v .undef]++jk)=lwF SC CL m Bv (.v (.list ord)) (unitR c ln) (.dict D) (tO b T) (.v .undef) (.v (.list W)) j:=by
  have key:∀ t8:Own,lwF SC (CL++[]) m Bv (.v (.list ord)) (.inst 1 [.v (.str [98,108,111,99,107,115]),.v (.list []),.v (.bool false),.v (.list (af c++[])),.list (ln++[]),.v .undef,.list [],.list [],.v .undef,.list [],.v (.int 0),.v (.int 0),.v (.list []),.v (.bool false),.v .none,.v .none,.v (.list [])]) (.dict D) t8 (.v .undef) (.v (.list (W++[]))) j=lwF SC CL m Bv (.v (.list ord)) (unitR c ln) (.dict D) t8 (.v .undef) (.v (.list W)) j:=fun t8=>by
   rw[List.append_nil,List.append_nil,List.append_nil,List.append_nil];rfl
  cases b
  ·exact key (.dict T)
  ·exact key (.v .undef)
 rw[e1,e2] at e;exact e
end
section
variable {Φ:Nat→List Own→Option (Own×Own)} {lo la W n:Nat}
theorem evB_run{R:Rec}{e:E}{fr fr1:Fr}{b:Bool}(h:R.ev e fr=some (.v (.bool b),fr1)):evB R e fr=some (b,fr1):=ac (b8 h) rfl
theorem iff_run{c:E}{a b:List S}{fr fr1:Fr}{t:Bool}{p:Option (Fl×Fr)}(h:evB (sem Φ lo la W n) c fr=some (t,fr1))(h2:exs (sem Φ lo la W n) (if t then a else b) fr1=p):(sem Φ lo la W (n+1)).ex (.iff c a b) fr=p:=d9 h h2
theorem cmp_run{o:Cmp}{a b:E}{fr fr1 fr2:Fr}{x y:V}{r:Bool}(h1:evH (sem Φ lo la W n) a fr=some (.val x,fr1))(h2:evH (sem Φ lo la W n) b fr1=some (.val y,fr2))(h3:aH o x y=some r):(sem Φ lo la W (n+1)).ev (.cmp o a b) fr=some (.v (.bool r),fr2):=
 ac h1 (ac h2 (ac (x:=x) rfl (ac (x:=y) rfl (ac h3 rfl))))
theorem and_run{es:List E}{fr fr1:Fr}{b:Bool}(h:evAnd (sem Φ lo la W n) es fr=some (b,fr1)):(sem Φ lo la W (n+1)).ev (.and es) fr=some (.v (.bool b),fr1):=ac h rfl
theorem and_yes{R:Rec}{e:E}{es:List E}{fr fr1:Fr}{p:Option (Bool×Fr)}(h:evB R e fr=some (true,fr1))(h2:evAnd R es fr1=p):evAnd R (e::es) fr=p:=d9 h h2
theorem ret_and{es:List E}{fr fr1:Fr}{o:Own}(h:(sem Φ lo la W n).ev (.and es) fr=some (o,fr1)):(sem Φ lo la W (n+1)).ex (.ret (.and es)) fr=some (.ret o,fr1):=ac h rfl
end
section
variable {k:Nat} {SC CL:List V} {m:Nat} {Bv:List V} {w5:Own}
theorem lw_B{c:Cd}{w:List Rw}{ln:List V}{o7 o8:Own}{j:Nat→V}(hp:((noJ c).map (·.1)).Perm (w.map (·.1)))(hw:w.length<64)(hc:c.length≤200):
  ∃ j',exs (sem (PN (k+1)) 0 1 1000 39) ((lwB.drop 3).take 1) (lwF SC CL m Bv w5 (unitR c ln) o7 o8 (.v .undef) (.v (.list (c4 w))) j)=some (.next,lwF SC CL m Bv w5 (unitR c ln) o7 o8 (.v .undef) (.v (.list (c4 w))) j'):=by
 have hl:((noJ c).map (·.1)).length<64:=by rw[hp.length_eq,List.length_map];exact hw
 let G:(Nat→V)→Fr:=fun j=>lwF SC CL m Bv w5 (unitR c ln) o7 o8 (.v .undef) (.v (.list (c4 w))) j
 let j1:V→V→Nat→V:=fun x y=>upd (upd j 11 x) 12 y
 obtain ⟨x,y,h1⟩:=comp_noJ (R:=sem (PN (k+1)) 0 1 1000 35) (lo:=0) (i:=11) (j:=12) (G:=fun x y=>G (j1 x y)) (fun _ _ _ _=>rfl) (fun _ _=>rfl) (fun _ _=>rfl) c [] .undef .undef (by rw[List.length_nil];lia)
 have i1:bZ (sem (PN (k+1)) 0 1 1000 35) (.val (.attr (.var 6) 3)) (G j)=some (af c,G j):=rfl
 have c1:=cw (n:=35) (t:=.tup [.var 11,.var 12]) i1 h1
 rw[List.nil_append] at c1
 have p1:=b8 (fc (n:=36) c1 (sorted_ok hl))
 let j2:Nat→V:=j1 .undef .undef
 let j3:V→V→Nat→V:=fun x y=>upd (upd j2 13 x) 14 y
 obtain ⟨x',y',h2⟩:=comp_fst (R:=sem (PN (k+1)) 0 1 1000 35) (lo:=0) (i:=13) (j:=14) (G:=fun x y=>G (j3 x y)) (fun _ _ _ _=>rfl) (fun _ _=>rfl) w [] .undef .undef (by rw[List.length_nil];lia)
 have i2:bZ (sem (PN (k+1)) 0 1 1000 35) (.val (.var 4)) (G j2)=some (c4 w,G j2):=ed (n:=34) (i:=4) rfl
 have c2:=cw (n:=35) (t:=.tup [.var 13,.var 14]) i2 h2
 rw[List.nil_append] at c2
 have p2:=b8 (fc (n:=36) c2 (sorted_ok (by rw[List.length_map];exact hw)))
 have hcmp:(sem (PN (k+1)) 0 1 1000 38).ev (.cmp .ne (.prim .sorted (.comp (.tup [.var 11,.var 12]) (.val (.attr (.var 6) 3)) (some (.cmp .ne (.var 11) (.const (.int 58)))) (.var 11))) (.prim .sorted (.comp (.tup [.var 13,.var 14]) (.val (.var 4)) none (.var 13)))) (G j)=some (.v (.bool false),G (j3 .undef .undef)):=
  cmp_run (n:=37) (x:=srt ((noJ c).map (·.1))) (y:=srt (w.map (·.1))) (ac p1 rfl) (ac p2 rfl) (srt_ne hp)
 exact⟨j3 .undef .undef,ak (iff_run (n:=38) (evB_run hcmp) rfl) rfl⟩
theorem lw_C{c:Cd}{ln:List V}{o7 o8 Wo:Own}{T:List (Int×V)}{j:Nat→V}(h:PN (k+1) 32 [.v (aw c ln)]=some (.dict T,.v .undef)):
  exs (sem (PN (k+1)) 0 1 1000 39) ((lwB.drop 4).take 1) (lwF SC CL m Bv w5 (unitR c ln) o7 o8 (.v .undef) Wo j)=some (.next,lwF SC CL m Bv w5 (.v (aw c ln)) o7 (.dict T) (.v .undef) Wo j):=
 ak (dm (n:=38) (i:=8) (bR (n:=37) (f:=32) (es:=[.var 6]) (vs:=[aw c ln]) (fr1:=lwF SC CL m Bv w5 (.v (aw c ln)) o7 o8 (.v .undef) Wo j) rfl h) rfl) rfl
noncomputable abbrev lwT:E:=.or [.cmp .notIn (.var 15) (.var 8),.cmp .ne (.len (.sub (.var 8) (.var 15))) (.var 16)]
theorem lw_told{x4 x5 x6 x7:V}{hh:Nat→Nat}{ks:List Nat}{p:Nat}{h:Int}{j:Nat→V}(hp:p∈ks)(h1:(hh p:Int)=h)(h2:hh p≤100)(hCL:CL.length≤5000)(hks:ks.length≤5000):
  evB (sem (PN (k+1)) 0 1 1000 36) lwT (lwF SC CL m Bv (.v x5) (.v x6) (.v x7) (.dict (dct (fun x=>vals (hh x)) ks)) (.v .undef) (.v x4) (upd (upd j 15 (.int p)) 16 (.int h)))=some (false,lwF SC CL m Bv (.v x5) (.v x6) (.v x7) (.dict (dct (fun x=>vals (hh x)) ks)) (.v .undef) (.v x4) (upd (upd j 15 (.int p)) 16 (.int h))):=by
 let σ:=mkσ [vals (hh p)] [p,hh p,h] [CL] [dct (fun x=>vals (hh x)) ks] [] ⟨aD,trivial⟩ ⟨hCL,trivial⟩ ⟨by show (dct _ _).length≤5000;rw[cI];exact hks,trivial⟩ trivial
 have H:FA (PN (k+1)) σ { item:=[(.dict 0,.i 0,.a 0)],len:=[(.a 0,.i 1)],cmp:=[(.notIn,.i 0,.dict 0,false),(.ne,.i 1,.i 2,false)] }:=
  { item:=⟨⟨gi (f:=fun x=>vals (hh x)) hp,aD⟩,trivial⟩,len:=⟨⟨_,len_vals h2,rfl⟩,trivial⟩,cmp:=⟨notIn_dct.trans (congrArg some (decide_eq_false fun h=>h hp)),by show aH .ne (.int (hh p)) (.int h)=_;rw[h1];exact ne_no h,trivial⟩ }
 let f0:SFr:=[.v (.k (.list SC)),.list (some 0) [],.v (.k (.int m)),.v (.k (.list Bv)),.v (.k x4),.v (.k x5),.v (.k x6),.v (.k x7),.dict 0,.v .undef,.v (.k (j 10)),.v (.k (j 11)),.v (.k (j 12)),.v (.k (j 13)),.v (.k (j 14)),.v (.i 0),.v (.i 2),.v (.k (j 17)),.v (.k (j 18))]
 have e:=cH (lo:=0) (la:=1) (W:=1000) H (n:=36) (e:=lwT) (fr:=f0) (b:=false) (fr':=f0) (by kernel_rfl)
 have e1:am σ f0=lwF SC CL m Bv (.v x5) (.v x6) (.v x7) (.dict (dct (fun x=>vals (hh x)) ks)) (.v .undef) (.v x4) (upd (upd j 15 (.int p)) 16 (.int h)):=by
  show lwF SC (CL++[]) m Bv (.v x5) (.v x6) (.v x7) (.dict (dct (fun x=>vals (hh x)) ks)) (.v .undef) (.v x4) (upd (upd j 15 (.int p)) 16 (.int h))=_
  rw[List.append_nil]
 rw[e1] at e;exact e
theorem lw_D{x4 x5 x6:V}{pl:Nat→Nat}{ht:Nat→Int}{hh:Nat→Nat}{ks rs:List Nat}{j:Nat→V}(hr:∀ r∈rs,pl r∈ks∧(hh (pl r):Int)=ht r∧hh (pl r)≤100)(hCL:CL.length≤5000)(hks:ks.length≤5000):
  ∃ j',exs (sem (PN (k+1)) 0 1 1000 39) (lwB.drop 5) (lwF SC CL m Bv (.v x5) (.v x6) (.dict (dct (cq pl ht) rs)) (.dict (dct (fun x=>vals (hh x)) ks)) (.v .undef) (.v x4) j)=some (.next,lwF SC CL m Bv (.v x5) (.v x6) (.v (.dict (dct (cq pl ht) rs))) (.dict (dct (fun x=>vals (hh x)) ks)) (.v .undef) (.v x4) j'):=by
 let G:(Nat→V)→Fr:=fun j=>lwF SC CL m Bv (.v x5) (.v x6) (.v (.dict (dct (cq pl ht) rs))) (.dict (dct (fun x=>vals (hh x)) ks)) (.v .undef) (.v x4) j
 let j1:V→V→Nat→V:=fun x y=>upd (upd j 15 x) 16 y
 obtain ⟨x,y,h1⟩:=comp_told (R:=sem (PN (k+1)) 0 1 1000 36) (lo:=0) (G:=fun x y=>G (j1 x y)) (cond:=lwT) (pl:=pl) (ht:=ht) (fun _ _ _ _=>rfl) rs (fun r h=>by obtain ⟨a,b,c⟩:=hr r h;exact lw_told a b c hCL hks) .undef .undef
 have i1:bZ (sem (PN (k+1)) 0 1 1000 36) (.values (.var 7)) (lwF SC CL m Bv (.v x5) (.v x6) (.dict (dct (cq pl ht) rs)) (.dict (dct (fun x=>vals (hh x)) ks)) (.v .undef) (.v x4) j)=some (rs.map (cq pl ht),G j):=by
  have:(dct (cq pl ht) rs).map (·.2)=rs.map (cq pl ht):=by unfold dct;rw[List.map_map];rfl
  rw[← this];rfl
 have c1:=b8 (cw (n:=36) (t:=.tup [.var 15,.var 16]) i1 h1)
 have hcmp:(sem (PN (k+1)) 0 1 1000 38).ev (.cmp .ne (.comp (.tup [.var 15,.var 16]) (.values (.var 7)) (some lwT) (.var 15)) (.list [])) (lwF SC CL m Bv (.v x5) (.v x6) (.dict (dct (cq pl ht) rs)) (.dict (dct (fun x=>vals (hh x)) ks)) (.v .undef) (.v x4) j)=some (.v (.bool false),G (j1 .undef .undef)):=
  cmp_run (n:=37) (x:=.list []) (y:=.list []) (ac c1 rfl) rfl rfl
 exact⟨j1 .undef .undef,ak (iff_run (n:=38) (evB_run hcmp) rfl) rfl⟩
structure OrdOK (c:Cd) (w:List Rw) (pl:Nat→Nat) (ht:Nat→Int):Prop where
 good:Good c w pl ht
 h:∀ r,Reach w r→∀ o gs,w[r]?=some (o,gs)→(tk o:Int)≤ht r∧ht r≤100
 perm:((noJ c).map (·.1)).Perm (w.map (·.1))
 jok:JOK c
theorem lw_turn{c:Cd}{w:List Rw}{pl:Nat→Nat}{ht:Nat→Int}{ord:List V}{T:List (Int×V)}{cell1:Nat}{x6 x7:V}{j:Nat→V}(b sh:Bool)(Y:OrdOK c w pl ht)(Wk:WOK w)(h1:V.item (.list CL) (.int 1)=some (.int cell1))(hsh:decide (cell1 % 2=1)=sh)
  (hu:PN (k+8) 41 [.v (.list Bv),.v (.list ord),.v (.bool sh)]=some (unitO c (ah c.length),.v .undef)) (hCL:CL.length≤5000) (hT:T.length≤5000) (hw:w.length<64):
  ∃ (rs:List Nat) (hh:Nat→Nat) (tk:List Nat) (j':Nat→V),exs (sem (PN (k+8)) 0 1 1000 39) lwB (lwF SC CL m Bv (.v (.list ord)) (.v x6) (.v x7) (tO b T) (.v .undef) (wO b (c4 w)) j)=some (.next,lwF SC CL m Bv (.v (.list ord)) (.v (inV c)) (.v (.dict (dct (cq pl ht) rs))) (.dict (dct (fun x=>vals (hh x)) tk)) (.v .undef) (.v (.list (c4 w))) j')∧rs.Nodup∧(∀ r,r∈rs↔Reach w r)∧tk.length≤5000:=by
 have hcl:=Y.good.lay.cl
 obtain ⟨rs,hf,I⟩:=found_ok (k:=k+6) Y.good.lay
 have F:=flow_ok Y.good Wk Y.h
 obtain ⟨tk,ht2,J⟩:=stacks_ok (ln:=ah c.length) (k:=k+4) F
 have hrs:∀ r,r∈rs↔Reach w r:=fun r=>⟨fun h=>I.reach r (.inl h),fun h=>by
  induction h with
  | zero=>exact I.zero.resolve_right fun h=>nomatch h
  | step _ hw hg ih=>exact(I.clos _ ih _ _ hw _ hg).resolve_right fun h=>nomatch h⟩
 have htk:=J.len
 have hrl:rs.length≤w.length:=by
  have:=fP I.nd (m:=w.length) fun r h=>by
   obtain ⟨o,gs,h2,_⟩:=Y.good.lay.row r ((hrs r).mp h);exact ai h2
  lia
 have A:=lw_A (k:=k+7) (SC:=SC) (CL:=CL) (m:=m) (Bv:=Bv) (W:=c4 w) (c:=c) (ord:=ord) (ln:=ah c.length) (D:=dct (cq pl ht) rs) (T:=T) (x6:=x6) (x7:=x7) (j:=j) b sh h1 hsh hu hf hCL (by rw[encW_len];lia) (by lia) (by rw[zeros_len];lia) (by rw[cI];lia) hT
 obtain ⟨j1,Bq⟩:=lw_B (k:=k+7) (SC:=SC) (CL:=CL) (m:=m) (Bv:=Bv) (w5:=.v (.list ord)) (c:=c) (w:=w) (ln:=ah c.length) (o7:=.dict (dct (cq pl ht) rs)) (o8:=tO b T) (j:=j) Y.perm hw hcl
 have Cq:=lw_C (k:=k+7) (SC:=SC) (CL:=CL) (m:=m) (Bv:=Bv) (w5:=.v (.list ord)) (c:=c) (ln:=ah c.length) (o7:=.dict (dct (cq pl ht) rs)) (o8:=tO b T) (Wo:=.v (.list (c4 w))) (j:=j1) ht2
 obtain ⟨j2,Dq⟩:=lw_D (k:=k+7) (SC:=SC) (CL:=CL) (m:=m) (Bv:=Bv) (x4:=.list (c4 w)) (x5:=.list ord) (x6:=aw c (ah c.length)) (pl:=pl) (ht:=ht) (hh:=hgt c w pl ht) (ks:=tk) (rs:=rs) (j:=j1) (fun r hr=>by
  have hr:=(hrs r).mp hr
  obtain ⟨o,gs,h2,_⟩:=Y.good.lay.row r hr
  obtain ⟨h3,h4⟩:=Y.h r hr o gs h2
  have h5:=hgt_at Y.good Wk hr
  exact⟨J.done (fA Y.good.lay Wk hr),by rw[h5];lia,by rw[h5];lia⟩) hCL (by lia)
 exact⟨rs,hgt c w pl ht,tk,j2,b7 (a:=lwB.take 3) A (b7 (a:=(lwB.drop 3).take 1) Bq (b7 (a:=(lwB.drop 4).take 1) Cq Dq)),I.nd,hrs,by lia⟩
end
section
variable {Φ:Nat→List Own→Option (Own×Own)} {lo la W n:Nat}
theorem tup_run{es:List E}{fr fr1:Fr}{vs:List V}(h:evs (sem Φ lo la W n) es fr=some (vs,fr1))(h2:Nat.ble es.length 100=true):(sem Φ lo la W (n+1)).ev (.tup es) fr=some (.v (.tup vs),fr1):=
 (if_pos (Nat.le_trans (Nat.le_of_ble_eq_true h2) (by decide))).trans (ac h rfl)
theorem notNone_call{f:Nat}{es:List E}{fr fr1:Fr}{o:Own}(h:(sem Φ lo la W n).ev (.call f es) fr=some (o,fr1))(h2:o.frz.isNone=some false):(sem Φ lo la W (n+1)).ev (.notNone (.call f es)) fr=some (.v (.bool true),fr1):=
 ac (a:=evH (sem Φ lo la W n) (.call f es) fr) (ac (b8 h) rfl) (ac (x:=o.frz) rfl (ac h2 rfl))
theorem len_comp{t:T}{it:It}{c:Option E}{elt:E}{fr fr1:Fr}{l:List V}(h:(sem Φ lo la W n).ev (.comp t it c elt) fr=some (.list l,fr1))(h2:l.length≤5000):(sem Φ lo la W (n+1)).ev (.len (.comp t it c elt)) fr=some (.v (.int l.length),fr1):=
 ac (a:=evA (sem Φ lo la W n) (.comp t it c elt) fr) (ac (b8 h) rfl) (ac (x:=.list l) rfl (ac (len_list h2) rfl))
theorem len_var{i:Nat}{fr:Fr}{D:List (Int×V)}(h:fr[i]?=some (.v (.dict D)))(h2:D.length≤5000):(sem Φ lo la W (n+1)).ev (.len (.var i)) fr=some (.v (.int D.length),fr):=
 ac (a:=evA (sem Φ lo la W n) (.var i) fr) (ac h rfl) (ac (x:=.dict D) (ac h rfl) (ac (if_pos (Nat.le_trans h2 (by decide))) rfl))
end
noncomputable def dfl:List Nat:=[1,5,42,109,200,3]
noncomputable def cellsOf(s:List Int):List Nat:=(s.take 6).map Int.natAbs++dfl.drop (s.take 6).length
theorem cells_len(s:List Int):(cellsOf s).length=6:=by
 unfold cellsOf
 rw[List.length_append,List.length_map,List.length_drop,List.length_take]
 show min 6 s.length+(6 - min 6 s.length)=6
 lia
theorem slice_six{l:List V}(h:l.length≤5000):V.slice (.list l) none (some 6)=some (.list (l.take 6)):=by
 refine slice_listE.trans ?_
 show (if l.length≤cap then some (Own.list ((l.take (d6 l.length 6)).drop 0)) else none)=_
 rw[if_pos (Nat.le_trans h (by decide)),List.drop_zero]
 unfold d6
 rw[if_neg (by decide)]
 by_cases h6:(l.length:Int)<6
 ·rw[if_pos h6,List.take_of_length_le (Nat.le_refl _),List.take_of_length_le (by lia)]
 ·rw[if_neg h6];rfl
theorem slice_dfl{n:Nat}(h:n≤6):V.slice (.list (ae dfl)) (some (n:Int)) none=some (.list (ae (dfl.drop n))):=by
 refine slice_listE.trans ?_
 show (if (ae dfl).length≤cap then some (Own.list (((ae dfl).take (ae dfl).length).drop (d6 (ae dfl).length (n:Int)))) else none)=_
 rw[if_pos (by decide),List.take_of_length_le (Nat.le_refl _)]
 unfold d6
 rw[if_neg (by lia),if_neg (by show ¬(6:Int)<n;lia),Int.toNat_natCast]
 unfold ae
 rw[List.map_drop]
theorem slice_mid{l:List V}{a b:Nat}(h:a≤b)(hb:b≤l.length)(hl:l.length≤5000):V.slice (.list l) (some (a:Int)) (some (b:Int))=some (.list ((l.take b).drop a)):=by
 refine slice_listE.trans ?_
 show (if l.length≤cap then some (Own.list ((l.take (d6 l.length (b:Int))).drop (d6 l.length (a:Int)))) else none)=_
 rw[if_pos (Nat.le_trans hl (by decide))]
 unfold d6
 rw[if_neg (by lia),if_neg (by lia),if_neg (by lia),if_neg (by lia),Int.toNat_natCast,Int.toNat_natCast]
section
variable {k:Nat}
noncomputable def l0F(SC:List V)(j:Nat→V):Fr:=[.v (.list SC),U,U,U,U,U,U,U,U,U,.v (j 10),U,U,U,U,U,U,U,U]
noncomputable def iVs(s:List Int):List V:=s.map .int
theorem l0_comp{SC:List V}(l:List Int):∀ (acc:List V) (j:Nat→V),acc.length+l.length≤100→∃ j',bt (sem (PN k) 0 1 1000 37) 0 (.var 10) none (.prim .abs (.var 10)) (iVs l) acc (l0F SC j)=some (acc++ae (l.map Int.natAbs),l0F SC j'):=by
 induction l with
 | nil=>intro acc j _;exact⟨j,by show some (acc,_)=some (acc++[],_);rw[List.append_nil]⟩
 | cons x l ih=>
  intro acc j h
  rw[List.length_cons] at h
  obtain ⟨j',h1⟩:=ih (acc++[.int (x.natAbs:Nat)]) (upd j 10 (.int x)) (by rw[aM];lia)
  have e:evV (sem (PN k) 0 1 1000 37) (.prim .abs (.var 10)) (l0F SC (upd j 10 (.int x)))=some (.int (x.natAbs:Nat),l0F SC (upd j 10 (.int x))):=rfl
  refine⟨j',(cZ (fr1:=l0F SC (upd j 10 (.int x))) rfl e (by lia) h1).trans ?_⟩
  rw[List.append_assoc];rfl
noncomputable abbrev lw0:E:=.bin .add (.comp (.var 10) (.val (.slice (.var 0) none (some (.const (.int 6))))) none (.prim .abs (.var 10))) (.slice (.list [.const (.int 1),.const (.int 5),.const (.int 42),.const (.int 109),.const (.int 200),.const (.int 3)]) (some (.len (.slice (.var 0) none (some (.const (.int 6)))))) none)
theorem lw_cells{s:List Int}(hs:s.length≤63):(sem (PN k) 0 1 1000 39).ev lw0 (l0F (iVs s) fun _=>.undef)=some (.list (ae (cellsOf s)),l0F (iVs s) fun _=>.undef):=by
 have hsl:(iVs s).length=s.length:=List.length_map ..
 have ht:(iVs s).take 6=iVs (s.take 6):=by unfold iVs;rw[List.map_take]
 have htl:(s.take 6).length≤6:=by rw[List.length_take];lia
 have hss:V.slice (.list (iVs s)) none (some 6)=some (.list (iVs (s.take 6)++[])):=by rw[slice_six (by lia),ht,List.append_nil]
 have hl:V.len (.list (iVs (s.take 6)++[]))=some (s.take 6).length:=by rw[List.append_nil];unfold iVs;rw[len_list (by rw[List.length_map];lia),List.length_map]
 have hd:V.slice (.list (ae dfl)) (some ((s.take 6).length:Int)) none=some (.list (ae (dfl.drop (s.take 6).length)++[])):=by rw[slice_dfl htl,List.append_nil]
 let σ:=mkσ [.list (iVs s)] [(s.take 6).length] [iVs (s.take 6),ae (dfl.drop (s.take 6).length)] [] [] ⟨a8,trivial⟩ ⟨by show (List.map _ _).length≤5000;rw[List.length_map];lia,by show (ae _).length≤5000;rw[au,List.length_drop];exact Nat.le_trans (Nat.sub_le ..) (by decide),trivial⟩ trivial trivial
 let cs:SV:=.list none [.int 1,.int 5,.int 42,.int 109,.int 200,.int 3]
 have H:FA (PN k) σ { slice:=[(.a 0,.undef,.int 6,.list (some 0) []),(cs,.i 0,.undef,.list (some 1) [])],len:=[(.list (some 0) [],.i 0)] }:=
  { slice:=⟨⟨_,_,rfl,rfl,hss⟩,⟨_,_,rfl,rfl,hd⟩,trivial⟩,len:=⟨⟨_,hl,rfl⟩,trivial⟩ }
 let f0:SFr:=[.v (.a 0),.v .undef,.v .undef,.v .undef,.v .undef,.v .undef,.v .undef,.v .undef,.v .undef,.v .undef,.v .undef,.v .undef,.v .undef,.v .undef,.v .undef,.v .undef,.v .undef,.v .undef,.v .undef]
 have e1:=bu (lo:=0) (la:=1) (W:=1000) H (n:=37) (e:=.slice (.var 0) none (some (.const (.int 6)))) (fr:=f0) (o:=.list (some 0) []) (fr':=f0) (by kernel_rfl)
 replace e1:evV (sem (PN k) 0 1 1000 37) (.slice (.var 0) none (some (.const (.int 6)))) (l0F (iVs s) fun _=>.undef)=some (.list (iVs (s.take 6)++[]),l0F (iVs s) fun _=>.undef):=e1
 rw[List.append_nil] at e1
 have e2:=bu (lo:=0) (la:=1) (W:=1000) H (n:=38) (e:=.slice (.list [.const (.int 1),.const (.int 5),.const (.int 42),.const (.int 109),.const (.int 200),.const (.int 3)]) (some (.len (.slice (.var 0) none (some (.const (.int 6)))))) none) (fr:=f0) (o:=.list (some 1) []) (fr':=f0) (by kernel_rfl)
 replace e2:evV (sem (PN k) 0 1 1000 38) (.slice (.list [.const (.int 1),.const (.int 5),.const (.int 42),.const (.int 109),.const (.int 200),.const (.int 3)]) (some (.len (.slice (.var 0) none (some (.const (.int 6)))))) none) (l0F (iVs s) fun _=>.undef)=some (.list (ae (dfl.drop (s.take 6).length)++[]),l0F (iVs s) fun _=>.undef):=e2
 rw[List.append_nil] at e2
 obtain ⟨j',h1⟩:=l0_comp (k:=k) (SC:=iVs s) (s.take 6) [] (fun _=>.undef) (by rw[List.length_nil];lia)
 rw[List.nil_append] at h1
 have hit:bZ (sem (PN k) 0 1 1000 37) (.val (.slice (.var 0) none (some (.const (.int 6))))) (l0F (iVs s) fun _=>.undef)=some (iVs (s.take 6),l0F (iVs s) fun _=>.undef):=ac e1 rfl
 have hc:=b8 (cw (n:=37) (t:=.var 10) (fr2:=l0F (iVs s) j') hit h1)
 have hadd:bH .add (.list (ae ((s.take 6).map Int.natAbs))) (.list (ae (dfl.drop (s.take 6).length)))=some (.list (ae (cellsOf s))):=by
  refine add_listE.trans ?_
  show (if (ae _).length+(ae _).length≤cap then some (Own.list (ae _++ae _)) else none)=_
  rw[if_pos (by rw[au,au,List.length_map,List.length_drop];have:dfl.length - (s.take 6).length≤6:=Nat.sub_le 6 _;unfold cap;lia)]
  unfold cellsOf ae
  rw[List.map_append]
 exact bin_run (n:=38) hc e2 hadd
theorem m_four{c0 m:Nat}(hm:m=2+c0 % 3):m≤4:=hm▸Nat.add_le_add_left (Nat.le_of_lt_succ (Nat.mod_lt c0 (by decide))) 2
theorem min_m{c0 m n:Nat}(h:n=6)(hm:m=2+c0 % 3):min (2+m) n - 2=m:=by
 rw[Nat.min_eq_left (h▸Nat.add_le_add_left (m_four hm) 2),Nat.add_sub_cancel_left]
theorem lw_start{s:List Int}{m:Nat}{bs:List Nat}{Bv W:List V}{c0:Nat}(h0:(cellsOf s)[0]?=some c0)(hm:m=2+c0 % 3)(hbs:bs=((cellsOf s).take (2+m)).drop 2)(hB:PN (k+1) 38 [.v (.list (ae bs))]=some (.list Bv,.v .undef))(hW:PN (k+1) 39 [.v (.list Bv)]=some (.list W,.v .undef))(hBl:Bv.length≤5000)(hWl:W.length≤5000):
  exs (sem (PN (k+1)) 0 1 1000 40) ((f_law.body.drop 1).take 3) ((l0F (iVs s) fun _=>.undef).set 1 (.list (ae (cellsOf s))))=some (.next,lwF (iVs s) (ae (cellsOf s)) m Bv U U U U U (.list W) fun _=>.undef):=by
 have hcl:=cells_len s
 have hnl:(ae (cellsOf s)).length=6:=by rw[au,hcl]
 have hm4:m≤4:=m_four hm
 let CL:=ae (cellsOf s)
 have hCL:CL.length=6:=hnl
 have i0:V.item (.list (CL++[])) (.int 0)=some (.int c0):=by rw[List.append_nil];exact item_list (by unfold CL ae;rw[List.getElem?_map,h0];rfl) (by lia)
 have hsl:V.slice (.list (CL++[])) (some ((2:Nat):Int)) (some ((2+m:Nat):Int))=some (.list (ae bs++[])):=by
  rw[List.append_nil,List.append_nil,slice_mid (by lia) (by lia) (by lia),hbs]
  unfold CL ae
  rw[List.map_drop,List.map_take]
 have hbl:(ae bs).length≤5000:=by rw[au,hbs,List.length_drop,List.length_take,min_m hcl hm];exact Nat.le_trans hm4 (by decide)
 have hB':PN (k+1) 38 [.v (.list (ae bs++[]))]=some (.list (Bv++[]),.v .undef):=by rw[List.append_nil,List.append_nil];exact hB
 have hW':PN (k+1) 39 [.v (.list (Bv++[]))]=some (.list (W++[]),.v .undef):=by rw[List.append_nil,List.append_nil];exact hW
 let σ:=mkσ [.list (iVs s)] [c0,(c0 % 3:Nat),m,(2+m:Nat)] [CL,ae bs,Bv,W] [] [] ⟨a8,trivial⟩ ⟨by show (ae (cellsOf s)).length≤5000;lia,hbl,hBl,hWl,trivial⟩ trivial trivial
 have a1:bH .add (.int 2) (.int (c0 % 3:Nat))=some (.v (.int m)):=by rw[hm];show some (Own.v (.int (2+((c0 % 3:Nat):Int))))=_;rw[Int.natCast_add];rfl
 have a2:bH .add (.int 2) (.int m)=some (.v (.int (2+m:Nat))):=by show some (Own.v (.int (2+(m:Int))))=_;rw[Int.natCast_add];rfl
 have H:FA (PN (k+1)) σ { item:=[(.list (some 0) [],.int 0,.i 0)],bin:=[(.mod,.i 0,.int 3,.v (.i 1)),(.add,.int 2,.i 1,.v (.i 2)),(.add,.int 2,.i 2,.v (.i 3))],slice:=[(.list (some 0) [],.int 2,.i 3,.list (some 1) [])],call:=[(38,[.list (some 1) []],.list (some 2) []),(39,[.list (some 2) []],.list (some 3) [])] }:=
  { item:=⟨⟨i0,aL⟩,trivial⟩,bin:=⟨mod_int (b:=3) (by decide) (by decide),a1,a2,trivial⟩,slice:=⟨⟨_,_,rfl,rfl,hsl⟩,trivial⟩,call:=⟨⟨_,hB'⟩,⟨_,hW'⟩,trivial⟩ }
 let uu:List SO:=[.v .undef,.v .undef,.v .undef,.v .undef,.v .undef,.v .undef,.v .undef,.v .undef,.v .undef,.v .undef,.v .undef,.v .undef,.v .undef,.v .undef]
 have e:=ag (lo:=0) (la:=1) (W:=1000) H (n:=40) (b:=(f_law.body.drop 1).take 3) (fr:=[.v (.a 0),.list (some 0) [],.v .undef,.v .undef,.v .undef]++uu) (f:=.next) (fr':=[.v (.a 0),.list (some 0) [],.v (.i 2),.v (.list (some 2) []),.list (some 3) []]++uu) (by kernel_rfl)
 have e1:am σ ([.v (.a 0),.list (some 0) [],.v .undef,.v .undef,.v .undef]++uu)=(l0F (iVs s) fun _=>.undef).set 1 (.list (ae (cellsOf s))):=by
  show (l0F (iVs s) fun _=>.undef).set 1 (.list (CL++[]))=_
  rw[List.append_nil]
 have e2:am σ ([.v (.a 0),.list (some 0) [],.v (.i 2),.v (.list (some 2) []),.list (some 3) []]++uu)=lwF (iVs s) (ae (cellsOf s)) m Bv U U U U U (.list W) fun _=>.undef:=by
  show lwF (iVs s) (CL++[]) m (Bv++[]) U U U U U (.list (W++[])) (fun _=>.undef)=_
  rw[List.append_nil,List.append_nil,List.append_nil]
 rw[e1,e2] at e;exact e
end
theorem goal_two{b:Bk}(F:BlkF b):b.2.length≤2:=by
 have h2:=F.two
 rcases F.last (b.1.length - 1) _ (List.getElem?_eq_getElem (by lia)) (by lia) with ⟨h,_⟩ | ⟨g,h,_⟩ | ⟨g,g',h,_⟩ <;> rw[h]
 ·exact Nat.zero_le _
 ·exact Nat.le_succ _
 ·exact Nat.le_refl _
theorem lens_sum6{B:List Bk}(h:∀ b∈B,b.1.length≤6):(bT B).sum≤6*B.length:=by
 induction B with
 | nil=>exact Nat.le_refl _
 | cons b B ih=>
  have h1:=h b (List.mem_cons_self ..)
  have h2:=ih fun x hx=>h x (List.mem_cons_of_mem _ hx)
  show b.1.length+(bT B).sum≤_
  rw[List.length_cons];lia
theorem bsok{B:List Bk}(Y:BOK B):BsOK B:=⟨Y.pos,Y.le,fun b hb=>⟨fun e=>(by have:=(Y.f b hb).two;rw[e] at this;exact absurd this (by decide)),Nat.le_trans (Y.f b hb).six (by decide),goal_two (Y.f b hb),Y.g b hb⟩⟩
theorem putok{B:List Bk}(Y:BOK B):∀ b∈B,PutOK b:=fun b hb=>⟨Nat.le_trans (Y.f b hb).six (by decide),goal_two (Y.f b hb),fun x hx=>by have:=Y.g b hb x hx;have:=Y.le;lia,fun o ho h=>by
 obtain ⟨a,ha,e⟩:=List.mem_iff_getElem.mp hb
 have hb2:Bf B a=b:=by have:=(br ha).2;rw[List.getElem?_eq_getElem ha,e] at this;exact(Option.some.inj this).symm
 rw[← hb2] at ho ⊢
 exact(opJ_goal Y ha ho h).1⟩
theorem ord_ook{B:List Bk}{O:List Nat}(h:O.Perm (List.range B.length)):OOK B O:=⟨h.nodup_iff.mpr List.nodup_range,fun a=>by rw[h.mem_iff,List.mem_range]⟩
theorem ordok{B:List Bk}{O:List Nat}(sh:Bool)(Y:BOK B)(h:OOK B O):OrdOK (cd B sh O) (aX B) (plO B sh O) (htO B):=⟨good_ok Y h,fun r hr o gs hw=>heights Y hr o gs hw,ops_perm Y h,jok_ok Y h⟩
section
variable {k:Nat} {SC CL:List V} {m:Nat} {Bv:List V}
theorem lw_orders{W O:List V}{c1:Nat}(h1:V.item (.list CL) (.int 1)=some (.int c1))(hO:PN (k+1) 40 [.v (.int (c1 / 2:Nat)),.v (.int m)]=some (.list O,.v .undef))(hm:m≤50)(hCL:CL.length≤5000)(hW:W.length≤5000):
  bZ (sem (PN (k+1)) 0 1 1000 39) (.val (.tup [.lrange (.var 2),.call 40 [.bin .fdiv (.sub (.var 1) (.const (.int 1))) (.const (.int 2)),.var 2]])) (lwF SC CL m Bv U U U U U (.list W) fun _=>.undef)=some ([.list (ae (List.range m)),.list O],lwF SC CL m Bv U U U U U (.list W) fun _=>.undef):=by
 let F1:=lwF SC CL m Bv U U U U U (.list W) fun _=>.undef
 have e1:=lrange_run (Φ:=PN (k+1)) (lo:=0) (la:=1) (W:=1000) (n:=37) (e:=.var 2) (fr:=F1) (fr1:=F1) (m:=m) rfl (by lia)
 let σ:=mkσ [.list SC,.list Bv] [m,c1,(c1 / 2:Nat)] [CL,W] [] [] ⟨a8,a8,trivial⟩ ⟨hCL,hW,trivial⟩ trivial trivial
 have h1':V.item (.list (CL++[])) (.int 1)=some (.int c1):=by rw[List.append_nil];exact h1
 have H:FA (PN (k+1)) σ { item:=[(.list (some 0) [],.int 1,.i 1)],bin:=[(.fdiv,.i 1,.int 2,.v (.i 2))] }:={ item:=⟨⟨h1',aL⟩,trivial⟩,bin:=⟨gg (b:=2) (by decide) (by decide),trivial⟩ }
 let uu:List SO:=[.v .undef,.v .undef,.v .undef,.v .undef,.v .undef,.v .undef,.v .undef,.v .undef,.v .undef,.v .undef,.v .undef,.v .undef,.v .undef,.v .undef]
 let f0:SFr:=[.v (.a 0),.list (some 0) [],.v (.i 0),.v (.a 1),.list (some 1) []]++uu
 have e2:=bu (lo:=0) (la:=1) (W:=1000) H (n:=37) (e:=.bin .fdiv (.sub (.var 1) (.const (.int 1))) (.const (.int 2))) (fr:=f0) (o:=.i 2) (fr':=f0) (by kernel_rfl)
 have e3:am σ f0=F1:=by
  show lwF SC (CL++[]) m Bv U U U U U (.list (W++[])) (fun _=>.undef)=_
  rw[List.append_nil,List.append_nil]
 rw[e3] at e2
 have e4:evs (sem (PN (k+1)) 0 1 1000 37) [.bin .fdiv (.sub (.var 1) (.const (.int 1))) (.const (.int 2)),.var 2] F1=some ([.int (c1 / 2:Nat),.int m],F1):=ac e2 rfl
 have e5:=b8 (bR (n:=37) (f:=40) e4 hO)
 have e6:evs (sem (PN (k+1)) 0 1 1000 38) [.lrange (.var 2),.call 40 [.bin .fdiv (.sub (.var 1) (.const (.int 1))) (.const (.int 2)),.var 2]] F1=some ([.list (ae (List.range m)),.list O],F1):=ac (b8 e1) (ac (ac e5 rfl) rfl)
 exact ac (b8 (tup_run (n:=38) e6 rfl)) rfl
theorem lw_short{cf:Cd}{c:Cd}{ln:List V}{co li:O1}{x5 x7 x4:V}{o8:Own}{j:Nat→V}(h1:PN (k+1) 36 [.v (aw c ln)]=some (bP co li (.list []),.v .undef))(h2:(bP co li (.list [])).frz=aw c ln)(h3:PN (k+1) 26 [.v (aw c ln)]=some (outO cf,.v .undef)):
  (sem (PN (k+1)) 0 1 1000 40).ex (.asg (.t (.var 9)) (.call 26 [.call 36 [.var 6]])) (lwF SC CL m Bv (.v x5) (.v (aw c ln)) (.v x7) o8 U (.v x4) j)=some (.next,lwF SC CL m Bv (.v x5) (.v (aw c ln)) (.v x7) o8 (outO cf) (.v x4) j):=by
 let F1:=lwF SC CL m Bv (.v x5) (.v (aw c ln)) (.v x7) o8 U (.v x4) j
 have e1:=b8 (bR (Φ:=PN (k+1)) (lo:=0) (la:=1) (W:=1000) (n:=37) (f:=36) (es:=[.var 6]) (fr:=F1) (fr1:=F1) (vs:=[aw c ln]) rfl h1)
 have e2:evs (sem (PN (k+1)) 0 1 1000 38) [.call 36 [.var 6]] F1=some ([aw c ln],F1):=by rw[h2] at e1;exact ac e1 rfl
 exact dm (n:=39) (i:=9) (bR (n:=38) (f:=26) e2 h3) rfl
theorem lw_end{cf:Cd}{D D':List (Int×V)}{x5 x6:V}{o8:Own}{w:List V}{j:Nat→V}(h1:PN (k+1) 43 [.v (.list (af cf)),.v (.list w)]=some (.dict D',.v .undef))(h2:(noJ cf).length=D.length)(hD:D.length≤5000)(hc:cf.length≤5000):
  ∃ fr,(sem (PN (k+1)) 0 1 1000 40).ex (.ret (.and [.notNone (.call 43 [.attr (.var 9) 3,.var 4]),.cmp .eq (.len (.comp (.tup [.var 17,.var 18]) (.val (.attr (.var 9) 3)) (some (.cmp .ne (.var 17) (.const (.int 58)))) (.var 17))) (.len (.var 7))])) (lwF SC CL m Bv (.v x5) (.v x6) (.v (.dict D)) o8 (outO cf) (.v (.list w)) j)=some (.ret (.v (.bool true)),fr):=by
 let o9:Own:=bP (.v (.list (af cf))) (.list (ah cf.length)) (.list [])
 let G:(Nat→V)→Fr:=fun j=>lwF SC CL m Bv (.v x5) (.v x6) (.v (.dict D)) o8 o9 (.v (.list w)) j
 have e1:evB (sem (PN (k+1)) 0 1 1000 38) (.notNone (.call 43 [.attr (.var 9) 3,.var 4])) (lwF SC CL m Bv (.v x5) (.v x6) (.v (.dict D)) o8 (outO cf) (.v (.list w)) j)=some (true,G j):=
  evB_run (notNone_call (n:=37) (bR (n:=36) (vs:=[.list (af cf),.list w]) (fr1:=G j) rfl h1) rfl)
 let j1:V→V→Nat→V:=fun x y=>upd (upd j 17 x) 18 y
 obtain ⟨x,y,h3⟩:=comp_noJ (R:=sem (PN (k+1)) 0 1 1000 35) (lo:=0) (i:=17) (j:=18) (G:=fun x y=>G (j1 x y)) (fun _ _ _ _=>rfl) (fun _ _=>rfl) (fun _ _=>rfl) cf [] .undef .undef (by rw[List.length_nil];lia)
 have i1:bZ (sem (PN (k+1)) 0 1 1000 35) (.val (.attr (.var 9) 3)) (G j)=some (af cf,G j):=rfl
 have c1:=cw (n:=35) (t:=.tup [.var 17,.var 18]) i1 h3
 rw[List.nil_append] at c1
 have hl:(ae ((noJ cf).map (·.1))).length=D.length:=by rw[au,List.length_map,h2]
 have l1:=b8 (len_comp (n:=36) c1 (by lia))
 rw[hl] at l1
 have l2:=b8 (len_var (Φ:=PN (k+1)) (lo:=0) (la:=1) (W:=1000) (n:=36) (i:=7) (fr:=G (j1 .undef .undef)) (D:=D) rfl hD)
 have e2:evB (sem (PN (k+1)) 0 1 1000 38) (.cmp .eq (.len (.comp (.tup [.var 17,.var 18]) (.val (.attr (.var 9) 3)) (some (.cmp .ne (.var 17) (.const (.int 58)))) (.var 17))) (.len (.var 7))) (G j)=some (true,G (j1 .undef .undef)):=
  evB_run (cmp_run (n:=37) (x:=.int D.length) (y:=.int D.length) (ac l1 rfl) (ac l2 rfl) ((eq_int (a:=D.length) (b:=D.length)).trans (congrArg some (decide_eq_true rfl))))
 exact⟨_,ret_and (n:=39) (and_run (n:=38) (and_yes e1 (and_yes e2 rfl)))⟩
end
theorem law_ok{s:List Int}(hs:s.length≤63)(k:Nat):∃ X,PN (k+9) 44 [.v (.list (iVs s))]=some (.v (.bool true),X):=by
 have hcl:=cells_len s
 have g0:(cellsOf s)[0]?=some (cellsOf s)[0]:=List.getElem?_eq_getElem (by lia)
 have g1:(cellsOf s)[1]?=some (cellsOf s)[1]:=List.getElem?_eq_getElem (by lia)
 generalize (cellsOf s)[0]=c0 at g0
 generalize (cellsOf s)[1]=c1 at g1
 obtain ⟨m,hm⟩:∃ m,m=2+c0 % 3:=⟨_,rfl⟩
 have hm4:m≤4:=m_four hm
 obtain ⟨bs,hbs⟩:∃ bs,bs=((cellsOf s).take (2+m)).drop 2:=⟨_,rfl⟩
 have hbl:bs.length=m:=by rw[hbs,List.length_drop,List.length_take,min_m hcl hm]
 have Y:=blocks_bok (cells:=bs) (by lia) (by lia)
 have hB:=blocks_ok (k:=k+7) (cells:=bs) (by lia) (by lia)
 rw[hbl] at Y hB
 generalize hBd:dw m 0 bs=B at Y hB
 have hBl:B.length=m:=by rw[← hBd,gk,hbl]
 have hW:=ways_ok (k:=k+7) (bsok Y)
 have hWl:=way_len Y
 have hsum:=lens_sum fun b hb=>Nat.le_trans (Y.f b hb).six (by decide:6≤20)
 have hw64:(aX B).length<64:=by
  have:=lens_sum6 fun b hb=>(Y.f b hb).six
  lia
 have Wk:=ways_wok Y
 obtain ⟨O,hO,hOp⟩:=order_ok (k:=k+7) (num:=c1 / 2) (m:=m) (by lia)
 obtain ⟨sh,hsh⟩:∃ sh,decide (c1 % 2=1)=sh:=⟨_,rfl⟩
 have o1:OOK B (List.range m):=ord_ook (by rw[hBl])
 have o2:OOK B O:=ord_ook (by rw[hBl];exact hOp)
 have put:∀ {o:List Nat},OOK B o→PN (k+8) 41 [.v (.list (B.map aT)),.v (.list (ae o)),.v (.bool sh)]=some (unitO (cd B sh o) (ah (cd B sh o).length),.v .undef):=fun {o} ho=>
  put_okL (k:=k+2) (by lia) (putok Y) (fun a h=>(ho.m a).mp h) (by rw[perm_len ho.nd ho.m];lia) (rows_ok Y ho)
 let CL:=ae (cellsOf s)
 have hCL:CL.length≤5000:=by show (ae _).length≤_;rw[au];lia
 have i1:V.item (.list CL) (.int 1)=some (.int c1):=item_list (i:=1) (by unfold CL ae;rw[List.getElem?_map,g1];rfl) hCL
 have hWle:(c4 (aX B)).length≤5000:=by rw[encW_len];lia
 have s0:=dm (n:=39) (i:=1) (lw_cells (k:=k+8) hs) rfl
 have s1:=lw_start (k:=k+7) (m:=m) (bs:=bs) g0 hm hbs hB hW (by rw[List.length_map];lia) hWle
 have s2:=lw_orders (k:=k+7) (SC:=iVs s) (CL:=CL) (m:=m) (Bv:=B.map aT) (W:=c4 (aX B)) i1 hO (by lia) hCL hWle
 obtain ⟨rs1,hh1,tk1,j1,T1,nd1,hr1,hk1⟩:=lw_turn (k:=k) (SC:=iVs s) (CL:=CL) (m:=m) (Bv:=B.map aT) (ord:=ae (List.range m)) (T:=[]) (x6:=.undef) (x7:=.undef) (j:=fun _=>.undef) true sh (ordok sh Y o1) Wk i1 hsh (put o1) hCL (Nat.zero_le _) hw64
 obtain ⟨rs,hh,tk,j2,T2,nd2,hr2,hk2⟩:=lw_turn (k:=k) (SC:=iVs s) (CL:=CL) (m:=m) (Bv:=B.map aT) (ord:=ae O) (T:=dct (fun x=>vals (hh1 x)) tk1) (x6:=inV (cd B sh (List.range m))) (x7:=.dict (dct (cq (plO B sh (List.range m)) (htO B)) rs1)) (j:=j1) false sh (ordok sh Y o2) Wk i1 hsh (put o2) hCL (by rw[cI];exact hk1) hw64
 have G2:=(ordok sh Y o2).good
 have hcl2:=G2.lay.cl
 obtain ⟨cf,pl',hcu,Gf,hnj⟩:=clean_unit_ok (k:=k) G2 Wk nd2 hr2
 have hth:=thread_unit_ok (k:=k) (ordok sh Y o2).jok (by lia)
 obtain ⟨rs',hff,_⟩:=found_ok (k:=k+6) Gf.lay
 have s4:=lw_short (k:=k+7) (SC:=iVs s) (CL:=CL) (m:=m) (Bv:=B.map aT) (cf:=cf) (c:=cd B sh O) (ln:=ah (cd B sh O).length) (x5:=.list (ae O)) (x7:=.dict (dct (cq (plO B sh O) (htO B)) rs)) (x4:=.list (c4 (aX B))) (o8:=.dict (dct (fun x=>vals (hh x)) tk)) (j:=j2) hth rfl hcu
 have hrl:rs.length≤(aX B).length:=by
  have:=fP nd2 (m:=(aX B).length) fun r h=>by
   obtain ⟨o,gs,h2,_⟩:=G2.lay.row r ((hr2 r).mp h);exact ai h2
  lia
 obtain ⟨fr,s5⟩:=lw_end (k:=k+7) (SC:=iVs s) (CL:=CL) (m:=m) (Bv:=B.map aT) (cf:=cf) (D:=dct (cq (plO B sh O) (htO B)) rs) (x5:=.list (ae O)) (x6:=inV (cd B sh O)) (o8:=.dict (dct (fun x=>vals (hh x)) tk)) (w:=c4 (aX B)) (j:=j2) hff (by rw[cI];exact hnj) (by rw[cI];lia) (by have:=Gf.lay.cl;lia)
 have s3:(sem (PN (k+8)) 0 1 1000 40).ex (.forr (.var 5) (.val (.tup [.lrange (.var 2),.call 40 [.bin .fdiv (.sub (.var 1) (.const (.int 1))) (.const (.int 2)),.var 2]])) lwB) (lwF (iVs s) CL m (B.map aT) U U U U U (.list (c4 (aX B))) fun _=>.undef)=_:=
  cu (n:=39) s2 (aS (fr1:=lwF (iVs s) CL m (B.map aT) (.v (.list (ae (List.range m)))) U U U U (.list (c4 (aX B))) fun _=>.undef) rfl T1
   (aS (fr1:=lwF (iVs s) CL m (B.map aT) (.v (.list (ae O))) (.v (inV (cd B sh (List.range m)))) (.v (.dict (dct (cq (plO B sh (List.range m)) (htO B)) rs1))) (.dict (dct (fun x=>vals (hh1 x)) tk1)) U (.v (.list (c4 (aX B)))) j1) rfl T2 rfl))
 rw[ao (fn:=f_law) rfl (by decide)]
 exact⟨_,aq (fn:=f_law) (la:=1) (args:=[.v (.list (iVs s))]) rfl (ak s0 (b7 (a:=(f_law.body.drop 1).take 3) s1 (ak s3 (ak s4 (aW s5)))))⟩
end Mine
set_option maxRecDepth 100000
namespace Mine
open PySem PySem.W
noncomputable abbrev pw:Program:=PySem.Challenge.pw_sz0082_01
noncomputable def topB:List Stmt:=behindTheImports pw
noncomputable def cC:Env:={ scope:=pw.main.scope,locals:=mainNs,globals:=mainNs,cells:=[],code:=.ref 13,frame:=some 14 }
noncomputable def cN:Code:=.body topB cC
noncomputable abbrev eF:Pos:=⟨0,0,0,0⟩
noncomputable def preT(w:World)(os:OsState):Option (Shared×Thread):=topGo treeTable pw w 11 (some (.ref 6)) 12 ⟨boot_heap w.params,Array.mk [],boot_drawn,boot_toks,os⟩ (topStub pw)
noncomputable def eE(w:World)(os:OsState):Shared:=match preT w os with
 | some r=>r.1
 | none=>{}
noncomputable def treeIns(l:List Obj):BT×Nat:=l.foldl (fun p o=>(p.1.ins p.2 o,p.2+1)) (.nil,0)
noncomputable def insOk:List Obj→BT×Nat→Bool
 | [],_=>true
 | o::l,p=>((p.1.ins p.2 o).get p.2).isSome&&insOk l (p.1.ins p.2 o,p.2+1)
theorem ins_abs(life:Life):∀ (l:List Obj) (p:BT×Nat) (m:List Obj),absHeap p.1 p.2 life=⟨m.toArray,life⟩→insOk l p=true→absHeap (l.foldl (fun p o=>(p.1.ins p.2 o,p.2+1)) p).1 (l.foldl (fun p o=>(p.1.ins p.2 o,p.2+1)) p).2 life=⟨(m++l).toArray,life⟩
 | [],p,m,h,_=>by simpa using h
 | o::l,p,m,h,ok=>by
  simp only[insOk,Bool.and_eq_true] at ok
  rw[List.foldl_cons]
  have:=ins_abs life l (p.1.ins p.2 o,p.2+1) (m++[o]) ?_ ok.2
  ·simpa using this
  ·show absHeap (p.1.ins p.2 o) (p.2+1) life=_
   rw[absHeap_ins ok.1,h]
   simp [Heap.push]
noncomputable def startT(w:World)(os:OsState):SharedT:=
 ⟨(treeIns (eE w os).heap.objs.toList).1,(treeIns (eE w os).heap.objs.toList).2,(eE w os).heap.life,(eE w os).gens,(eE w os).drawn,(eE w os).toks,(eE w os).os⟩
theorem start_abs(w:World)(os:OsState)(h:insOk (eE w os).heap.objs.toList (.nil,0)=true):(startT w os).abs=eE w os:=by
 have:=ins_abs (eE w os).heap.life _ _ [] (by rfl) h
 unfold startT SharedT.abs treeIns
 dsimp only
 rw[this]
 rfl
theorem pre_ok(w:World):(fun os=>((preT w os).map (·.2),insOk (eE w os).heap.objs.toList (.nil,0)))=fun os=>(some (⟨denote treeTable cN,cN,eF,[topFrame eF]⟩:Thread),true):=by kernel_rfl
noncomputable def yS(s:String)(t:Nat):Value:=.str (Str.ofString s) t
noncomputable def tuO(xs:List Value):Obj:={ cls:=.type "tuple",data:=.seq xs.toArray 0 }
noncomputable def liO(xs:List Value):Obj:={ cls:=.type "list",data:=.seq xs.toArray 0 }
noncomputable def flO(c:Value)(xs:List Value):Obj:={ cls:=c,data:=.fields xs.toArray }
noncomputable def diO(es:List DictEntry)(n:Nat):Obj:={ cls:=.type "dict",data:=.dict es.toArray n }
noncomputable def tkS(l:List Str)(t:Nat):List Value:=(l.zipIdx t).map fun p=>.str p.1 p.2
noncomputable def cutF(t:Nat):Value:=yS "/claim/cut.py" t
noncomputable def i0(i:Nat):Value:=.int i 0
noncomputable def defP:Stmt→Str×Arguments×List Stmt×Scope×Nat×Nat
 | .FunctionDef n a b _ _ _ sc _ _ p=>(n,a,b,sc,p.line,p.col)
 | .ClassDef n _ _ b _ _ sc _ _ _ p=>(n,⟨[],[],none,[],[],none,[]⟩,b,sc,p.line,p.col)
 | _=>(Str.empty,⟨[],[],none,[],[],none,[]⟩,[],⟨.function,[],false,false,[]⟩,0,0)
structure TS where
 b:Nat
 t:Nat
 mod:Value
 objs:List Obj
 ents:List DictEntry
 pl:List Value
section
variable (w:World) (B:List Stmt)
noncomputable def entS(k:Str)(t:Nat)(v:Value):DictEntry:=⟨hashStr w k,.str k t,v⟩
noncomputable def eG(k:String)(t:Nat)(v:Value):DictEntry:=entS w (Str.ofString k) t v
noncomputable def codeT(n q:Str)(t line argc flags b:Nat)(fn:Bool)(v1 v2 v3:Value)(k:Nat):Obj:=
 flO (.type "code") [.str n t,.str q (t+1),cutF (t+2),i0 line,i0 argc,i0 0,i0 0,i0 flags,.ref b,.bool fn,i0 181,.ref (b+1),.none,v1,v2,v3,i0 (t+3+k),i0 line,cutF (t+4+k)]
noncomputable def defS(pre:Str→Str)(s:TS)(st:Stmt):TS:=
 let x:=defP st
 let q:=pre x.1
 let d:=!x.2.1.defaults.isEmpty
 let b:=if d then s.b+1 else s.b
 let fd:FuncData:={ name:=x.1,qualname:=q,params:=x.2.1,body:=.stmts x.2.2.1,scope:=x.2.2.2.1,globals:=0,closure:=[],defaults:=.none,kwdefaults:=.none }
 let fo (c:Nat):Obj:={ cls:=.type "function",data:=.func { fd with globals:=3,defaults:=if d then .ref s.b else .none,pyModule:=s.mod,code:=.ref c } }
 let l0:=(if d then [tuO [.none]] else [])++[tuO [],flO .none []]
 match localNames x.2.1 x.2.2.2.1 (.stmts x.2.2.1) with
 | some (l,_)=>⟨b+7,s.t+l.length+6,s.mod,s.objs++(l0++[tuO (tkS l (s.t+3)),tuO [],{ cls:=.none,data:=.func fd },codeT x.1 q s.t x.2.2.2.2.1 x.2.1.args.length 3 b true (.ref (b+2)) (.ref (b+3)) (.ref (b+4)) l.length,fo (b+5)]),s.ents++[entS w x.1 (s.t+l.length+5) (.ref (b+6))],s.pl++[i0 x.2.2.2.2.1,i0 x.2.2.2.2.2,.ref (b+5)]⟩
 | none=>⟨b+5,s.t+6,s.mod,s.objs++(l0++[{ cls:=.none,data:=.func fd },codeT x.1 q s.t x.2.2.2.2.1 x.2.1.args.length 3 b true .none .none (.ref (b+2)) 0,fo (b+3)]),s.ents++[entS w x.1 (s.t+5) (.ref (b+4))],s.pl++[i0 x.2.2.2.2.1,i0 x.2.2.2.2.2,.ref (b+3)]⟩
noncomputable def clsS(sup:Option Value)(mro:List Value)(new:String)(stat:List String)(st:Stmt)(s:TS):TS:=
 let x:=defP st
 let n:=x.1
 let b:=s.b
 let t:=s.t+2
 let e0:=[eG w "__module__" (t+5) s.mod]
 let e2:=[eG w "__firstlineno__" (t+9) (.int x.2.2.2.2.1 (t+8))]
 let m:=x.2.2.1.foldl (defS w fun y=>⟨n.cps++#[46]++y.cps⟩) ⟨b+7,t+10,s.mod,[],[],[]⟩
 let k:=stat.length
 let es:=m.ents++[eG w "__static_attributes__" (m.t+k) (.ref m.b)]
 let c:=m.b+2
 let u:=m.t+k+1
 let dd:=sup.isNone
 let w0:=if dd then c+2 else c+1
 let v:=if dd then u+2 else u
 ⟨w0+3,if dd then v+5 else v+7,s.mod,s.objs++[tuO sup.toList,flO (.type "builtin_function_or_method") [.builtin "type.__prepare__",.type "type"],
  diO (e0++[eG w "__qualname__" (t+7) (.str n (t+6))]++e2++es) (es.length+3),tuO [],flO .none m.pl,
  codeT n n t x.2.2.2.2.1 0 0 (b+3) false .none .none .none 0,{ cls:=.type "frame",slots:=#[some (.ref (b+5)),some (.ref 3),some (.ref (b+2)),none,some s.mod,none,some (.ref 0)] }]++
  m.objs++[tuO (tkS (stat.map Str.ofString) m.t),
  diO (e0++e2++es++(if dd then [eG w "__dict__" (u+1) (.ref (c+1))] else [])++[eG w "__weakref__" (v+1) (.ref w0),eG w "__doc__" (v+2) .none]) (if dd then 4 else 3),
  { cls:=.type "type",data:=.cls { name:=n,bases:=[sup.getD (.type "object")],mro:=.ref c::mro,ns:=m.b+1,qualname:=n },slots:=#[if dd then none else some (.ref b),none,some (.str n s.t),some (.str n (t+6)),some (.builtin new),some (.bool true)] }]++
  (if dd then [flO (.type "getset_descriptor") [yS "__dict__" u,.ref c,.builtin "function.__dict__",.builtin "function.__dict__#set"]] else [])++
  [flO (.type "getset_descriptor") [yS "__weakref__" v,.ref c,.builtin "ExceptionGroup.__weakref__",.none],flO (.type "super") [.ref c,.ref c,.ref c],flO (.type "builtin_function_or_method") [.builtin "object.__init_subclass__",.ref c]],
  s.ents++[entS w n (if dd then v+4 else v+6) (.ref c)],s.pl++[i0 x.2.2.2.2.1,i0 x.2.2.2.2.2,.ref (b+5)]⟩
noncomputable def stA(i:Nat):Stmt:=(B[i]?).getD (.Pass ⟨0,0,0,0⟩)
noncomputable def dS(l:List Nat)(s:TS):TS:=l.foldl (fun s i=>defS w id s (stA B i)) s
noncomputable def mS(n:String)(s:TS):TS:={ s with t:=s.t+2,mod:=yS n s.t }
noncomputable def vS(n:Str)(k:Nat)(v:Value)(os:List Obj)(s:TS):TS:={ s with b:=s.b+os.length,t:=s.t+k+1,objs:=s.objs++os,ents:=s.ents++[entS w n (s.t+k) v] }
noncomputable def asgX(st:Stmt):Str×Expr:=(((sAsg st).bind fun p=>(one? p.1).bind fun e=>(dx e).map fun x=>(x,p.2))).getD (Str.empty,.Name Str.empty ⟨0,0,0,0⟩)
noncomputable def conV(e:Expr)(t:Nat):Value:=((xConst e).bind fun k=>((kInt k).map fun i=>Value.int i t).or ((kStr k).map fun s=>Value.str s t)).getD .none
noncomputable def itX(e:Expr):List Expr:=((xList e).or (xTup e)).getD []
noncomputable def iS(l:List Nat)(s:TS):TS:=l.foldl (fun s i=>let x:=asgX (stA B i);vS w x.1 1 (conV x.2 s.t) [] s) s
noncomputable def opS(s:TS):TS:=
 let x:=asgX (stA B 41)
 let l:=itX x.2
 vS w x.1 (4*l.length) (.ref (s.b+l.length)) ((l.zipIdx.map fun p=>tuO (((itX p.1).zipIdx (s.t+4*p.2)).map fun q=>conV q.1 q.2))++[liO ((List.range l.length).map fun j=>.ref (s.b+j))]) s
noncomputable def opV(s:TS)(j:Nat):Value:=((s.ents[j+1]?).map (·.val)).getD .none
noncomputable def liS(n:String)(l:List Nat)(s:TS):TS:=vS w (Str.ofString n) 0 (.ref s.b) [liO (l.map (opV s))] s
noncomputable def ngS(n:String)(i:Int)(s:TS):TS:=vS w (Str.ofString n) 2 (.int i (s.t+1)) [] s
noncomputable def ts0:TS:=⟨15,187,yS "__main__" 164,[],[],[]⟩
noncomputable def tsA:TS:=iS w B (List.range' 2 39) (mS "js.codes" (dS w B [0] ts0))
noncomputable def tsB:TS:=liS w "LAST_OPS" [22,27,28,36,38] (opS w B (tsA w B))
noncomputable def tsC:TS:=mS "js.assembler" (dS w B [45,46,47,48] (clsS w none [.type "object"] "object.__new__" ["arguments_place","captures","cell_count","code","consts","handlers","is_strict","lines","local_count","name","param_places","params","self_slot","units","uses_arguments"] (stA B 44)
 (clsS w (some (.type "Exception")) [.type "Exception",.type "BaseException",.type "object"] "Exception.__new__" ["pc","text"] (stA B 43) (tsB w B))))
noncomputable def tsD:TS:=clsS w none [.type "object"] "object.__new__" ["arguments_place","captures","cell_count","code","consts","handlers","is_strict","line","lines","local_count","name","param_places","params","places","self_slot","units","uses_arguments"] (stA B 50) (tsC w B)
noncomputable def tsE:TS:=ngS w "NO_VALUE" (-3) (ngS w "KEYS" (-2) (ngS w "VALUE" (-1) (mS "js.stackcheck" (dS w B [59,60,61,62,63,64] (mS "js.dead" (dS w B [53,54,55,56,57] (mS "js.relocate" (dS w B [51] (tsD w B)))))))))
noncomputable def kvO(l:List (Nat×Value×Value)):Obj:=diO (l.map fun p=>⟨hashInt p.1,p.2.1,p.2.2⟩) l.length
noncomputable def tsF:TS:=
 let s:=mS "js.threads" (dS w B [70,71,72,73,74,75,76,77] (liS w "QUIET_OPS" [0,1,2,3,4,5,6,7,8,9,10,37,11,12,13,14,15,16,17,18,19,20,21,22,23,24,25,26,27,29,30,31,32,35] (tsE w B)))
 let a:=opV s 25
 let b:=opV s 26
 let c:=opV s 23
 let d:=opV s 24
 let s:=vS w (Str.ofString "PLAIN_TEST") 2 (.ref s.b) [kvO [(61,a,c),(62,b,d)]] s
 vS w (Str.ofString "SAME_TESTS") 2 (.ref s.b) [kvO [(61,a,.ref (s.b+1)),(62,b,.ref (s.b+2))],tuO [c,a],tuO [d,b]] s
noncomputable def tsG:TS:=dS w B [87,88,89,90,91,92,93,94] (mS "law_sz0082_01" (dS w B [81,82,83,84,85] (tsF w B)))
noncomputable def obsT(base:List Obj)(s:TS):List Obj:=
 ((base.set 2 { cls:=.none,data:=.dict (if s.b<125 then [] else [eG w "type.__subclasses__.Exception.0" 643 (i0 125),eG w "type.__subclasses__.Exception.n" 644 (i0 1)]).toArray (if s.b<125 then 0 else 2) }).set 3
  (diO ([eG w "__name__" 165 s.mod,eG w "__doc__" 166 .none,eG w "__package__" 167 .none,eG w "__loader__" 168 (.builtin "__main__.__loader__#opaque"),eG w "__spec__" 169 .none,eG w "__annotations__" 170 (.ref 6),eG w "__builtins__" 171 (.ref 4),eG w "__file__" 173 (cutF 172),eG w "__cached__" 174 .none]++s.ents) (s.ents.length+9))).set 12
  (flO .none s.pl)++s.objs
end
theorem left_mine{p q:Program}{loose:List Str}{Xt:Shared→Bool}{α:Type}{Yf:Shared→α}{Ya:World→α}{N:Nat}{g0:Bool}{H₀:Params→Heap}{gs₀:Array GenState}{d₀:Drawn}{k₀:Nat}{m₀:Nat}{ann:Option Value}{M:Nat}
  (open_:∀ w:World,(fencedOpening treeTable p w N).map (fun s=>(s.heap,s.gens,s.drawn,s.toks))=some (H₀ w.params,gs₀,d₀,k₀))
  (size:∀ w:World,((H₀ w.params).isNs mainGlobals&&gs₀.size==0,(H₀ w.params).objs.size,(H₀ w.params).nsMap mainGlobals "__annotations__")=(true,m₀,ann))
  (run:∀ (w:World) (os:OsState),∃ s₁,topRun treeTable p w m₀ ann M ⟨H₀ w.params,gs₀,d₀,k₀,os⟩ (topStub p)=some s₁∧
   (staticsOk (importedModules p.main.body) (H₀ w.params) s₁.heap&&namesBound p s₁.heap&&gensDone s₁&&laidKept (H₀ w.params) s₁.heap)=true∧openSeen q loose (importedModules p.main.body) Xt g0 s₁=openGood q loose∧Yf s₁=Ya w) (le:Nat.ble M N=true):LeftO p q loose Xt Yf Ya N g0:=fun w=>by
 obtain ⟨⟨h,gs,d,k,os⟩,e,e'⟩:=Option.map_eq_some_iff.mp (open_ w)
 obtain ⟨rfl,rfl,rfl,rfl⟩:h=H₀ w.params∧gs=gs₀∧d=d₀∧k=k₀:=by simpa using e'
 obtain ⟨z1,z2,z3⟩:_∧_∧_:=by simpa only[Prod.mk.injEq] using size w
 obtain ⟨s₁,r,l1,l2,l3⟩:=run w os
 have r:=topRun_mono (N - M) _ _ _ _ r
 rw[show M+(N - M)=N by have:=Nat.le_of_ble_eq_true le;lia] at r
 have t:topFrom treeTable p w N ⟨H₀ w.params,gs,d,k,os⟩=some s₁:=by
  unfold topFrom
  dsimp only
  rw[z1,z2,z3,r]
  show (match staticsOk (importedModules p.main.body) (H₀ w.params) s₁.heap&&namesBound p s₁.heap&&gensDone s₁&&laidKept (H₀ w.params) s₁.heap with | true=>_ | false=>_)=_
  rw[l1]
 unfold openEnds
 rw[e]
 show (topFrom treeTable p w N _).map _=_
 rw[t]
 exact congrArg some (Prod.ext l2 l3)
noncomputable def looks(qv:Program)(loose:List Str)(chk:Heap→Bool)(w:World)(s:Shared):=
 (staticsOk (importedModules pw.main.body) (boot_heap w.params) s.heap&&namesBound pw s.heap&&gensDone s&&laidKept (boot_heap w.params) s.heap,openSeen qv loose (importedModules pw.main.body) (fun _=>true) true s,chk s.heap)
theorem looks_of{qv:Program}{loose:List Str}{chk:Heap→Bool}{w:World}{s:Shared}(h1:(staticsOk (importedModules pw.main.body) (boot_heap w.params) s.heap&&namesBound pw s.heap&&gensDone s&&laidKept (boot_heap w.params) s.heap)=true)
  (h2:openSeen qv loose (importedModules pw.main.body) (fun _=>true) true s=openGood qv loose) (h3:chk s.heap=true):looks qv loose chk w s=(true,openGood qv loose,true):=by unfold looks;rw[h1,h2,h3]
theorem block_ok{w:World}{s:Shared}:segRun treeTable pw w 11 (some (.ref 6)) 1 1 s (blockOf topB cC cN eF [topFrame eF])=some (.next,s,cN,eF):=rfl
theorem fin_ok{w:World}{s:Shared}{c:Code}{p:Pos}:topRun treeTable pw w 11 (some (.ref 6)) 3 s ⟨doneF .next,c,p,[topFrame eF]⟩=some s:=rfl
noncomputable def stT(w:World)(os:OsState)(s:TS):SharedT:=⟨(treeIns (obsT w (eE w os).heap.objs.toList s)).1,s.b,(eE w os).heap.life,(eE w os).gens,(eE w os).drawn,s.t,(eE w os).os⟩
noncomputable def Seg(a k:Nat)(S S':World→OsState→SharedT)(w:World):Prop:=∀ os pos,∃ p',segRunT treeTable pw w 11 (some (.ref 6)) 1 1000 (S w os) (piecesOf ((topB.drop a).take k) cC cN pos [topFrame eF])=some (.next,S' w os,cN,p')
theorem eM{w:World}{a k:Nat}{S S':World→OsState→SharedT}(h:(fun os pos=>(Fast.tw10110043849684766642 Fast.tw14364793385576792824 pw w 11 (some (.ref 6)) 1 1000 (S w os) (piecesOf ((topB.drop a).take k) cC cN pos [topFrame eF])).map fun r=>(r.1,r.2.2.1,r.2.1))=fun os pos=>some (.next,cN,S' w os)):Seg a k S S' w:=fun os pos=>by
 have e:=congrFun (congrFun h os) pos
 rw[← Fast.te10110043849684766642,← Fast.te14364793385576792824] at e
 obtain ⟨⟨f,s,c,p⟩,e,e'⟩:=Option.map_eq_some_iff.mp e
 cases e'
 exact⟨p,e⟩
noncomputable def Rest(a N:Nat)(S:World→OsState→SharedT)(w:World)(os:OsState)(r:Shared):Prop:=∀ pos,topRun treeTable pw w 11 (some (.ref 6)) N (S w os).abs (restOf (topB.drop a) cC cN pos [topFrame eF])=some r
theorem Seg.then{w:World}{os:OsState}{a k N:Nat}{S S':World→OsState→SharedT}{r:Shared}(h:Seg a k S S' w)(next:Rest (a+k) N S' w os r):Rest a (1000+N) S w os r:=fun pos=>by
 obtain ⟨p',e⟩:=h os pos
 have q:=piece_app (rest:=topB.drop (a+k)) (segRun_of e) (next p')
 rwa [← List.drop_drop,List.take_append_drop] at q
theorem run_mine{qv:Program}{loose:List Str}{chk:Heap→Bool}{w:World}{os:OsState}{N:Nat}{s:Shared}(h:Rest 0 N startT w os s)(l:looks qv loose chk w s=(true,openGood qv loose,true)):
  ∃ s₁,topRun treeTable pw w 11 (some (.ref 6)) (12+(1+N)) ⟨boot_heap w.params,Array.mk [],boot_drawn,boot_toks,os⟩ (topStub pw)=some s₁∧
   (staticsOk (importedModules pw.main.body) (boot_heap w.params) s₁.heap&&namesBound pw s₁.heap&&gensDone s₁&&laidKept (boot_heap w.params) s₁.heap)=true∧openSeen qv loose (importedModules pw.main.body) (fun _=>true) true s₁=openGood qv loose∧chk s₁.heap=true:=by
 have hp:=congrFun (pre_ok w) os
 obtain ⟨p1,p2⟩:_∧_:=by simpa only[Prod.mk.injEq] using hp
 obtain ⟨⟨sp,tp⟩,q1,q2⟩:=Option.map_eq_some_iff.mp p1
 have hs:eE w os=sp:=by unfold eE;rw[q1]
 have sa:=start_abs w os p2
 rw[hs] at sa
 refine⟨s,?_,congrArg (·.1) l,congrArg (·.2.1) l,congrArg (·.2.2) l⟩
 dsimp only at q2
 subst q2
 exact go_top q1 (piece_block block_ok (sa▸h eF))
end Mine
namespace Mine
open PySem PySem.W PyProof.Rows
noncomputable def fD:List PySem.Str:=pw.boundNames.filter (· != "law")
noncomputable def qv:Program:=view pw [94]
noncomputable def YPm(w:World)(h:Heap):Prop:=∃ h1,cP h1=true∧∀ a o,h1.get? a=some o→h.get? a=some o
theorem well_ints{P:Params}{g:G}{W:Wd}{h:Heap}:∀ {ns:List Int} {vs:List Value},WellAll P h vs (ofPys (ns.map .int))→Reps g W h (iVs ns) vs
 | [],vs,x=>by cases x;exact .nil
 | i::ns,vs,x=>by
  cases x with
  | cons a b=>cases a with
   | int _ t=>exact .cons (.int i t) (well_ints b)
theorem chk_all{h:Heap}(a:chkGl h=true)(b:chkCls h=true)(c:chkFns h=true):cP h=true:=by unfold cP;rw[a,b,c];rfl
theorem law_fa{h1 h:Heap}{mg:PySem.Str→Option Value}{fa:Addr}(kp:∀ a o,h1.get? a=some o→h.get? a=some o)(hc:cP h1=true)(hn:h.Ns mainGlobals mg)(hm:mg "law"=some (.ref fa)):faOf h1 44=fa:=by
 unfold cP at hc
 have hg:=(and2 (and2 hc).1).1
 unfold chkGl at hg
 have hi:=(and2 (and2 hg).1).2
 have e:mg=h.nsMap mainGlobals:=hn.eq_nsMap
 have e2:h1.nsMap mainGlobals=h.nsMap mainGlobals:=by
  have:=(Heap.Ns.of_isNs hi).at' fun o e=>kp _ _ e
  exact this.eq_nsMap
 have e3:h1.nsMap mainGlobals "law"=some (.ref fa):=by rw[e2,← e];exact hm
 exact(congrArg addrOf e3:addrOf (h1.nsMap mainGlobals "law")=fa)
theorem call_law{w:World}{s:Shared}{mg mb:PySem.Str→Option Value}{fa lst:Addr}{vs:List Value}{ns:List Int}{Q:Value→Shared→Prop}{E:Value→Shared→Prop}{Pm:Params}(Y:YPm w s.heap)(hn:s.heap.Ns mainGlobals mg)(hb:s.heap.Ns builtinsNs mb)(hbb:∀ x:PySem.Str,x≠"__name__"→mb x=bootBuiltins x)(hl:s.heap.NoLimit)(hm:mg "law"=some (.ref fa))
  (ho:s.heap.get? lst=some { cls:=.type "list",data:=.seq vs.toArray }) (hw:WellAll Pm s.heap vs (ofPys (ns.map .int))) (h63:ns.length≤63)
  (q:∀ h' t',(∀ b o,s.heap.get? b=some o→h'.get? b=some o)→Q (.bool true) { s with heap:=h',toks:=t' }):
  wpAny (model pw w) callerA (call (.ref fa) [.ref lst]) Q E s:=by
 obtain ⟨h1,hc,kp⟩:=Y
 obtain ⟨X,hX⟩:=law_ok h63 0
 have F:=(funs_ok (prg:=pw) (w:=w) kp hc ⟨mb,hb,hbb⟩ hl 1000 40 9).ok 44
 have e:=law_fa kp hc hn hm
 have wf:WF s.heap (W00 s.heap) s.heap:=⟨fun a o h=>⟨fg h,h⟩,fun a h=>by
  unfold W00 at h
  split at h
  ·rename_i h2;exact Option.isSome_iff_exists.mp h2
  ·exact absurd rfl h⟩
 rw[← e]
 refine F.t _ _ hX (W00 s.heap) s [.ref lst] callerA Q E ⟨rfl,by decide,by decide⟩ wf rfl (fun i o h=>?_) fun W' h' t' y w' S r1 _=>?_
 ·cases i with
  | zero=>cases h;exact .inr ⟨_,rfl,.v (.list (fg ho) ho (well_ints hw))⟩
  | succ i=>cases i <;> cases h
 ·cases r1 with
  | v r=>cases r with
   | bool=>exact q h' t' fun b o ho=>(S b o ho (by unfold kept;rw[fg ho];trivial)).2
theorem ends_mine{c:ClaimW}{cl:PySem.Str→Option Addr}{mean:ExcName→Option Value}{args:List WData}{s:Shared}{h':Heap}{t':Nat}(hg:s.gens=#[])(hK:∀ b o,s.heap.get? b=some o→h'.get? b=some o)(hr:∀ cls,c.raises args cls=false)(hp:c.post args (.bool true) args=true):
  GoodWG c cl mean args s (.ok (.ret (.bool true))) { s with heap:=h',toks:=t' }:=
 GoodW.toG ⟨.inl ⟨.bool true,.bool true,[],rfl,hr,.bool true,hp,fun _=>⟨.nil,fun a h=>(nomatch h)⟩⟩,hK,rfl,hg⟩
theorem lawD_some:(defOf qv "law").isSome=true:=by kernel_rfl
noncomputable def lawD:DefRec×List (PySem.Str×Expr):=(defOf qv "law").get lawD_some
theorem lawD_def:defOf qv PySem.Challenge.rw_sz0082_01.row.name=some (lawD.1,lawD.2):=by kernel_rfl
theorem lawD_the:PySem.Challenge.rw_sz0082_01.row.prog.theDef PySem.Challenge.rw_sz0082_01.row.name=some (lawD.1.params,lawD.1.body,lawD.1.scope):=by kernel_rfl
theorem lawD_kw:kwWritten? lawD.1.params.kwonlyargs lawD.1.params.kw_defaults=some lawD.2:=by kernel_rfl
theorem law_hw:PySem.Challenge.rw_sz0082_01.row.toRowW.promised:=by w_witness2
theorem wellE{P:Params}{h:Heap}{lst:Addr}{ns:List Int}{G:Prop}(hW:Well P h (.ref lst) (ofPy (PyData.list (ns.map PyData.int))))(k:∀ vs,h.get? lst=some { cls:=.type "list",data:=.seq vs.toArray }→WellAll P h vs (ofPys (ns.map .int))→G):G:=by
 cases hW with
 | list ho hw=>exact k _ ho hw
theorem args_E{w:World}{s₀ s₁:Shared}{args:List WData}{vals:List Value}{as:List Addr}{G:Prop}(hpre:PySem.Challenge.rw_sz0082_01.row.claim.pre args=true)(hlay:WData.layableAll args=true)(hrd:ReadsAllW PySem.Challenge.rw_sz0082_01.row.records (classAt s₀.heap) s₁.heap vals args as)
  (hwl:WellAll w.params s₁.heap vals args) (hlo:∀ a∈as,(a==sysModules)=false) (k:∀ (ns:List Int) (lst:Addr),args=[ofPy (PyData.list (ns.map PyData.int))]→vals=[.ref lst]→Well w.params s₁.heap (.ref lst) (ofPy (PyData.list (ns.map PyData.int)))→¬ (63:Int)<ns.length→G):G:=by
 wrow_args hpre hlay hrd hwl hlo
 rename_i ns _ _ _ _ _ _ _ lst _ _ _ _ hW _ _ _ h63 _
 exact k ns lst rfl rfl hW h63
set_option maxHeartbeats 4000000 in
theorem law_mine(k1:PySem.Challenge.rw_sz0082_01.wellSaid=true)(left:LeftO pw qv fD (fun _=>true) (fun s=>cP s.heap) (fun _=>true) 9000)(ok:(chainsOk qv&&opensWell PySem.Challenge.rw_sz0082_01.row.prog&&(frees PySem.Challenge.rw_sz0082_01.row.toRowW&&PySem.Challenge.rw_sz0082_01.row.within.isEmpty))=true)(hb:PySem.Challenge.rw_sz0082_01.row.prog.bare):PySem.Challenge.rw_sz0082_01.Holds:=by
 refine holds_law k1 fun said=>?_
 refine holds_open (q:=qv) (loose:=fD) (Xt:=fun _=>true) (XP:=fun _ _=>True) (Yf:=fun s=>cP s.heap) (Ya:=fun _=>true) (YP:=YPm) (N:=9000) left (fun w s e=>⟨s.heap,e,fun _ _ h=>h⟩) (fun w h h' ⟨h1,a,b⟩ k=>⟨h1,a,fun x o e=>k _ _ (b x o e)⟩) (fun _ _=>trivial) (fun _ _ _ _ _=>trivial) lawD_def lawD_the lawD_kw (fun s _=>recFacts_of (by rfl)) rfl said ok hb law_hw ?call
 case call=>
  intro w s₀ s₁ mg mb G Y fa o pm cd doc dV kV ho hd hcd hD hmg hg args vals as hpre hlay hrd hwl hlo
  refine args_E hpre hlay hrd hwl hlo fun ns lst e1 e2 hW h63=>wellE hW fun vs ho hw=>?_
  rw[e1,e2]
  exact call_law Y G.T.g G.T.b G.T.builtins G.T.nolimit ((congrArg mg (defOf_name lawD_def)).symm.trans hmg) ho hw (Int.ofNat_le.mp (Int.not_lt.mp h63)) fun h' t' hK=>ends_mine hg hK (fun _=>rfl) (by wrow_post)
noncomputable abbrev stG(f:World→List Stmt→TS)(w:World)(os:OsState):SharedT:=stT w os (f w topB)
theorem runA(w:World):(fun os pos=>(Fast.tw10110043849684766642 Fast.tw14364793385576792824 pw w 11 (some (.ref 6)) 1 1000 (startT w os) (piecesOf ((topB.drop 0).take 41) cC cN pos [topFrame eF])).map fun r=>(r.1,r.2.2.1,r.2.1))=fun os pos=>some (.next,cN,stT w os (tsA w topB)):=by kernel_rfl
theorem segA(w:World):Seg 0 41 (startT) (stG tsA) w:=eM (runA w)
theorem runB(w:World):(fun os pos=>(Fast.tw10110043849684766642 Fast.tw14364793385576792824 pw w 11 (some (.ref 6)) 1 1000 (stT w os (tsA w topB)) (piecesOf ((topB.drop 41).take 2) cC cN pos [topFrame eF])).map fun r=>(r.1,r.2.2.1,r.2.1))=fun os pos=>some (.next,cN,stT w os (tsB w topB)):=by kernel_rfl
theorem segB(w:World):Seg 41 2 (stG tsA) (stG tsB) w:=eM (runB w)
theorem runC(w:World):(fun os pos=>(Fast.tw10110043849684766642 Fast.tw14364793385576792824 pw w 11 (some (.ref 6)) 1 1000 (stT w os (tsB w topB)) (piecesOf ((topB.drop 43).take 7) cC cN pos [topFrame eF])).map fun r=>(r.1,r.2.2.1,r.2.1))=fun os pos=>some (.next,cN,stT w os (tsC w topB)):=by kernel_rfl
theorem segC(w:World):Seg 43 7 (stG tsB) (stG tsC) w:=eM (runC w)
theorem runD(w:World):(fun os pos=>(Fast.tw10110043849684766642 Fast.tw14364793385576792824 pw w 11 (some (.ref 6)) 1 1000 (stT w os (tsC w topB)) (piecesOf ((topB.drop 50).take 1) cC cN pos [topFrame eF])).map fun r=>(r.1,r.2.2.1,r.2.1))=fun os pos=>some (.next,cN,stT w os (tsD w topB)):=by kernel_rfl
theorem segD(w:World):Seg 50 1 (stG tsC) (stG tsD) w:=eM (runD w)
theorem runE(w:World):(fun os pos=>(Fast.tw10110043849684766642 Fast.tw14364793385576792824 pw w 11 (some (.ref 6)) 1 1000 (stT w os (tsD w topB)) (piecesOf ((topB.drop 51).take 18) cC cN pos [topFrame eF])).map fun r=>(r.1,r.2.2.1,r.2.1))=fun os pos=>some (.next,cN,stT w os (tsE w topB)):=by kernel_rfl
theorem segE(w:World):Seg 51 18 (stG tsD) (stG tsE) w:=eM (runE w)
theorem runFfalse(w:World):(fun os pos=>(Fast.tw10110043849684766642 Fast.tw14364793385576792824 pw (w.withFollow "special-get-raises" false) 11 (some (.ref 6)) 1 1000 (stT (w.withFollow "special-get-raises" false) os (tsE (w.withFollow "special-get-raises" false) topB)) (piecesOf ((topB.drop 69).take 12) cC cN pos [topFrame eF])).map fun r=>(r.1,r.2.2.1,r.2.1))=fun os pos=>some (.next,cN,stT (w.withFollow "special-get-raises" false) os (tsF (w.withFollow "special-get-raises" false) topB)):=by kernel_rfl
theorem runFtrue(w:World):(fun os pos=>(Fast.tw10110043849684766642 Fast.tw14364793385576792824 pw (w.withFollow "special-get-raises" true) 11 (some (.ref 6)) 1 1000 (stT (w.withFollow "special-get-raises" true) os (tsE (w.withFollow "special-get-raises" true) topB)) (piecesOf ((topB.drop 69).take 12) cC cN pos [topFrame eF])).map fun r=>(r.1,r.2.2.1,r.2.1))=fun os pos=>some (.next,cN,stT (w.withFollow "special-get-raises" true) os (tsF (w.withFollow "special-get-raises" true) topB)):=by kernel_rfl
theorem segF(w:World):Seg 69 12 (stG tsE) (stG tsF) w:=byRow2 "special-get-raises" (P:=Seg 69 12 (stG tsE) (stG tsF)) (fun w=>eM (runFfalse w)) (fun w=>eM (runFtrue w)) w
theorem runG(w:World):(fun os pos=>(Fast.tw10110043849684766642 Fast.tw14364793385576792824 pw w 11 (some (.ref 6)) 1 1000 (stT w os (tsF w topB)) (piecesOf ((topB.drop 81).take 14) cC cN pos [topFrame eF])).map fun r=>(r.1,r.2.2.1,r.2.1))=fun os pos=>some (.next,cN,stT w os (tsG w topB)):=by kernel_rfl
theorem segG(w:World):Seg 81 14 (stG tsF) (stG tsG) w:=eM (runG w)
theorem look1(w:World):(fun os=>staticsOk (importedModules pw.main.body) (boot_heap w.params) (stT w os (tsG w topB)).abs.heap&&namesBound pw (stT w os (tsG w topB)).abs.heap&&gensDone (stT w os (tsG w topB)).abs&&laidKept (boot_heap w.params) (stT w os (tsG w topB)).abs.heap)=fun os=>true:=by kernel_rfl
theorem look2(w:World):(fun os=>openSeen qv fD (importedModules pw.main.body) (fun _=>true) true (stT w os (tsG w topB)).abs)=fun os=>openGood qv fD:=by kernel_rfl
theorem look3(w:World):(fun os=>chkGl (stT w os (tsG w topB)).abs.heap)=fun os=>true:=by kernel_rfl
theorem look4(w:World):(fun os=>chkCls (stT w os (tsG w topB)).abs.heap)=fun os=>true:=by kernel_rfl
theorem look5(w:World):(fun os=>chkFns (stT w os (tsG w topB)).abs.heap)=fun os=>true:=by kernel_rfl
theorem at_os{α:Type}{A:OsState→α}{b:α}(h:A=fun _=>b)(os:OsState):A os=b:=by rw[h]
theorem all_looks(w:World)(os:OsState):looks qv fD cP w (stG tsG w os).abs=(true,openGood qv fD,true):=
 looks_of (at_os (look1 w) os) (at_os (look2 w) os) (chk_all (at_os (look3 w) os) (at_os (look4 w) os) (at_os (look5 w) os))
theorem top_end:topB.drop 95=[]:=by kernel_rfl
theorem rest_ok(w:World)(os:OsState):Rest 0 7003 startT w os (stG tsG w os).abs:=
 (segA w).then (N:=6003) ((segB w).then (N:=5003) ((segC w).then (N:=4003) ((segD w).then (N:=3003) ((segE w).then (N:=2003) ((segF w).then (N:=1003) ((segG w).then (N:=3) fun pos=>by
  show topRun _ _ _ _ _ _ _ (restOf (topB.drop 95) _ _ _ _)=_
  rw[top_end];exact piece_nil fin_ok))))))
theorem size_ok(w:World):((boot_heap w.params).isNs mainGlobals&&(Array.mk []:Array GenState).size==0,(boot_heap w.params).objs.size,(boot_heap w.params).nsMap mainGlobals "__annotations__")=(true,11,some (.ref 6)):=by kernel_rfl
theorem left_ok:LeftO pw qv fD (fun _=>true) (fun s=>cP s.heap) (fun _=>true) 9000:=left_mine (boot_open (by rfl) (by rfl) fun _=>rfl) size_ok (fun w os=>run_mine (rest_ok w os) (all_looks w os)) rfl
theorem and_i{a b:Bool}(ha:a=true)(hb:b=true):(a&&b)=true:=by rw[ha,hb];rfl
set_option maxHeartbeats 4000000 in
theorem said_ok:PySem.Challenge.rw_sz0082_01.wellSaid=true:=by
 unfold OpenLaw.wellSaid OpenRow.wellSaid OpenRow.partSaid looksOpen
 repeat' with_reducible refine and_i ?_ ?_
 all_goals decide +kernel
end Mine
theorem PySem.Challenge.cw_sz0082_01_holds : PySem.Challenge.rw_sz0082_01.Holds :=
  Mine.law_mine Mine.said_ok Mine.left_ok (by decide +kernel) ⟨rfl, rfl, rfl, rfl, rfl, by decide +kernel⟩
