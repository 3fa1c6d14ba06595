import PyProof.Rows.All
import Wide.All
import OpenK.AllK
import Wide.FinOn
import Lean
import PySem.Challenge.RW_pq0807_01
open PySem PySem.W PyProof.Rows
set_option Elab.async false
set_option linter.unusedVariables false
set_option linter.unusedSimpArgs false
namespace Mine
inductive AV where
 | none
 | bool (b:Bool)
 | int (i:Int)
 | str (s:Str)
 | bytes (b:List UInt8)
 | ref (a:Nat)
 | tup (l:List AV)
 | inst (c:Nat) (fs:List AV)
inductive AO where
 | list (l:List AV)
 | dS (es:List (Str×AV))
 | dI (es:List (Int×AV))
 | dT (es:List (List Int×AV))
 | obj (c dx:Nat) (fs:List (Nat×AV))
 | own
abbrev St:=Nat->Option AO
abbrev M (α:Type):=(α->St->Prop)->(St->Prop)->St->Prop
abbrev Frame:=List (Option AV)
def put (σ:St) (a:Nat) (o:AO):St:=fun b=>if b=a then some o else σ b
def ret {α:Type} (a:α):M α:=fun Q _ σ=>Q a σ
def bnd {α β:Type} (p:M α) (f:α->M β):M β:=fun Q E σ=>p (fun a σ'=>f a Q E σ') E σ
def no {α:Type}:M α:=fun _ _ _=>False
def mk (o:AO):M AV:=fun Q _ σ=>∀ a,σ a=Option.none->Q (.ref a) (put σ a o)
def req {α:Type} (p:Prop) (m:M α):M α:=fun Q E σ=>p/\m Q E σ
def look {α:Type} (a:Nat) (f:AO->M α):M α:=fun Q E σ=>∃ o,σ a=some o/\f o Q E σ
def setA (a:Nat) (o:AO) (v:AV):M AV:=fun Q _ σ=>Q v (put σ a o)
inductive Bop where | add | sub | mul | mod | fdiv | pow
inductive Cop where | eq | ne | lt | le | gt | ge | is | isnot | isin | notin
mutual
inductive PE where
 | none
 | bool (b:Bool)
 | int (i:Int)
 | str (s:Str)
 | bytes (b:List UInt8)
 | loc (i:Nat)
 | glob (g:Nat)
 | bin (op:Bop) (a b:PE)
 | neg (a:PE)
 | not (a:PE)
 | cmp (op:Cop) (a b:PE)
 | cmp2 (o1 o2:Cop) (a b c:PE)
 | andor (isAnd:Bool) (l:PEs)
 | ite (c a b:PE)
 | call (f:Nat) (l:PEs)
 | new (c:Nat) (l:PEs)
 | bi (f:Nat) (a:PE)
 | isinst (a:PE) (t:Nat)
 | meth (m:Nat) (o:PE) (l:PEs)
 | own (f:Nat) (o:PE) (l:PEs)
 | attr (a:PE) (x:Nat)
 | item (a i:PE)
 | upto (a i:PE)
 | fro (a i:PE)
 | list (l:PEs)
 | tup (l:PEs)
 | dictS (ks:List Str) (vs:PEs)
 | dictI (ks:List Int) (vs:PEs)
 | comp (elt:PE) (t:List Nat) (it:PIt) (ifs:PEs)
 | comp2 (elt:PE) (t:List Nat) (it:PIt) (t2:List Nat) (it2:PIt) (ifs:PEs)
inductive PEs where
 | nil
 | cons (e:PE) (r:PEs)
inductive PIt where
 | seq (e:PE)
 | rev (e:PE)
 | enum (e:PE)
 | range (l:PEs)
end
inductive PT where
 | loc (i:Nat)
 | sub (a b:PE)
mutual
inductive PS where
 | expr (e:PE)
 | ret (e:PE)
 | asg (t:PT) (e:PE)
 | asgs (t:List PT) (e:PE)
 | setattr (a:PE) (x:Nat) (e:PE)
 | ite (c:PE) (t e:PSs)
 | whil (c:PE) (b:PSs)
 | whilE (c:PE) (b:PSs)
 | for_ (t:List Nat) (it:PIt) (b:PSs)
 | raise_ (e:PE)
 | try_ (b h:PSs)
 | brk
inductive PSs where
 | nil
 | cons (s:PS) (r:PSs)
end
def addM:AV->AV->M AV
 | .int i,.int j=>ret (.int (i+j))
 | .str s,.str t=>req (s.length+t.length<=sizeLine) (ret (.str (s++t)))
 | .tup l,.tup k=>req (l.length+k.length<=1000000) (ret (.tup (l++k)))
 | .ref a,.ref b=>look a fun x=>look b fun y=>match x,y with
  | .list l,.list k=>req (l.length+k.length<=1000000) (mk (.list (l++k)))
  | _,_=>no
 | _,_=>no
def binM:Bop->AV->AV->M AV
 | .add,a,b=>addM a b
 | .sub,.int i,.int j=>ret (.int (i - j))
 | .mul,.int i,.int j=>req (-(2 ^ 60) < j/\j < 2 ^ 60) (ret (.int (i * j)))
 | .mul,.ref a,.int n=>look a fun x=>match x with
  | .list l=>req (l.length * n.toNat<=1000000/\0<=n/\n < 2 ^ 60) (mk (.list (List.replicate n.toNat l).flatten))
  | _=>no
 | .mod,.int i,.int j=>req (0 < j) (ret (.int (i%j)))
 | .fdiv,.int i,.int j=>req (0 < j/\j < 2 ^ 60) (ret (.int (i / j)))
 | .pow,.int i,.int j=>req (0<=i/\i < 2 ^ 60/\j=3) (ret (.int (i ^ 3)))
 | _,_,_=>no
def truthM:AV->M Bool
 | .none=>ret false
 | .bool b=>ret b
 | .int i=>ret (i != 0)
 | .ref a=>look a fun x=>match x with
  | .list l=>req (l.length<=1000000) (ret (!l.isEmpty))
  | _=>no
 | _=>no
mutual
inductive Dat (σ:St):AV->PyData->Prop where
 | none:Dat σ .none .none
 | bool (b:Bool):Dat σ (.bool b) (.bool b)
 | int (i:Int):Dat σ (.int i) (.int i)
 | str (s:Str):Dat σ (.str s) (.str s)
 | tup {l ds}:Dats σ l ds->Dat σ (.tup l) (.tuple ds)
 | list {a l ds}:σ a=some (.list l)->Dats σ l ds->Dat σ (.ref a) (.list ds)
inductive Dats (σ:St):List AV->List PyData->Prop where
 | nil:Dats σ [] []
 | cons {v d l ds}:Dat σ v d->Dats σ l ds->Dats σ (v::l) (d::ds)
end
def eqM:AV->AV->M Bool
 | .int i,.int j=>ret (i==j)
 | .str s,.str t=>ret (s==t)
 | .ref a,.ref b=>fun Q _ σ=>∃ l k,σ a=some (.list l)/\σ b=some (.list k)/\
   ((l.length≠k.length/\Q false σ)\/(∃ d,Dat σ (.ref a) d/\Dat σ (.ref b) d/\SeqAt.shaped d=true/\Q true σ))
 | _,_=>no
def atKey {K:Type} [DecidableEq K] (es:List (K×AV)) (k:K):Option AV:=(es.find? (fun e=>decide (e.1=k))).map (·.2)
def allStr:List AV->Option (List Str)
 | []=>some []
 | .str s::r=>(allStr r).map (s::·)
 | _=>none
def allInt:List AV->Option (List Int)
 | []=>some []
 | .int s::r=>(allInt r).map (s::·)
 | _=>none
def inM:AV->AV->M Bool
 | .str s,.tup l=>match allStr l with | some ys=>ret (ys.any (· ==s)) | none=>no
 | .int s,.tup l=>match allInt l with | some ys=>ret (ys.any (· ==s)) | none=>no
 | .str s,.ref a=>look a fun x=>match x with
  | .dS es=>ret (atKey es s).isSome
  | _=>no
 | .int s,.ref a=>look a fun x=>match x with
  | .dI es=>ret (atKey es s).isSome
  | _=>no
 | _,_=>no
def isNone:AV->Bool
 | .none=>true
 | _=>false
def neg (p:M Bool):M Bool:=bnd p fun b=>ret (!b)
def cmpM:Cop->AV->AV->M Bool
 | .eq,a,b=>eqM a b
 | .ne,a,b=>neg (eqM a b)
 | .lt,.int i,.int j=>ret (decide (i < j))
 | .le,.int i,.int j=>ret (decide (i<=j))
 | .gt,.int i,.int j=>ret (decide (i >j))
 | .ge,.int i,.int j=>ret (decide (i>=j))
 | .is,a,.none=>ret (isNone a)
 | .isnot,a,.none=>ret (!isNone a)
 | .isin,a,b=>inM a b
 | .notin,a,b=>neg (inM a b)
 | _,_,_=>no
def putK {K:Type} [DecidableEq K] (es:List (K×AV)) (k:K) (v:AV):List (K×AV):=
 if es.any (fun e=>e.1=k) then es.map (fun e=>if e.1=k then (e.1,v) else e) else es++[(k,v)]
def itemM:AV->AV->M AV
 | .tup l,.int i=>req (0<=i/\i < 2 ^ 60) (match l[i.toNat]? with | some v=>ret v | none=>no)
 | .str s,.int i=>req (0<=i/\i < 2 ^ 60) (match s.cps[i.toNat]? with | some c=>ret (.str ⟨#[c]⟩) | none=>no)
 | .bytes s,.int i=>req (0<=i/\i < 2 ^ 60/\s.length<=1000000) (match s[i.toNat]? with | some c=>ret (.int c.toNat) | none=>no)
 | .ref a,.int i=>look a fun x=>match x with
  | .list l=>req (0<=i/\i < 2 ^ 60) (match l[i.toNat]? with | some v=>ret v | none=>no)
  | .dI es=>match atKey es i with | some v=>ret v | none=>no
  | _=>no
 | .ref a,.str s=>look a fun x=>match x with
  | .dS es=>match atKey es s with | some v=>ret v | none=>no
  | _=>no
 | _,_=>no
def setItemM:AV->AV->AV->M AV
 | .ref a,.int i,v=>look a fun x=>match x with
  | .list l=>req (0<=i/\i < 2 ^ 60/\i.toNat < l.length) (setA a (.list (l.set i.toNat v)) .none)
  | .dI es=>req (es.length<=1000000) (setA a (.dI (putK es i v)) .none)
  | _=>no
 | .ref a,.str s,v=>look a fun x=>match x with
  | .dS es=>req (es.length<=1000000) (setA a (.dS (putK es s v)) .none)
  | _=>no
 | _,_,_=>no
def uptoM:AV->AV->M AV
 | .ref a,.int i=>look a fun x=>match x with
  | .list l=>req (0<=i/\i < 2 ^ 60/\l.length<=2 ^ 20) (mk (.list (l.take i.toNat)))
  | _=>no
 | _,_=>no
def froM:AV->AV->M AV
 | .ref a,.int i=>look a fun x=>match x with
  | .list l=>req (0<=i/\i < 2 ^ 60/\l.length<=2 ^ 20) (mk (.list (l.drop i.toNat)))
  | _=>no
 | _,_=>no
def tkh (ks:List Int):Int:=reduceHash (Builtin.Tuple.tupleHashOf (ks.map hashInt))
def getM:AV->List AV->M AV
 | .ref a,[.str s]=>look a fun x=>match x with
  | .dS es=>ret ((atKey es s).getD .none)
  | _=>no
 | .ref a,[.str s,d]=>look a fun x=>match x with
  | .dS es=>ret ((atKey es s).getD d)
  | _=>no
 | .ref a,[.int s,d]=>look a fun x=>match x with
  | .dI es=>ret ((atKey es s).getD d)
  | _=>no
 | .ref a,[.tup k,d]=>look a fun x=>match x with
  | .dT es=>match allInt k with | some k=>ret ((atKey es k).getD d) | none=>no
  | _=>no
 | .ref a,[.none,d]=>look a fun x=>match x with
  | .dT es=>req ((es.all fun e=>tkh e.1 != 0xFCA86420)=true) (ret d)
  | _=>no
 | _,_=>no
def joinS (ys:List Str):Str:=ys.foldl (· ++·) Str.empty
def methM:Nat->AV->List AV->M AV
 | 0,o,l=>getM o l
 | 1,.ref a,[v]=>look a fun x=>match x with
  | .list l=>req (l.length<=1000000) (setA a (.list (l++[v])) .none)
  | _=>no
 | 2,.ref a,[.ref b]=>look a fun x=>look b fun y=>match x,y with
  | .list l,.list k=>req (a≠b/\l.length+k.length<=1000000) (setA a (.list (l++k)) .none)
  | _,_=>no
 | 3,.ref a,[.int i,v]=>look a fun x=>match x with
  | .list l=>req (i=0/\l.length<=1000000) (setA a (.list (v::l)) .none)
  | _=>no
 | 4,.ref a,[]=>look a fun x=>match x with
  | .list l=>req (l.length<=1000000) (match l.getLast? with | some v=>setA a (.list l.dropLast) v | none=>no)
  | _=>no
 | 4,.ref a,[.int i]=>look a fun x=>match x with
  | .list (v::l)=>req (i=0/\l.length<=1000000) (setA a (.list l) v)
  | _=>no
 | 5,.str s,[.ref a]=>look a fun x=>match x with
  | .list l=>(match allStr l with | some ys=>req (s=Str.empty/\(ys.map (·.length)).sum<=1000000) (ret (.str (joinS ys))) | none=>no)
  | _=>no
 | 6,.bytes b,[.bytes c]=>req (c=[254,255]/\(b=[111,119,110]\/b=[254,255,3,177]\/b=[])) (ret (.bool (b==[254,255,3,177])))
 | 7,.tup [.int a,.int b,.int d],[.int i]=>req (i=a\/i=b\/i=d) (ret (.int (if i=a then 0 else if i=b then 1 else 2)))
 | _,_,_=>no
def recvM:Nat->AV->M Unit
 | 0,.ref a=>look a fun x=>match x with | .dS _=>ret () | .dI _=>ret () | .dT _=>ret () | _=>no
 | 1,.ref a=>look a fun x=>match x with | .list _=>ret () | _=>no
 | 2,.ref a=>look a fun x=>match x with | .list _=>ret () | _=>no
 | 3,.ref a=>look a fun x=>match x with | .list _=>ret () | _=>no
 | 4,.ref a=>look a fun x=>match x with | .list _=>ret () | _=>no
 | 5,.str _=>ret ()
 | 6,.bytes _=>ret ()
 | 7,.tup _=>ret ()
 | _,_=>no
def noDup {K:Type} [DecidableEq K]:List K->Bool
 | []=>true
 | k::r=>!(r.any fun x=>decide (x=k))&&noDup r
def pairsI:List AV->Option (List (Int×AV))
 | []=>some []
 | .tup [.int i,v]::r=>(pairsI r).map ((i,v)::·)
 | _=>none
def pairsT:List AV->Option (List (List Int×AV))
 | []=>some []
 | .tup [.tup k,v]::r=>(match allInt k with | some k=>(pairsT r).map ((k,v)::·) | none=>none)
 | _=>none
def biM:Nat->AV->M AV
 | 0,.ref a=>look a fun x=>match x with
  | .list l=>req (l.length<=1000000) (ret (.int l.length))
  | .dI es=>req (es.length<=1000000) (ret (.int es.length))
  | _=>no
 | 0,.bytes b=>req (b.length<=1000000) (ret (.int b.length))
 | 1,.int i=>ret (.int i.natAbs)
 | 2,.int i=>ret (.int i)
 | 3,.int i=>req (0<=i/\i<=1114111) (ret (.str ⟨#[i.toNat]⟩))
 | 4,.ref a=>look a fun x=>match x with
  | .list l=>(match pairsI l with | some es=>req (noDup (es.map (·.1))=true/\es.length<=1000) (mk (.dI es)) | none=>no)
  | _=>no
 | 5,.ref a=>look a fun x=>match x with
  | .list l=>(match pairsT l with | some es=>req (noDup (es.map (·.1))=true/\es.length<=1000) (mk (.dT es)) | none=>no)
  | _=>no
 | 6,.ref a=>look a fun x=>match x with
  | .dS es=>req (es.length<=1000000) (mk (.dS es))
  | _=>no
 | 7,.ref a=>look a fun x=>match x with
  | .list l=>req (l.length<=1000000) (ret (.tup l))
  | _=>no
 | _,_=>no
def instM:AV->Nat->M Bool
 | .bool _,t=>ret (t==10||t==11)
 | .int _,t=>ret (t==11)
 | .inst c _,t=>req (c∈[0,1,2,3,4,5,6,7]) (ret (t==c))
 | .ref a,t=>look a fun x=>match x with
  | .list _=>ret (t==12)
  | .dS _=>ret (t==13)
  | .dI _=>ret (t==13)
  | _=>no
 | .none,_=>ret false
 | _,_=>no
def fieldsOf:Nat->List Nat
 | 0=>[0]
 | 1=>[1,2]
 | 2=>[3,1]
 | 3=>[4,5]
 | 4=>[6,7]
 | 5=>[6,3,8,9,10]
 | 6=>[6,3,11,8]
 | 7=>[12,13]
 | _=>[]
def fieldAt:List Nat->List AV->Nat->Option AV
 | f::fs,v::vs,x=>if f=x then some v else fieldAt fs vs x
 | _,_,_=>none
def attrM:AV->Nat->M AV
 | .inst c vs,x=>match fieldAt (fieldsOf c) vs x with | some v=>ret v | none=>no
 | _,_=>no
def newM:Nat->List AV->M AV
 | 0,[a]=>ret (.inst 0 [a])
 | 1,[a]=>ret (.inst 1 [a,.bool false])
 | 2,[a,b]=>ret (.inst 2 [a,b])
 | 3,[a,b]=>ret (.inst 3 [a,b])
 | 4,[a,b]=>ret (.inst 4 [a,b])
 | 5,[a,b,c,d,e]=>ret (.inst 5 [a,b,c,d,e])
 | 6,[a,b,c,d]=>ret (.inst 6 [a,b,c,d])
 | 7,[a,b]=>req (isNone a=false/\isNone b=false) (ret (.inst 7 [a,b]))
 | _,_=>no
def negM:AV->M AV
 | .int i=>ret (.int (-i))
 | _=>no
structure It where
 items:List AV
 ok:St->Prop
def rangeL (lo:Int):Nat->Int->List AV
 | 0,_=>[]
 | n+1,d=>.int lo::rangeL (lo+d) n d
def rangeM:List AV->M It
 | [.int n]=>req (-(2 ^ 60) < n/\n < 2 ^ 60) (ret ⟨rangeL 0 n.toNat 1,fun _=>True⟩)
 | [.int a,.int b,.int c]=>fun Q _ σ=>-(2 ^ 60) < a/\a < 2 ^ 60/\-(2 ^ 60) < b/\b < 2 ^ 60/\((c=-1/\Q ⟨rangeL a (a - b).toNat (-1),fun _=>True⟩ σ)\/(c=2/\Q ⟨rangeL a ((b - a+1) / 2).toNat 2,fun _=>True⟩ σ))
 | _=>no
def seqM:AV->M It
 | .tup l=>ret ⟨l,fun _=>True⟩
 | .bytes b=>ret ⟨b.map fun x=>.int x.toNat,fun _=>True⟩
 | .ref a=>look a fun x=>match x with
  | .list l=>ret ⟨l,fun σ=>σ a=some (.list l)⟩
  | _=>no
 | _=>no
def revM:AV->M It
 | .ref a=>look a fun x=>match x with
  | .list l=>ret ⟨l.reverse,fun σ=>σ a=some (.list l)⟩
  | _=>no
 | _=>no
def number (n:Nat):List AV->List AV
 | []=>[]
 | v::r=>.tup [.int n,v]::number (n+1) r
def enumM:AV->M It
 | .ref a=>look a fun x=>match x with
  | .list l=>ret ⟨number 0 l,fun σ=>σ a=some (.list l)⟩
  | _=>no
 | _=>no
def bindT (ρ:Frame):List Nat->AV->Option Frame
 | [i],v=>some (ρ.set i (some v))
 | is,.tup l=>if is.length=l.length then some ((is.zip l).foldl (fun r p=>r.set p.1 (some p.2)) ρ) else none
 | _,_=>none
def tgtM (ρ:Frame) (t:List Nat) (v:AV):M Frame:=match bindT ρ t v with | some r=>ret r | none=>no
inductive Fl where | next | brk | ret (v:AV)
def forM {α:Type} (ok:St->Prop) (stop:α->M Bool) (f:AV->α->M α):List AV->α->M α
 | [],a=>fun Q _ σ=>ok σ/\Q a σ
 | x::xs,a=>fun Q E σ=>ok σ/\bnd (f x a) (fun b=>bnd (stop b) fun s=>if s then ret b else forM ok stop f xs b) Q E σ
abbrev MB:=M AV×M Bool
def both (m:M AV):MB:=(m,bnd m truthM)
def ofB (m:M Bool):MB:=(bnd m fun b=>ret (.bool b),m)
def pushM (acc:List AV) (v:AV):M (List AV):=req (acc.length<=1000000) (ret (acc++[v]))
def compF (tg:List Nat) (ρ:Frame) (ifs:Frame->M Bool) (elt:Frame->M AV) (x:AV) (acc:List AV):M (List AV):=
 bnd (tgtM ρ tg x) fun ρ'=>bnd (ifs ρ') fun ok=>if ok then bnd (elt ρ') (pushM acc) else ret acc
def comp2F (tg:List Nat) (ρ:Frame) (it2:Frame->M It) (tg2:List Nat) (ifs:Frame->M Bool) (elt:Frame->M AV) (x:AV) (acc:List AV):M (List AV):=
 bnd (tgtM ρ tg x) fun ρ'=>bnd (it2 ρ') fun I=>forM I.ok (fun _=>ret false) (compF tg2 ρ' ifs elt) I.items acc
def calm {α:Type} (m:M α):M α:=fun Q _ σ=>m Q (fun _=>False) σ
section
variable (F N:Nat->List AV->M AV) (G:Nat->Option AV)
mutual
def ev:PE->Frame->MB
 | .none,_=>both (ret .none)
 | .bool b,_=>both (ret (.bool b))
 | .int i,_=>both (ret (.int i))
 | .str s,_=>both (ret (.str s))
 | .bytes b,_=>both (ret (.bytes b))
 | .loc i,ρ=>both (match ρ[i]? with | some (some v)=>ret v | _=>no)
 | .glob g,_=>both (match G g with | some v=>ret v | _=>no)
 | .bin op a b,ρ=>both (bnd (ev a ρ).1 fun x=>bnd (ev b ρ).1 fun y=>binM op x y)
 | .neg a,ρ=>both (bnd (ev a ρ).1 negM)
 | .not a,ρ=>(bnd (ev a ρ).1 fun x=>bnd (truthM x) fun t=>ret (.bool !t),neg (ev a ρ).2)
 | .cmp op a b,ρ=>ofB (bnd (ev a ρ).1 fun x=>bnd (ev b ρ).1 fun y=>cmpM op x y)
 | .cmp2 o1 o2 a b c,ρ=>(no,bnd (ev a ρ).1 fun x=>bnd (ev b ρ).1 fun y=>bnd (cmpM o1 x y) fun t=>if t then bnd (ev c ρ).1 fun z=>cmpM o2 y z else ret false)
 | .andor k l,ρ=>(evAnd k l ρ,evTs k l ρ)
 | .ite c a b,ρ=>(bnd (ev c ρ).2 fun t=>if t then (ev a ρ).1 else (ev b ρ).1,bnd (ev c ρ).2 fun t=>if t then (ev a ρ).2 else (ev b ρ).2)
 | .call f l,ρ=>both (bnd (evs l ρ) (F f))
 | .new c l,ρ=>both (bnd (evs l ρ) (N c))
 | .bi f a,ρ=>both (bnd (ev a ρ).1 (biM f))
 | .isinst a t,ρ=>both (bnd (ev a ρ).1 fun v=>bnd (instM v t) fun b=>ret (.bool b))
 | .meth m o l,ρ=>both (bnd (ev o ρ).1 fun v=>bnd (recvM m v) fun _=>bnd (evs l ρ) (methM m v))
 | .own f o l,ρ=>both (bnd (ev o ρ).1 fun v=>match v with | .inst 7 _=>bnd (evs l ρ) fun vs=>F f (v::vs) | _=>no)
 | .attr a x,ρ=>both (bnd (ev a ρ).1 fun v=>attrM v x)
 | .item a i,ρ=>both (bnd (ev a ρ).1 fun x=>bnd (ev i ρ).1 fun y=>itemM x y)
 | .upto a i,ρ=>both (bnd (ev a ρ).1 fun x=>bnd (ev i ρ).1 fun y=>uptoM x y)
 | .fro a i,ρ=>both (bnd (ev a ρ).1 fun x=>bnd (ev i ρ).1 fun y=>froM x y)
 | .list l,ρ=>both (bnd (evs l ρ) fun vs=>req (vs.length<=1000) (mk (.list vs)))
 | .tup l,ρ=>both (bnd (evs l ρ) fun vs=>req (vs.length<=1000) (ret (.tup vs)))
 | .dictS ks l,ρ=>both (bnd (evs l ρ) fun vs=>req (ks.length=vs.length) (mk (.dS (ks.zip vs))))
 | .dictI ks l,ρ=>both (bnd (evs l ρ) fun vs=>req (ks.length=vs.length) (mk (.dI (ks.zip vs))))
 | .comp elt t it ifs,ρ=>both (bnd (evIt it ρ) fun I=>bnd (calm (forM I.ok (fun _=>ret false) (compF t ρ (evTs true ifs) fun ρ'=>(ev elt ρ').1) I.items [])) fun vs=>mk (.list vs))
 | .comp2 elt t it t2 it2 ifs,ρ=>both (bnd (evIt it ρ) fun I=>bnd (calm (forM I.ok (fun _=>ret false) (comp2F t ρ (evIt it2) t2 (evTs true ifs) fun ρ'=>(ev elt ρ').1) I.items [])) fun vs=>mk (.list vs))
def evAnd (isAnd:Bool):PEs->Frame->M AV
 | .nil,_=>no
 | .cons e .nil,ρ=>(ev e ρ).1
 | .cons e r,ρ=>bnd (ev e ρ).1 fun v=>bnd (truthM v) fun t=>if t=isAnd then evAnd isAnd r ρ else ret v
def evTs (isAnd:Bool):PEs->Frame->M Bool
 | .nil,_=>ret isAnd
 | .cons e r,ρ=>bnd (ev e ρ).2 fun t=>if t=isAnd then evTs isAnd r ρ else ret t
def evs:PEs->Frame->M (List AV)
 | .nil,_=>ret []
 | .cons e r,ρ=>bnd (ev e ρ).1 fun v=>bnd (evs r ρ) fun vs=>ret (v::vs)
def evIt:PIt->Frame->M It
 | .seq e,ρ=>bnd (ev e ρ).1 seqM
 | .rev e,ρ=>bnd (ev e ρ).1 revM
 | .enum e,ρ=>bnd (ev e ρ).1 enumM
 | .range l,ρ=>bnd (evs l ρ) rangeM
end
def stopF (x:Fl×Frame):M Bool:=ret (match x.1 with | .next=>false | _=>true)
def endF (x:Fl×Frame):Fl×Frame:=(match x.1 with | .ret v=>.ret v | _=>.next,x.2)
def whileN (c:Frame->M Bool) (b:Frame->M (Fl×Frame)):Nat->Frame->M (Fl×Frame)
 | 0,_=>no
 | n+1,ρ=>bnd (c ρ) fun t=>if t then bnd (b ρ) fun x=>(match x.1 with | .next=>whileN c b n x.2 | _=>ret (endF x)) else ret (.next,ρ)
def putT (ρ:Frame) (v:AV):PT->M Frame
 | .loc i=>ret (ρ.set i (some v))
 | .sub a b=>bnd (ev F N G a ρ).1 fun x=>bnd (ev F N G b ρ).1 fun y=>bnd (setItemM x y v) fun _=>ret ρ
def putTs:List PT->List AV->Frame->M Frame
 | t::ts,v::vs,ρ=>bnd (putT F N G ρ v t) fun ρ'=>putTs ts vs ρ'
 | [],[],ρ=>ret ρ
 | _,_,_=>no
def setAttrM:AV->Nat->AV->M AV
 | .ref a,x,v=>look a fun o=>match o with
  | .obj c dx fs=>req ((fs.any fun p=>p.1==x)=false/\fs.length<=100) (setA a (.obj c dx (fs++[(x,v)])) .none)
  | _=>no
 | _,_,_=>no
mutual
def evS:PS->Frame->M (Fl×Frame)
 | .expr e,ρ=>bnd (ev F N G e ρ).1 fun _=>ret (.next,ρ)
 | .ret e,ρ=>bnd (ev F N G e ρ).1 fun v=>ret (.ret v,ρ)
 | .asg t e,ρ=>bnd (ev F N G e ρ).1 fun v=>bnd (putT F N G ρ v t) fun ρ'=>ret (.next,ρ')
 | .asgs ts e,ρ=>bnd (ev F N G e ρ).1 fun v=>match v with | .tup vs=>req (ts.length=vs.length) (bnd (putTs F N G ts vs ρ) fun ρ'=>ret (.next,ρ')) | _=>no
 | .setattr a x e,ρ=>bnd (ev F N G e ρ).1 fun v=>bnd (ev F N G a ρ).1 fun o=>bnd (setAttrM o x v) fun _=>ret (.next,ρ)
 | .ite c t e,ρ=>bnd (ev F N G c ρ).2 fun b=>if b then evSs t ρ else evSs e ρ
 | .whil c b,ρ=>calm fun Q E σ=>∃ n,whileN (fun ρ=>(ev F N G c ρ).2) (evSs b) n ρ Q E σ
 | .whilE c b,ρ=>fun Q E σ=>∃ n,whileN (fun ρ=>(ev F N G c ρ).2) (evSs b) n ρ Q E σ
 | .for_ t it b,ρ=>bnd (evIt F N G it ρ) fun I=>bnd (calm (forM I.ok stopF (fun v x=>bnd (tgtM x.2 t v) fun ρ'=>evSs b ρ') I.items (.next,ρ))) fun x=>ret (endF x)
 | .raise_ e,ρ=>bnd (ev F N G e ρ).1 fun v=>fun _ E σ=>(∃ s,v=.str s)/\E σ
 | .try_ b h,ρ=>fun Q E σ=>evSs b ρ Q (fun σ'=>evSs h ρ Q E σ') σ
 | .brk,ρ=>ret (.brk,ρ)
def evSs:PSs->Frame->M (Fl×Frame)
 | .nil,ρ=>ret (.next,ρ)
 | .cons s r,ρ=>bnd (evS s ρ) fun x=>(match x.1 with | .next=>evSs r x.2 | _=>ret x)
end
structure FD where
 np:Nat
 nl:Nat
 body:PSs
def runF (d:FD) (args:List AV):M AV:=fun Q E σ=>args.length=d.np/\
 bnd (evSs F N G d.body (args.map some++List.replicate (d.nl - d.np) Option.none)) (fun x=>ret (match x.1 with | .ret v=>v | _=>.none)) Q E σ
end
def attrName:Nat->Str
 | 0=>"text" | 1=>"octets" | 2=>"is_hex" | 3=>"head" | 4=>"number" | 5=>"generation" | 6=>"reference" | 7=>"fields"
 | 8=>"above" | 9=>"inherited" | 10=>"is_page" | 11=>"depth" | 12=>"table" | _=>"trailer"
def tupO (vs:Array Value) (n:Nat):Obj:={cls:=.type "tuple",data:=.seq vs n}
def listO (vs:Array Value) (n:Nat):Obj:={cls:=.type "list",data:=.seq vs n}
structure Cfg where
 prog:Program
 w:World
 K:Frag
 ca:Nat->Addr
 fa:Nat->Addr
 tf:Addr
 G:Nat->Option AV
section
variable (c:Cfg)
mutual
inductive Rv (D:Addr->Prop) (h:Heap):Value->AV->Prop where
 | none:Rv D h .none .none
 | bool (b:Bool):Rv D h (.bool b) (.bool b)
 | int (i:Int) (t:Tok):Rv D h (.int i t) (.int i)
 | str (s:Str) (t:Tok):Rv D h (.str s t) (.str s)
 | bytes (b:Array UInt8) (t:Tok):Rv D h (.bytes b t) (.bytes b.toList)
 | ref (a:Addr):Rv D h (.ref a) (.ref a)
 | tup {a vs n l}:D a->h.get? a=some (tupO vs n)->RvL D h vs.toList l->Rv D h (.ref a) (.tup l)
 | inst {x dx k es n fs}:D x->D dx->h.get? x=some (instObj (c.ca k) dx)->h.get? dx=some (dictOf es n)->RvE D h es (fieldsOf k) fs->Rv D h (.ref x) (.inst k fs)
inductive RvL (D:Addr->Prop) (h:Heap):List Value->List AV->Prop where
 | nil:RvL D h [] []
 | cons {v a vs l}:Rv D h v a->RvL D h vs l->RvL D h (v::vs) (a::l)
inductive RvE (D:Addr->Prop) (h:Heap):List DictEntry->List Nat->List AV->Prop where
 | nil:RvE D h [] [] []
 | cons {e t f a es fs l}:e.key=.str (attrName f) t->Rv D h e.val a->RvE D h es fs l->RvE D h (e::es) (f::fs) (a::l)
end
structure Fz (D D':Addr->Prop) (h h':Heap):Prop where
 sub:∀ a,D a->D' a
 get:∀ a,D a->h'.get? a=h.get? a
variable {c}
mutual
theorem Rv.mono {D D':Addr->Prop} {h h':Heap} (z:Fz D D' h h'):∀ {v a},Rv c D h v a->Rv c D' h' v a
 | _,_,.none=>.none
 | _,_,.bool b=>.bool b
 | _,_,.int i t=>.int i t
 | _,_,.str s t=>.str s t
 | _,_,.bytes b t=>.bytes b t
 | _,_,.ref a=>.ref a
 | _,_,.tup d e l=>.tup (z.sub _ d) ((z.get _ d).trans e) (RvL.mono z l)
 | _,_,.inst d d' e e' l=>.inst (z.sub _ d) (z.sub _ d') ((z.get _ d).trans e) ((z.get _ d').trans e') (RvE.mono z l)
theorem RvL.mono {D D':Addr->Prop} {h h':Heap} (z:Fz D D' h h'):∀ {v a},RvL c D h v a->RvL c D' h' v a
 | _,_,.nil=>.nil
 | _,_,.cons x y=>.cons (Rv.mono z x) (RvL.mono z y)
theorem RvE.mono {D D':Addr->Prop} {h h':Heap} (z:Fz D D' h h'):∀ {v f a},RvE c D h v f a->RvE c D' h' v f a
 | _,_,_,.nil=>.nil
 | _,_,_,.cons k x y=>.cons k (Rv.mono z x) (RvE.mono z y)
end
def RvP (D:Addr->Prop) (h:Heap) {κ:Type} (c:Cfg):List (κ×Value)->List (κ×AV)->Prop
 | [],[]=>True
 | x::r,y::r'=>x.1=y.1/\Rv c D h x.2 y.2/\RvP D h c r r'
 | _,_=>False
def RvT (D:Addr->Prop) (h:Heap) (c:Cfg):List (List Int×Addr×Value)->List (List Int×AV)->Prop
 | [],[]=>True
 | x::r,y::r'=>x.1=y.1/\D x.2.1/\Rv c D h x.2.2 y.2/\RvT D h c r r'
 | _,_=>False
theorem RvP.mono {D D':Addr->Prop} {h h':Heap} (z:Fz D D' h h') {κ:Type}:∀ {l:List (κ×Value)} {l'},RvP D h c l l'->RvP D' h' c l l'
 | [],[],_=>trivial
 | _::_,_::_,⟨a,b,r⟩=>⟨a,b.mono z,r.mono z⟩
theorem RvT.mono {D D':Addr->Prop} {h h':Heap} (z:Fz D D' h h'):∀ {l:List (List Int×Addr×Value)} {l'},RvT D h c l l'->RvT D' h' c l l'
 | [],[],_=>trivial
 | _::_,_::_,⟨a,d,b,r⟩=>⟨a,z.sub _ d,b.mono z,r.mono z⟩
abbrev tupK (c:Cfg):HeapKind c.prog c.w (List Int):=tupleKind (intKind c.prog c.w)
def ConcO (c:Cfg) (D:Addr->Prop) (σ:St) (h:Heap) (a:Addr):AO->Prop
 | .list l=>∃ vs n,h.get? a=some (listO vs n)/\RvL c D h vs.toList l
 | .dS es=>∃ kvs,h.DictOf (strKind c.prog c.w) a kvs/\RvP D h c kvs es
 | .dI es=>∃ kvs,h.DictOf (intKind c.prog c.w) a kvs/\RvP D h c kvs es
 | .dT es=>∃ xs,h.DictOfH (tupK c) a xs/\RvT D h c xs es
 | .obj k dx fs=>h.get? a=some (instObj (c.ca k) dx)/\σ dx=some .own/\∃ es n,h.get? dx=some (dictOf es n)/\RvE c D h es (fs.map (·.1)) (fs.map (·.2))
 | .own=>(h.get? a).isSome=true
def TopB (h:Heap):Prop:=∃ mg mb,h.Ns mainGlobals mg/\h.Ns builtinsNs mb/\∀ x v,x≠("__name__":Str)->bootBuiltins x=some v->mb x=some v
theorem ns_of_eq {h h':Heap} {L:Addr} {m:Str->Option Value} (e:h'.get? L=h.get? L) (x:h.Ns L m):h'.Ns L m:=by
 obtain⟨o,es,ep,q,d,r⟩:=x;exact⟨o,es,ep,e.trans q,d,r⟩
theorem TopB.of_eq {h h':Heap} (e:h'.get? mainGlobals=h.get? mainGlobals) (e':h'.get? builtinsNs=h.get? builtinsNs) (x:TopB h):TopB h':=by
 obtain⟨mg,mb,a,b,r⟩:=x;exact⟨mg,mb,ns_of_eq e a,ns_of_eq e' b,r⟩
structure Conc (c:Cfg) (D:Addr->Prop) (σ:St) (h:Heap):Prop where
 obj:∀ a o,σ a=some o->ConcO c D σ h a o
 froz:∀ a,D a->σ a=none/\(h.get? a).isSome=true
 kin:c.K.In h
 kD:∀ a o,c.K.lookup a=some o->D a
 lim:h.NoLimit
 limD:D cStatics
 sys:D sysModules
 mgD:D mainGlobals
 btD:D builtinsNs
 top:TopB h
def UpTo (o:Obj) (h':Heap) (a:Addr):Prop:=∃ sl,h'.get? a=some {o with slots:=sl}
structure Rel (c:Cfg) (X Y D:Addr->Prop) (σ:St) (s:Shared) (D':Addr->Prop) (σ':St) (s':Shared):Prop where
 conc:Conc c D' σ' s'.heap
 fz:Fz D D' s.heap s'.heap
 keep:∀ a o,s.heap.get? a=some o->σ a=none->¬ X a->(¬ Y a->s'.heap.get? a=some o)/\UpTo o s'.heap a
 there:∀ a,(s.heap.get? a).isSome=true->(s'.heap.get? a).isSome=true
 live:∀ a,σ a≠none->σ' a≠none
 fresh:∀ a,σ' a≠none->σ a=none->s.heap.get? a=none
 dfresh:∀ a,D' a->¬ D a->s.heap.get? a=none
 frm:∀ a o,Y a->s.heap.get? a=some o->(∀ vs,o.data≠.fields vs)->∃ o',s'.heap.get? a=some o'/\∀ vs,o'.data≠.fields vs
 gens:s'.gens=s.gens
 os:s'.os=s.os
theorem Fz.refl (D:Addr->Prop) (h:Heap):Fz D D h h:=⟨fun _ x=>x,fun _ _=>rfl⟩
theorem Fz.trans {D₁ D₂ D₃:Addr->Prop} {h₁ h₂ h₃:Heap} (x:Fz D₁ D₂ h₁ h₂) (y:Fz D₂ D₃ h₂ h₃):Fz D₁ D₃ h₁ h₃:=
 ⟨fun a d=>y.sub a (x.sub a d),fun a d=>(y.get a (x.sub a d)).trans (x.get a d)⟩
theorem upTo_refl {o:Obj} {h:Heap} {a:Addr} (e:h.get? a=some o):UpTo o h a:=⟨o.slots,e⟩
theorem ConcO.there {c:Cfg} {D:Addr->Prop} {σ:St} {h:Heap} {a:Addr} {o:AO} (x:ConcO c D σ h a o):∃ ob,h.get? a=some ob:=by
 cases o with
 | list l=>obtain⟨_,_,e,_⟩:=x;exact⟨_,e⟩
 | dS l=>obtain⟨_,⟨_,_,_,e,_⟩,_⟩:=x;exact⟨_,e⟩
 | dI l=>obtain⟨_,⟨_,_,_,e,_⟩,_⟩:=x;exact⟨_,e⟩
 | dT l=>obtain⟨_,⟨_,_,_,e,_⟩,_⟩:=x;exact⟨_,e⟩
 | obj k dx fs=>exact⟨_,x.1⟩
 | own=>exact Option.isSome_iff_exists.mp x
theorem Conc.free {c:Cfg} {D:Addr->Prop} {σ:St} {h:Heap} (x:Conc c D σ h) {a:Addr} (e:h.get? a=none):σ a=none:=by
 cases q:σ a with
 | none=>rfl
 | some o=>obtain⟨ob,y⟩:=(x.obj a o q).there;rw[e] at y;cases y
theorem Rel.refl {c:Cfg} {X Y D:Addr->Prop} {σ:St} {s:Shared} (C:Conc c D σ s.heap):Rel c X Y D σ s D σ s:=
 ⟨C,.refl _ _,fun _ _ e _ _=>⟨fun _=>e,upTo_refl e⟩,fun _ e=>e,fun _ e=>e,fun _ e q=>absurd q e,fun _ d e=>absurd d e,fun _ o _ e n=>⟨o,e,n⟩,rfl,rfl⟩
theorem gone {h h':Heap} (k:∀ a,(h.get? a).isSome=true->(h'.get? a).isSome=true) {a:Addr} (e:h'.get? a=none):h.get? a=none:=by
 cases q:h.get? a with
 | none=>rfl
 | some o=>have:=k a (by rw[q];rfl);rw[e] at this;cases this
theorem Rel.trans {c:Cfg} {X Y D₁ D₂ D₃:Addr->Prop} {σ₁ σ₂ σ₃:St} {s₁ s₂ s₃:Shared} (C:Conc c D₁ σ₁ s₁.heap) (x:Rel c X Y D₁ σ₁ s₁ D₂ σ₂ s₂) (y:Rel c X Y D₂ σ₂ s₂ D₃ σ₃ s₃):Rel c X Y D₁ σ₁ s₁ D₃ σ₃ s₃ where
 conc:=y.conc
 fz:=x.fz.trans y.fz
 keep a o e q n:=by
  obtain⟨k1,sl,k2⟩:=x.keep a o e q n;have q2:σ₂ a=none:=by
   cases z:σ₂ a with
   | none=>rfl
   | some _=>have:=x.fresh a (by rw[z];simp) q;rw[e] at this;cases this
  obtain⟨y1,sl',y2⟩:=y.keep a _ k2 q2 n;refine⟨fun m=>?_,⟨sl',y2⟩⟩;exact (y.keep a o (k1 m) q2 n).1 m
 there a e:=y.there a (x.there a e)
 live a e:=y.live a (x.live a e)
 fresh a e q:=by
  by_cases z:σ₂ a=none
  ·exact gone x.there (y.fresh a e z)
  ·exact x.fresh a z q
 dfresh a d n:=by
  by_cases z:D₂ a
  ·exact x.dfresh a z n
  ·exact gone x.there (y.dfresh a d z)
 frm a o ya e n:=by
  obtain⟨o',e',n'⟩:=x.frm a o ya e n;exact y.frm a o' ya e' n'
 gens:=y.gens.trans x.gens
 os:=y.os.trans x.os
end
theorem RvT.frozen {D:Addr->Prop} {h:Heap} {c:Cfg}:∀ {l:List (List Int×Addr×Value)} {l'},RvT D h c l l'->∀ x∈l,D x.2.1
 | _::_,_::_,⟨_,d,_,r⟩,x,m=>by
  rcases List.mem_cons.mp m with rfl | m
  ·exact d
  ·exact r.frozen x m
theorem tupK_mono {c:Cfg} {D D':Addr->Prop} {h h':Heap} (z:Fz D D' h h') {k:List Int} {a:Addr} (d:D a) (x:(tupK c).is h k a):(tupK c).is h' k a:=by
 obtain⟨o,items,n,e,r⟩:=x;exact⟨o,items,n,(z.get a d).trans e,r⟩
theorem ConcO.keep {c:Cfg} {D D':Addr->Prop} {σ σ':St} {h h':Heap} {a:Addr} {o:AO} (z:Fz D D' h h') (e:∀ o,h.get? a=some o->h'.get? a=some o)
  (ed:∀ k dx fs,o=.obj k dx fs->σ dx=some .own->σ' dx=some .own/\∀ o,h.get? dx=some o->h'.get? dx=some o) (x:ConcO c D σ h a o):ConcO c D' σ' h' a o:=by
 cases o with
 | list l=>obtain⟨vs,n,q,r⟩:=x;exact⟨vs,n,e _ q,r.mono z⟩
 | dS l=>obtain⟨kvs,⟨o,es,ep,q,r⟩,p⟩:=x;exact⟨kvs,⟨o,es,ep,e _ q,r⟩,p.mono z⟩
 | dI l=>obtain⟨kvs,⟨o,es,ep,q,r⟩,p⟩:=x;exact⟨kvs,⟨o,es,ep,e _ q,r⟩,p.mono z⟩
 | dT l=>
  obtain⟨xs,⟨o,es,ep,q,r1,r2,r3,r4,r5⟩,p⟩:=x;exact⟨xs,⟨o,es,ep,e _ q,r1,r2,r3,fun y m=>tupK_mono z (p.frozen y m) (r4 y m),r5⟩,p.mono z⟩
 | obj k dx fs=>
  obtain⟨q,s,es,n,r,u⟩:=x;obtain⟨y1,y2⟩:=ed k dx fs rfl s;exact⟨e _ q,y1,es,n,y2 _ r,u.mono z⟩
 | own=>
  obtain⟨ob,q⟩:=Option.isSome_iff_exists.mp (show (h.get? a).isSome=true from x);show (h'.get? a).isSome=true;rw[e _ q];rfl
theorem noLimit_keep {D D':Addr->Prop} {h h':Heap} (z:Fz D D' h h') (d:D cStatics) (x:h.NoLimit):h'.NoLimit:=by
 obtain⟨mc,⟨o,es,ep,e,r⟩,q⟩:=x;exact⟨mc,⟨o,es,ep,(z.get _ d).trans e,r⟩,q⟩
theorem Rel.step {c:Cfg} {X Y D D':Addr->Prop} {σ σ':St} {s s':Shared} (C:Conc c D σ s.heap) (T:Addr->Prop)
  (hT:∀ a,T a->¬ D a/\(σ a≠none\/X a\/s.heap.get? a=none))
  (hk:∀ a o,s.heap.get? a=some o->¬ T a->s'.heap.get? a=some o)
  (hth:∀ a,T a->(s.heap.get? a).isSome=true->(s'.heap.get? a).isSome=true)
  (hσ:∀ a,¬ T a->σ a≠none->σ' a=σ a)
  (hlive:∀ a,σ a≠none->σ' a≠none)
  (hnew:∀ a,σ' a≠none->σ a=none->s.heap.get? a=none)
  (hD:∀ a,D a->D' a) (hDn:∀ a,D' a->¬ D a->s.heap.get? a=none/\σ' a=none/\(s'.heap.get? a).isSome=true)
  (hobj:Fz D D' s.heap s'.heap->∀ a o,σ' a=some o->(T a\/σ a=none)->ConcO c D' σ' s'.heap a o)
  (hdx:∀ a k dx fs,σ a=some (.obj k dx fs)->¬ T a->¬ T dx)
  (frm:∀ a o,Y a->T a->s.heap.get? a=some o->(∀ vs,o.data≠.fields vs)->∃ o',s'.heap.get? a=some o'/\∀ vs,o'.data≠.fields vs)
  (gens:s'.gens=s.gens) (os:s'.os=s.os):Rel c X Y D σ s D' σ' s':=by
 have fz:Fz D D' s.heap s'.heap:=⟨hD,fun a d=>by
  obtain⟨o,e⟩:=Option.isSome_iff_exists.mp (C.froz a d).2;rw[e];exact hk a o e fun t=>(hT a t).1 d⟩
 have there:∀ a,(s.heap.get? a).isSome=true->(s'.heap.get? a).isSome=true:=fun a e=>by
  by_cases t:T a
  ·exact hth a t e
  ·obtain⟨o,q⟩:=Option.isSome_iff_exists.mp e;rw[hk a o q t];rfl
 refine⟨⟨fun a o e=>?_,fun a d=>?_,fun a o e=>?_,fun a o e=>hD a (C.kD a o e),noLimit_keep fz C.limD C.lim,hD _ C.limD,hD _ C.sys,hD _ C.mgD,hD _ C.btD,C.top.of_eq (fz.get _ C.mgD) (fz.get _ C.btD)⟩,fz,fun a o e q n=>?_,there,hlive,hnew,fun a d n=>(hDn a d n).1,fun a o y e n=>?_,gens,os⟩
 ·by_cases t:T a
  ·exact hobj fz a o e (.inl t)
  ·by_cases z:σ a=none
   ·exact hobj fz a o e (.inr z)
   ·have q:=(hσ a t z).symm.trans e;refine (C.obj a o q).keep fz (fun ob eb=>hk a ob eb t) fun k dx fs eo ow=>?_;subst eo;have td:=hdx a k dx fs q t;exact⟨(hσ dx td (by rw[ow];simp)).trans ow,fun ob eb=>hk dx ob eb td⟩
 ·by_cases d₀:D a
  ·refine⟨?_,there a (C.froz a d₀).2⟩;cases q:σ' a with
   | none=>rfl
   | some o=>
    have:=hnew a (by rw[q];simp) (C.froz a d₀).1;have z:=(C.froz a d₀).2;rw[this] at z;cases z
  ·exact (hDn a d d₀).2
 ·exact (fz.get a (C.kD a o e)).trans (C.kin a o e)
 ·have t:¬ T a:=fun t=>by
   rcases (hT a t).2 with h | h | h
   ·exact h q
   ·exact n h
   ·rw[h] at e;cases e
  exact⟨fun _=>hk a o e t,upTo_refl (hk a o e t)⟩
 ·by_cases t:T a
  ·exact frm a o y t e n
  ·exact⟨o,hk a o e t,n⟩
theorem Rel.grow {c:Cfg} {X Y D:Addr->Prop} {σ:St} {s s':Shared} (C:Conc c D σ s.heap) (hk:∀ a o,s.heap.get? a=some o->s'.heap.get? a=some o)
  (gens:s'.gens=s.gens) (os:s'.os=s.os):Rel c X Y D σ s D σ s':=
 .step C (fun _=>False) (fun _ t=>t.elim) (fun a o e _=>hk a o e) (fun _ t=>t.elim) (fun _ _ _=>rfl) (fun _ e=>e) (fun _ e q=>absurd q e) (fun _ d=>d) (fun _ d n=>absurd d n)
  (fun _ a o e t=>t.elim False.elim fun z=>by rw[z] at e;cases e) (fun _ _ _ _ _ _ t=>t.elim) (fun _ _ _ t=>t.elim) gens os
theorem Rel.toks {c:Cfg} {X Y D:Addr->Prop} {σ:St} {s:Shared} (C:Conc c D σ s.heap) (t:Nat):Rel c X Y D σ s D σ {s with toks:=t}:=.grow C (fun _ _ e=>e) rfl rfl
theorem Rel.exempt {c:Cfg} {X Y D:Addr->Prop} {σ:St} {s s':Shared} (C:Conc c D σ s.heap) (t:Addr) (hx:X t) (hd:¬ D t) (hn:σ t=none) (hk:∀ a o,a≠t->s.heap.get? a=some o->s'.heap.get? a=some o)
  (hth:(s.heap.get? t).isSome=true->(s'.heap.get? t).isSome=true) (frm:Y t->∀ o,s.heap.get? t=some o->(∀ vs,o.data≠.fields vs)->∃ o',s'.heap.get? t=some o'/\∀ vs,o'.data≠.fields vs)
  (gens:s'.gens=s.gens) (os:s'.os=s.os):Rel c X Y D σ s D σ s':=
 .step C (fun a=>a=t) (fun a e=>e ▸ ⟨hd,.inr (.inl hx)⟩) (fun a o e n=>hk a o n e) (fun a e=>e ▸ hth) (fun _ _ _=>rfl) (fun _ e=>e) (fun _ e q=>absurd q e) (fun _ d=>d) (fun _ d n=>absurd d n)
  (fun _ a o e z=>z.elim (fun z=>by subst z;rw[hn] at e;cases e) fun z=>by rw[z] at e;cases e)
  (fun a k dx fs e n z=>by have:=(C.obj a _ e).2.1;rw[z,hn] at this;cases this) (fun a o y e h n=>by subst e;exact frm y o h n) gens os
theorem Rel.made {c:Cfg} {X Y D:Addr->Prop} {σ:St} {s s':Shared} (C:Conc c D σ s.heap) (t:Addr) (o:AO) (ht:s.heap.get? t=none) (hk:∀ a ob,s.heap.get? a=some ob->s'.heap.get? a=some ob)
  (ho:Fz D D s.heap s'.heap->ConcO c D (put σ t o) s'.heap t o) (gens:s'.gens=s.gens) (os:s'.os=s.os):Rel c X Y D σ s D (put σ t o) s':=by
 have st:σ t=none:=C.free ht;have pn:∀ a,a≠t->put σ t o a=σ a:=fun a n=>if_neg n;refine .step C (fun a=>a=t) (fun a e=>e ▸ ⟨fun d=>?_,.inr (.inr ht)⟩) (fun a ob e n=>hk a ob e) (fun a e q=>?_) (fun a n _=>pn a n) (fun a e=>?_) (fun a e q=>?_) (fun _ d=>d) (fun _ d n=>absurd d n)
  (fun fz a ob e z=>?_) (fun a k dx fs e n z=>?_) (fun a ob y e h n=>?_) gens os
 ·have:=(C.froz t d).2;rw[ht] at this;cases this
 ·subst e;rw[ht] at q;cases q
 ·by_cases q:a=t
  ·subst q;exact absurd st e
  ·rw[pn a q];exact e
 ·by_cases z:a=t
  ·subst z;exact ht
  ·rw[pn a z] at e;exact absurd q e
 ·by_cases q:a=t
  ·subst q;have:put σ a o a=some o:=if_pos rfl;rw[this] at e;cases e;exact ho fz
  ·rw[pn a q] at e;rcases z with z | z
   ·exact absurd z q
   ·rw[z] at e;cases e
 ·have:=(C.obj a _ e).2.1;rw[z,st] at this;cases this
 ·subst e;rw[ht] at h;cases h
theorem Rel.turned {c:Cfg} {X Y D:Addr->Prop} {σ:St} {s s':Shared} (C:Conc c D σ s.heap) (t:Addr) (o:AO) {o₀:AO} (ht:σ t=some o₀) (hno:o₀≠.own) (hk:∀ a ob,a≠t->s.heap.get? a=some ob->s'.heap.get? a=some ob)
  (ho:Fz D D s.heap s'.heap->ConcO c D (put σ t o) s'.heap t o) (frm:∀ a,Y a->σ a=none) (gens:s'.gens=s.gens) (os:s'.os=s.os):Rel c X Y D σ s D (put σ t o) s':=by
 have pn:∀ a,a≠t->put σ t o a=σ a:=fun a n=>if_neg n;have pt:put σ t o t=some o:=if_pos rfl;have nD:¬ D t:=fun d=>by rw[(C.froz t d).1] at ht;cases ht
 refine .step C (fun a=>a=t) (fun a e=>e ▸ ⟨nD,.inl (by rw[ht];simp)⟩) (fun a ob e n=>hk a ob n e) (fun a e q=>?_) (fun a n _=>pn a n) (fun a e=>?_) (fun a e q=>?_) (fun _ d=>d) (fun _ d n=>absurd d n)
  (fun fz a ob e z=>?_) (fun a k dx fs e n z=>?_) (fun a ob y e h n=>?_) gens os
 ·subst e;have fz:Fz D D s.heap s'.heap:=⟨fun _ d=>d,fun b d=>by
   obtain⟨ob,e⟩:=Option.isSome_iff_exists.mp (C.froz b d).2;rw[e];exact hk b ob (fun q=>nD (q ▸ d)) e⟩
  obtain⟨ob,e⟩:=(ho fz).there;rw[e];rfl
 ·by_cases q:a=t
  ·subst q;rw[pt];simp
  ·rw[pn a q];exact e
 ·by_cases z:a=t
  ·subst z;rw[ht] at q;cases q
  ·rw[pn a z] at e;exact absurd q e
 ·by_cases q:a=t
  ·subst q;rw[pt] at e;cases e;exact ho fz
  ·rw[pn a q] at e;rcases z with z | z
   ·exact absurd z q
   ·rw[z] at e;cases e
 ·have:=(C.obj a _ e).2.1;rw[z,ht] at this;cases this;exact hno rfl
 ·subst e;rw[frm _ y] at ht;cases ht
theorem Rel.froze {c:Cfg} {X Y D:Addr->Prop} {σ:St} {s s':Shared} (C:Conc c D σ s.heap) (t:Addr) (ht:s.heap.get? t=none) (hk:∀ a ob,s.heap.get? a=some ob->s'.heap.get? a=some ob)
  (ho:(s'.heap.get? t).isSome=true) (gens:s'.gens=s.gens) (os:s'.os=s.os):Rel c X Y D σ s (fun a=>D a\/a=t) σ s':=by
 have st:σ t=none:=C.free ht;refine .step C (fun a=>False) (fun a e=>e.elim) (fun a ob e n=>hk a ob e) (fun a e q=>e.elim) (fun a n _=>rfl) (fun a e=>e) (fun a e q=>absurd q e) (fun _ d=>.inl d) (fun a d n=>?_)
  (fun fz a ob e z=>?_) (fun a k dx fs e n z=>z) (fun a ob y e h n=>e.elim) gens os
 ·rcases d with d | rfl
  ·exact absurd d n
  ·exact⟨ht,st,ho⟩
 ·rcases z with z | z
  ·exact z.elim
  ·rw[z] at e;cases e
def Yof (l:List Env):Addr->Prop:=fun a=>∃ env∈l,env.frame=some a
def Loose (D:Addr->Prop) (σ:St) (h:Heap) (a:Addr):Prop:=σ a=none/\¬ D a/\h.get? a=none
def Exc (c:Cfg) (l:List Env) (D:Addr->Prop) (σ:St) (h h':Heap) (e:Value):Prop:=
 ∃ ea oe vs,e=.ref ea/\h'.get? ea=some oe/\oe.cls=.ref c.tf/\oe.data=.fields vs/\Loose D σ h ea/\
  (vs[1]? =some .none\/∃ T oT ts,vs[1]? =some (.ref T)/\T≠ea/\h'.get? T=some oT/\oT.data=.fields ts/\Loose D σ h T/\ts[3]? =some .none)
structure Wd (c:Cfg) (A:Around) (l:List Env) (D:Addr->Prop) (σ:St) (s:Shared):Prop where
 conc:Conc c D σ s.heap
 hh:A.handled=none
 fr:A.frames=some l
 frames:∀ env∈l,env.scope.kind≠.module/\∃ L o,env.frame=some L/\s.heap.get? L=some o/\(∀ vs,o.data≠.fields vs)/\σ L=none/\¬ D L
theorem Loose.back {D:Addr->Prop} {σ:St} {h h₁:Heap} (k:∀ a,(h.get? a).isSome=true->(h₁.get? a).isSome=true) {a:Addr} (x:Loose D σ h₁ a):Loose D σ h a:=⟨x.1,x.2.1,gone k x.2.2⟩
theorem Exc.back {c:Cfg} {l:List Env} {D:Addr->Prop} {σ:St} {h h₁ h':Heap} {e:Value} (k:∀ a,(h.get? a).isSome=true->(h₁.get? a).isSome=true) (x:Exc c l D σ h₁ h' e):Exc c l D σ h h' e:=by
 obtain⟨ea,oe,vs,h1,h2,h3,h4,h5,h6⟩:=x;refine⟨ea,oe,vs,h1,h2,h3,h4,h5.back k,?_⟩;rcases h6 with h6 | ⟨T,oT,ts,g1,g2,g3,g4,g5,g6⟩
 ·exact .inl h6
 ·exact .inr ⟨T,oT,ts,g1,g2,g3,g4,g5.back k,g6⟩
theorem Wd.rel {c:Cfg} {A:Around} {l:List Env} {X D D':Addr->Prop} {σ σ':St} {s s':Shared} (W:Wd c A l D σ s) (r:Rel c X (Yof l) D σ s D' σ' s'):Wd c A l D' σ' s':=
 ⟨r.conc,W.hh,W.fr,fun env m=>by
  obtain⟨h1,L,o,h2,h3,h4,h5,h6⟩:=W.frames env m;obtain⟨o',h7,h8⟩:=r.frm L o ⟨env,m,h2⟩ h3 h4;refine⟨h1,L,o',h2,h7,h8,?_,fun d=>?_⟩
  ·cases q:σ' L with
   | none=>rfl
   | some z=>have:=r.fresh L (by rw[q];simp) h5;rw[h3] at this;cases this
  ·have:=r.dfresh L d h6;rw[h3] at this;cases this⟩
theorem Wd.y {c:Cfg} {A:Around} {l:List Env} {D:Addr->Prop} {σ:St} {s:Shared} (W:Wd c A l D σ s):∀ a,Yof l a->σ a=none:=by
 rintro a ⟨env,m,e⟩;obtain⟨_,L,o,h2,_,_,h5,_⟩:=W.frames env m;rw[e] at h2;cases h2;exact h5
def Tri (c:Cfg) (A:Around) (l:List Env) (X D:Addr->Prop) (σ:St) (s:Shared) {α β:Type} (t:Sem β) (R:(Addr->Prop)->Heap->β->α->Prop) (p:M α):Prop:=
 ∀ Q E,p Q E σ->wpAny (model c.prog c.w) A t (fun v s'=>∃ D' σ' a,Rel c X (Yof l) D σ s D' σ' s'/\R D' s'.heap v a/\Q a σ')
  (fun e s'=>∃ D' σ',Rel c X (Yof l) D σ s D' σ' s'/\Exc c l D' σ' s.heap s'.heap e/\E σ') s
section
variable {c:Cfg} {A:Around} {l:List Env} {X D:Addr->Prop} {σ:St} {s:Shared} {α β γ δ:Type}
theorem Tri.bind {t:Sem β} {f:β->Sem γ} {R:(Addr->Prop)->Heap->β->α->Prop} {R':(Addr->Prop)->Heap->γ->δ->Prop} {p:M α} {g:α->M δ} (W:Wd c A l D σ s) (h:Tri c A l X D σ s t R p)
  (k:∀ D' σ' s' v a,Rel c X (Yof l) D σ s D' σ' s'->Wd c A l D' σ' s'->R D' s'.heap v a->Tri c A l X D' σ' s' (f v) R' (g a)):Tri c A l X D σ s (t >>=f) R' (bnd p g):=by
 intro Q E hp;refine wpAny_bind (wpAny_mono (h _ E hp) ?_ fun _ _ x=>x);rintro v s₁ ⟨D₁,σ₁,a,r,hr,hq⟩;refine wpAny_mono (k D₁ σ₁ s₁ v a r (W.rel r) hr Q E hq) ?_ ?_
 ·rintro x s₂ ⟨D₂,σ₂,b,r₂,hr₂,hq₂⟩;exact⟨D₂,σ₂,b,r.trans W.conc r₂,hr₂,hq₂⟩
 ·rintro e s₂ ⟨D₂,σ₂,r₂,x,he⟩;exact⟨D₂,σ₂,r.trans W.conc r₂,x.back r.there,he⟩
theorem Tri.pure {v:β} {a:α} {R:(Addr->Prop)->Heap->β->α->Prop} (C:Conc c D σ s.heap) (h:R D s.heap v a):Tri c A l X D σ s (pure v) R (ret a):=fun Q E hp=>
 wpAny_pure ⟨D,σ,a,.refl C,h,hp⟩
theorem Tri.standAt {pos:Pos} {f:Unit->Sem γ} {R':(Addr->Prop)->Heap->γ->δ->Prop} {p:M δ} (k:Tri c A l X D σ s (f ()) R' p):Tri c A l X D σ s (standAt pos >>=f) R' p:=
 fun Q E hp=>wpAny_bind (wpAny_standAt (k Q E hp))
theorem Tri.holding {vs:List Value} {t:Sem β} {R:(Addr->Prop)->Heap->β->α->Prop} {p:M α} (h:Tri c A l X D σ s t R p):Tri c A l X D σ s (holding vs t) R p:=fun Q E hp=>wpAny_holding (h Q E hp)
theorem Rel.weaken {X' Y D':Addr->Prop} {σ':St} {s':Shared} (r:Rel c X Y D σ s D' σ' s') (hx:∀ a o,s.heap.get? a=some o->X a->X' a):Rel c X' Y D σ s D' σ' s' where
 conc:=r.conc
 fz:=r.fz
 keep a o e q n:=r.keep a o e q fun x=>n (hx a o e x)
 there:=r.there
 live:=r.live
 fresh:=r.fresh
 dfresh:=r.dfresh
 frm:=r.frm
 gens:=r.gens
 os:=r.os
theorem Tri.dropX {X':Addr->Prop} {t:Sem β} {R:(Addr->Prop)->Heap->β->α->Prop} {p:M α} (h:Tri c A l X D σ s t R p) (hx:∀ a o,s.heap.get? a=some o->X a->X' a):Tri c A l X' D σ s t R p:=fun Q E hp=>
 wpAny_mono (h Q E hp) (fun _ _ ⟨D',σ',a,r,q,z⟩=>⟨D',σ',a,r.weaken hx,q,z⟩) fun _ _ ⟨D',σ',r,q,z⟩=>⟨D',σ',r.weaken hx,q,z⟩
end
open PySem.Calls
abbrev RV (c:Cfg):(Addr->Prop)->Heap->Value->AV->Prop:=fun D h v a=>Rv c D h v a
abbrev RB:(Addr->Prop)->Heap->Bool->Bool->Prop:=fun _ _ v a=>v=a
def opOf:Bop->Operator
 | .add=>.Add | .sub=>.Sub | .mul=>.Mult | .mod=>.Mod | .fdiv=>.FloorDiv | .pow=>.Pow
theorem RvL.append {c:Cfg} {D:Addr->Prop} {h:Heap}:∀ {l a l' a'},RvL c D h l a->RvL c D h l' a'->RvL c D h (l++l') (a++a')
 | _,_,_,_,.nil,y=>y
 | _,_,_,_,.cons x r,y=>.cons x (r.append y)
theorem RvL.length {c:Cfg} {D:Addr->Prop} {h:Heap}:∀ {l a},RvL c D h l a->l.length=a.length
 | _,_,.nil=>rfl
 | _,_,.cons _ r=>congrArg (· +1) r.length
theorem ConcO.listAt {c:Cfg} {D:Addr->Prop} {σ:St} {h:Heap} {a:Addr} {l:List AV} (C:Conc c D σ h) (e:σ a=some (.list l)):∃ vs n,h.get? a=some (listO vs n)/\RvL c D h vs.toList l:=C.obj a _ e
theorem bits_small {j:Int} (h1:-(2 ^ 60) < j) (h2:j < 2 ^ 60):Builtin.Int.intBits j<=64:=PySem.W.X.bits_is rfl ▸ PySem.W.X.bits_le (by omega) (by omega)
theorem pylong_small {i j:Int} (h1:0 < j) (h2:j < 2 ^ 60):Builtin.divisionGoesByPylong i j=false:=by
 unfold Builtin.divisionGoesByPylong;have h3:j.natAbs < 2 ^ 60:=by omega
 have h4:j.natAbs.log2 < 60:=(Nat.log2_lt (by omega)).mpr h3;have h5:j.natAbs.log2 / 30+1<=2:=by omega
 simp only[Bool.and_eq_false_iff,decide_eq_false_iff_not];left;rw[if_neg (by simpa using Int.ne_of_gt h1)];omega
section
variable {c:Cfg} {A:Around} {l:List Env} {X D:Addr->Prop} {σ:St} {s:Shared}
theorem done0 {R:(Addr->Prop)->Heap->Value->AV->Prop} {Q:AV->St->Prop} (C:Conc c D σ s.heap) {v:Value} {a:AV} (t:Nat) (h:R D s.heap v a) (q:Q a σ):
  ∃ D' σ' a,Rel c X (Yof l) D σ s D' σ' {s with toks:=t}/\R D' s.heap v a/\Q a σ':=⟨D,σ,a,.toks C t,h,q⟩
theorem doneList {Q:AV->St->Prop} (C:Conc c D σ s.heap) {items:Array Value} {as:List AV} (n:Nat) (t:Nat) (h:RvL c D s.heap items.toList as) (q:∀ a,σ a=none->Q (.ref a) (put σ a (.list as))):
  ∃ D' σ' a,Rel c X (Yof l) D σ s D' σ' {s with heap:=s.heap.push (listO items n),toks:=t}/\Rv c D' (s.heap.push (listO items n)) (.ref s.heap.objs.size) a/\Q a σ':=by
 have fr:s.heap.get? s.heap.objs.size=none:=Heap.StaysIn.fresh fun _ _ e=>e;exact⟨D,_,.ref s.heap.objs.size,.made C s.heap.objs.size (.list as) fr (fun a ob e=>Heap.get?_push_of_some _ e) (fun z=>⟨items,n,Heap.get?_push_size _ rfl,h.mono z⟩) rfl rfl,.ref _,q _ (C.free fr)⟩
theorem doneTup {Q:AV->St->Prop} (C:Conc c D σ s.heap) {items:Array Value} {as:List AV} (n:Nat) (t:Nat) (h:RvL c D s.heap items.toList as) (q:Q (.tup as) σ):
  ∃ D' σ' a,Rel c X (Yof l) D σ s D' σ' {s with heap:=s.heap.push (tupO items n),toks:=t}/\Rv c D' (s.heap.push (tupO items n)) (.ref s.heap.objs.size) a/\Q a σ':=by
 have fr:s.heap.get? s.heap.objs.size=none:=Heap.StaysIn.fresh fun _ _ e=>e;have r:Rel c X (Yof l) D σ s (fun a=>D a\/a=s.heap.objs.size) σ {s with heap:=s.heap.push (tupO items n),toks:=t}:=
  .froze C s.heap.objs.size fr (fun a ob e=>Heap.get?_push_of_some _ e) (by rw[Heap.get?_push_size _ rfl];rfl) rfl rfl
 exact⟨_,σ,.tup as,r,.tup (.inr rfl) (Heap.get?_push_size _ rfl) (h.mono r.fz),q⟩
theorem addM_ok {x y:Value} {a b:AV} (C:Conc c D σ s.heap) (hx:Rv c D s.heap x a) (hy:Rv c D s.heap y b):Tri c A l X D σ s (binaryOp .Add x y) (RV c) (addM a b):=by
 intro Q E hp;cases hx<;>cases hy<;>first | exact hp.elim | skip
 case int.int i t j u=>exact add_int (done0 C _ (.int _ _) hp)
 case str.str x t y u=>exact SB.add (fun t' k=>done0 C _ (.str _ _) hp.2) hp.1
 case ref.ref a b=>
  obtain⟨oa,ea,ob,eb,hp⟩:=hp;cases oa<;>first | exact hp.elim | skip
  cases ob<;>first | exact hp.elim | skip
  rename_i la lb;obtain⟨hsz,hp⟩:=hp;obtain⟨vs,n,e1,r1⟩:=ConcO.listAt C ea;obtain⟨ws,k,e2,r2⟩:=ConcO.listAt C eb;have l1:=r1.length;have l2:=r2.length;rw[Array.length_toList] at l1 l2;refine concat_meets ⟨_,e1,rfl⟩ ⟨_,e2,rfl⟩ noFill_list_add seq_list_add PySem.F.slot_list_add PySem.F.entry_list_add (PySem.F.args_list_add_2 _ _) (list_addW a b vs ws n k none none #[] #[] (by rw[sizeLine_eq];omega)) ⟨e1,e2,?_⟩;exact doneList C 0 _ (by rw[Array.toList_append];exact r1.append r2) hp
 case tup.tup t1 vs n as d1 e1 r1 t2 ws k bs d2 e2 r2=>
  obtain⟨hsz,hp⟩:=hp;have l1:=r1.length;have l2:=r2.length;rw[Array.length_toList] at l1 l2;by_cases hv:vs.isEmpty=true
  ·refine concat_meets ⟨_,e1,rfl⟩ ⟨_,e2,rfl⟩ noFill_tuple_add seq_tuple_add PySem.F.slot_tuple_add PySem.F.entry_tuple_add (PySem.F.args_tuple_add_2 _ _) (tuple_addW0 t1 t2 vs ws n k none none #[] #[] hv) ⟨e1,e2,?_⟩;have ha:as=[]:=by
    have:vs.size=0:=by simpa using hv
    exact List.eq_nil_of_length_eq_zero (by omega)
   subst ha;exact done0 C _ (.tup d2 e2 r2) hp
  ·by_cases hw:ws.isEmpty=true
   ·refine concat_meets ⟨_,e1,rfl⟩ ⟨_,e2,rfl⟩ noFill_tuple_add seq_tuple_add PySem.F.slot_tuple_add PySem.F.entry_tuple_add (PySem.F.args_tuple_add_2 _ _) (tuple_addW1 t1 t2 vs ws n k none none #[] #[] hv hw) ⟨e1,e2,?_⟩;have hb:bs=[]:=by
     have:ws.size=0:=by simpa using hw
     exact List.eq_nil_of_length_eq_zero (by omega)
    subst hb;rw[List.append_nil] at hp;exact done0 C _ (.tup d1 e1 r1) hp
   ·refine concat_meets ⟨_,e1,rfl⟩ ⟨_,e2,rfl⟩ noFill_tuple_add seq_tuple_add PySem.F.slot_tuple_add PySem.F.entry_tuple_add (PySem.F.args_tuple_add_2 _ _) (tuple_addW2 t1 t2 vs ws n k none none #[] #[] hv hw (by rw[sizeLine_eq];omega)) ⟨e1,e2,?_⟩;exact doneTup C 0 _ (by rw[Array.toList_append];exact r1.append r2) hp
theorem foldl_app {α:Type}:∀ (n:Nat) (xs acc:Array α),((List.replicate n xs).foldl (fun a b=>a++b) acc).toList=acc.toList++(List.replicate n xs.toList).flatten
 | 0,xs,acc=>by simp
 | n+1,xs,acc=>by
  rw[List.replicate_succ,List.foldl_cons,foldl_app n xs (acc++xs),Array.toList_append,List.replicate_succ,List.flatten_cons,List.append_assoc]
theorem RvL.rep {c:Cfg} {D:Addr->Prop} {h:Heap} {l a} (x:RvL c D h l a):∀ n,RvL c D h (List.replicate n l).flatten (List.replicate n a).flatten
 | 0=>.nil
 | n+1=>by rw[List.replicate_succ,List.flatten_cons,List.replicate_succ,List.flatten_cons];exact x.append (x.rep n)
theorem binM_ok {op:Bop} {x y:Value} {a b:AV} (C:Conc c D σ s.heap) (hx:Rv c D s.heap x a) (hy:Rv c D s.heap y b):Tri c A l X D σ s (binaryOp (opOf op) x y) (RV c) (binM op a b):=by
 cases op;case add=>exact addM_ok C hx hy
 all_goals
  intro Q E hp;cases hx<;>cases hy<;>first | exact hp.elim | skip
 case sub.int.int i t j u=>exact sub_int (done0 C _ (.int _ _) hp)
 case mul.int.int i t j u=>exact mul_int (done0 C _ (.int _ _) hp.2) (IntMulOk.of_right (bits_small hp.1.1 hp.1.2))
 case mul.ref.int a i t=>
  obtain⟨oa,ea,hp⟩:=hp;cases oa<;>first | exact hp.elim | skip
  rename_i la;obtain⟨⟨hsz,h0,h1⟩,hp⟩:=hp;obtain⟨vs,n,e1,r1⟩:=ConcO.listAt C ea;have l1:=r1.length;rw[Array.length_toList] at l1;refine wpAny_binaryOp_repeat_ref (T:="list") (U:="int") (by decide) ⟨_,e1,rfl⟩ (fun s'=>typeIs_int s' i t) noFill_list_mul F.fills_int_mul F.slot_int_rmul repeat_list F.slot_int_index.lookup
   (call_meets F.slot_int_rmul (typeIs_int s i t) F.entry_int_rmul (F.args_int_rmul_2 _ _) (int___rmul___int_list i t a vs n)
    ⟨e1,rfl,⟨_,e1,rfl⟩,call_meets F.slot_list_mul ⟨_,e1,rfl⟩ F.entry_list_mul (F.args_list_mul_2 _ _)
     (AutoListH.list___mul___list_int_3 a vs n i t (by simp [Builtin.List.listFitsIndex];omega) (by rw[l1];omega) (by rw[l1];simp [Builtin.List.listTooLong,sizeLine];omega)) ⟨e1,?_⟩⟩)
  refine doneList C 0 _ (as:=(List.replicate i.toNat la).flatten) ?_ hp;have z:(List.foldl (fun x1 x2=>x1++x2) #[] (List.replicate (if vs.isEmpty=true then 0 else i.toNat) vs)).toList=(List.replicate i.toNat vs.toList).flatten:=by
   rw[foldl_app];by_cases q:vs.isEmpty=true
   ·have:vs=#[]:=Array.isEmpty_iff.mp q;subst this;simp
   ·rw[if_neg q];simp
  rw[z];exact r1.rep _
 case mod.int.int i t j u=>
  obtain⟨h0,hp⟩:=hp;refine mod_int' (by omega) ?_;rw[Int.fmod_eq_emod_of_nonneg _ (by omega)];exact done0 C _ (.int _ _) hp
 case fdiv.int.int i t j u=>
  obtain⟨⟨h0,h1⟩,hp⟩:=hp;refine floordiv_int (by omega) ?_ (.inl (pylong_small h0 h1));rw[Int.fdiv_eq_ediv_of_nonneg _ (by omega)];exact done0 C _ (.int _ _) hp
 case pow.int.int i t j u=>
  obtain⟨⟨h0,h1,rfl⟩,hp⟩:=hp;exact pow_int_small (by decide) (by decide) (by omega) (done0 C _ (.int _ _) hp)
theorem negM_ok {x:Value} {a:AV} (C:Conc c D σ s.heap) (hx:Rv c D s.heap x a):Tri c A l X D σ s (unaryOp .USub x) (RV c) (negM a):=by
 intro Q E hp;cases hx<;>first | exact hp.elim | skip
 case int i t=>exact neg_int (done0 C _ (.int _ _) hp)
theorem doneB {Q:Bool->St->Prop} (C:Conc c D σ s.heap) {v a:Bool} (t:Nat) (h:v=a) (q:Q a σ):
  ∃ D' σ' a,Rel c X (Yof l) D σ s D' σ' {s with toks:=t}/\v=a/\Q a σ':=⟨D,σ,a,.toks C t,h,q⟩
theorem isEmpty_of {vs:Array Value} {as:List AV} (r:vs.size=as.length):(!vs.isEmpty)=(!as.isEmpty):=by
 cases as with
 | nil=>have:vs=#[]:=Array.eq_empty_of_size_eq_zero r;subst this;rfl
 | cons a as=>simp [Array.isEmpty,r]
theorem truthM_ok {x:Value} {a:AV} (C:Conc c D σ s.heap) (hx:Rv c D s.heap x a):Tri c A l X D σ s (truthy x) RB (truthM a):=by
 intro Q E hp;cases hx<;>first | exact hp.elim | skip
 case none=>exact truthy_none (doneB C s.toks rfl hp)
 case bool b=>exact wpAny_pure (doneB C s.toks rfl hp)
 case int i t=>exact truthy_int (doneB C s.toks rfl hp)
 case ref a=>
  obtain⟨oa,ea,hp⟩:=hp;cases oa<;>first | exact hp.elim | skip
  rename_i la;obtain⟨hsz,hp⟩:=hp;obtain⟨vs,n,e1,r1⟩:=ConcO.listAt C ea;have l1:=r1.length;rw[Array.length_toList] at l1;exact wpAny_truthy_list ⟨_,e1,rfl,n,rfl⟩ (by omega) (doneB C _ (isEmpty_of l1) hp)
end
mutual
theorem Dat.reads {c:Cfg} {D:Addr->Prop} {σ:St} {h:Heap} (C:Conc c D σ h):∀ {a d v},Dat σ a d->Rv c D h v a->∃ as,Reads h v d as
 | _,_,_,.none,.none=>⟨_,.none⟩
 | _,_,_,.bool b,.bool _=>⟨_,.bool b⟩
 | _,_,_,.int i,.int _ t=>⟨_,.int i t⟩
 | _,_,_,.str s,.str _ t=>⟨_,.str s t⟩
 | _,_,_,.tup x,.tup _ e r=>let ⟨as,y⟩:=Dats.reads C x r;⟨as,.tuple e rfl rfl y⟩
 | _,_,_,.list e x,.ref _=>by
  obtain⟨vs,n,e1,r1⟩:=ConcO.listAt C e;obtain⟨as,y⟩:=Dats.reads C x r1;exact⟨_,.list e1 rfl rfl y⟩
theorem Dats.reads {c:Cfg} {D:Addr->Prop} {σ:St} {h:Heap} (C:Conc c D σ h):∀ {a d v},Dats σ a d->RvL c D h v a->∃ as,ReadsAll h v d as
 | _,_,_,.nil,.nil=>⟨_,.nil⟩
 | _,_,_,.cons x y,.cons r q=>let ⟨_,z⟩:=x.reads C r;let ⟨_,u⟩:=y.reads C q;⟨_,.cons z u⟩
end
def copOf:Cop->CmpOp
 | .eq=>.Eq | .ne=>.NotEq | .lt=>.Lt | .le=>.LtE | .gt=>.Gt | .ge=>.GtE | .is=>.Is | .isnot=>.IsNot | .isin=>.In | .notin=>.NotIn
abbrev RBv:(Addr->Prop)->Heap->Value->Bool->Prop:=fun _ _ v a=>v=.bool a
section
variable {c:Cfg} {A:Around} {l:List Env} {X D:Addr->Prop} {σ:St} {s:Shared}
theorem doneBv {Q:Bool->St->Prop} (C:Conc c D σ s.heap) {v a:Bool} (t:Nat) (h:v=a) (q:Q a σ):
  ∃ D' σ' a,Rel c X (Yof l) D σ s D' σ' {s with toks:=t}/\Value.bool v=.bool a/\Q a σ':=⟨D,σ,a,.toks C t,by rw[h],q⟩
theorem eqM_ok {x y:Value} {a b:AV} (C:Conc c D σ s.heap) (hu:A.units+100 < cLine) (hx:Rv c D s.heap x a) (hy:Rv c D s.heap y b):Tri c A l X D σ s (compareOp .Eq x y) RBv (eqM a b):=by
 intro Q E hp;cases hx<;>cases hy<;>first | exact hp.elim | skip
 case int.int i t j u=>exact eq_int (doneBv C s.toks rfl hp)
 case str.str i t j u=>exact PyProof.Rows.eq_str (doneBv C s.toks rfl hp)
 case ref.ref a b=>
  obtain⟨la,lb,ea,eb,hp⟩:=hp;obtain⟨vs,n,e1,r1⟩:=ConcO.listAt C ea;obtain⟨ws,k,e2,r2⟩:=ConcO.listAt C eb;have l1:=r1.length;have l2:=r2.length;rw[Array.length_toList] at l1 l2;rcases hp with ⟨hne,hp⟩ | ⟨d,da,db,hd,hp⟩
  ·exact SeqAt.eq_list_lengthsAt ⟨_,e1,rfl,n,rfl⟩ ⟨_,e2,rfl,k,rfl⟩ (by simpa [l1,l2] using hne) (by omega) (doneBv C s.toks rfl hp)
  ·obtain⟨_,ra⟩:=da.reads C (.ref a);obtain⟨_,rb⟩:=db.reads C (.ref b);refine SeqAt.compareEq_shaped ra rb hd hd (by omega) ?_;rw[SeqAt.eqv_refl d (by unfold SeqAt.shaped at hd;exact (Bool.and_eq_true_iff.mp hd).1)];exact doneBv C s.toks rfl hp
theorem neM_ok {x y:Value} {a b:AV} (C:Conc c D σ s.heap) (hu:A.units+100 < cLine) (hx:Rv c D s.heap x a) (hy:Rv c D s.heap y b):Tri c A l X D σ s (compareOp .NotEq x y) RBv (neg (eqM a b)):=by
 intro Q E hp;cases hx<;>cases hy<;>first | exact hp.elim | skip
 case int.int i t j u=>exact PyProof.Rows.ne_int (doneBv C s.toks rfl hp)
 case str.str i t j u=>exact PyProof.Rows.ne_str (doneBv C s.toks rfl hp)
 case ref.ref a b=>
  obtain⟨la,lb,ea,eb,hp⟩:=hp;obtain⟨vs,n,e1,r1⟩:=ConcO.listAt C ea;obtain⟨ws,k,e2,r2⟩:=ConcO.listAt C eb;have l1:=r1.length;have l2:=r2.length;rw[Array.length_toList] at l1 l2;rcases hp with ⟨hne,hp⟩ | ⟨d,da,db,hd,hp⟩
  ·exact (SeqAt.RcNeAt.lists_lengths ⟨_,e1,rfl,n,rfl⟩ ⟨_,e2,rfl,k,rfl⟩ (by simpa [l1,l2] using hne) (by omega)) _ _ _ _ (doneBv C s.toks rfl hp)
  ·obtain⟨_,ra⟩:=da.reads C (.ref a);obtain⟨_,rb⟩:=db.reads C (.ref b);refine SeqAt.compareNe_shaped ra rb hd hd (by omega) ?_;rw[SeqAt.eqv_refl d (by unfold SeqAt.shaped at hd;exact (Bool.and_eq_true_iff.mp hd).1)];exact doneBv C s.toks rfl hp
def isS (s:Str):Value->Bool
 | .str t _=>t==s
 | _=>false
def isI (s:Int):Value->Bool
 | .int t _=>t==s
 | _=>false
theorem strs_any {D:Addr->Prop} {h:Heap} (x:Str) (tk:Tok) (A:Around) (s:Shared):∀ {vs:List Value} {as:List AV} {ys:List Str},RvL c D h vs as->allStr as=some ys->vs.any (isS x)=ys.any (· ==x)/\∀ v∈vs,SeqAt.EqAt A s v (.str x tk) (isS x v)
 | _,_,_,.nil,e=>by cases e;exact⟨rfl,fun _ m=>nomatch m⟩
 | _,_,ys,.cons r q,e=>by
  cases r<;>simp only[allStr,Option.map_eq_some_iff,reduceCtorEq] at e;rename_i y t;obtain⟨zs,e,rfl⟩:=e;obtain⟨h1,h2⟩:=strs_any x tk A s q e;refine⟨by rw[List.any_cons,List.any_cons,h1];rfl,fun v m=>?_⟩;rcases List.mem_cons.mp m with rfl | m
  ·intro prog w E Q hq;refine (strKind prog w).eqBool (strKind_is prog w y t) (strKind_is prog w x tk) ?_;have:decide (y=x)=isS x (.str y t):=by rw[Bool.eq_iff_iff];simp [isS]
   rw[this];exact hq
  ·exact h2 v m
theorem ints_any {D:Addr->Prop} {h:Heap} (x:Int) (tk:Tok) (A:Around) (s:Shared):∀ {vs:List Value} {as:List AV} {ys:List Int},RvL c D h vs as->allInt as=some ys->vs.any (isI x)=ys.any (· ==x)/\∀ v∈vs,SeqAt.EqAt A s v (.int x tk) (isI x v)
 | _,_,_,.nil,e=>by cases e;exact⟨rfl,fun _ m=>nomatch m⟩
 | _,_,ys,.cons r q,e=>by
  cases r<;>simp only[allInt,Option.map_eq_some_iff,reduceCtorEq] at e;rename_i y t;obtain⟨zs,e,rfl⟩:=e;obtain⟨h1,h2⟩:=ints_any x tk A s q e;refine⟨by rw[List.any_cons,List.any_cons,h1];rfl,fun v m=>?_⟩;rcases List.mem_cons.mp m with rfl | m
  ·intro prog w E Q hq;refine (intKind prog w).eqBool (intKind_is prog w y t) (intKind_is prog w x tk) ?_;have:decide (y=x)=isI x (.int y t):=by rw[Bool.eq_iff_iff];simp [isI]
   rw[this];exact hq
  ·exact h2 v m
theorem RvP.get {D:Addr->Prop} {h:Heap} {κ:Type} [DecidableEq κ] (k:κ):∀ {l:List (κ×Value)} {l':List (κ×AV)},RvP D h c l l'->(valueAt l k=none/\atKey l' k=none)\/∃ v a,valueAt l k=some v/\atKey l' k=some a/\Rv c D h v a
 | [],[],_=>.inl ⟨rfl,rfl⟩
 | x::r,y::r',⟨e,v,q⟩=>by
  have z:=RvP.get k q;unfold valueAt atKey at *;rw[List.find?_cons,List.find?_cons,e];by_cases hk:y.1=k
  ·rw[decide_eq_true hk];exact .inr ⟨_,_,rfl,rfl,v⟩
  ·rw[decide_eq_false hk];exact z
theorem notSys {D:Addr->Prop} {σ:St} {h:Heap} (C:Conc c D σ h) {a:Addr} {o:AO} (e:σ a=some o):(a==sysModules)=false:=by
 refine beq_eq_false_iff_ne.mpr fun q=>?_;subst q;rw[(C.froz _ C.sys).1] at e;cases e
theorem inM_ok {x y:Value} {a b:AV} (C:Conc c D σ s.heap) (hx:Rv c D s.heap x a) (hy:Rv c D s.heap y b):Tri c A l X D σ s (compareOp .In x y) RBv (inM a b):=by
 intro Q E hp;cases hx<;>cases hy<;>first | exact hp.elim | skip
 case str.tup x tk t vs n as d e r=>
  have hp':(match allStr as with | some ys=>ret (ys.any (· ==x)) | none=>no) (Q) E σ:=hp;cases hy:allStr as with
  | none=>rw[hy] at hp';exact hp'.elim
  | some ys=>
   rw[hy] at hp';obtain⟨h1,h2⟩:=strs_any x tk A.in1 s r hy;refine SeqAt.in_tupleAt (isS x) ⟨_,e,rfl,n,rfl⟩ (fun v m=>h2 v (Array.mem_toList_iff.mpr m)) (doneBv C s.toks ?_ hp');rw[<- h1,Array.any_toList]
 case int.tup x tk t vs n as d e r=>
  have hp':(match allInt as with | some ys=>ret (ys.any (· ==x)) | none=>no) (Q) E σ:=hp;cases hy:allInt as with
  | none=>rw[hy] at hp';exact hp'.elim
  | some ys=>
   rw[hy] at hp';obtain⟨h1,h2⟩:=ints_any x tk A.in1 s r hy;refine SeqAt.in_tupleAt (isI x) ⟨_,e,rfl,n,rfl⟩ (fun v m=>h2 v (Array.mem_toList_iff.mpr m)) (doneBv C s.toks ?_ hp');rw[<- h1,Array.any_toList]
 case str.ref x t b=>
  obtain⟨ob,eb,hp⟩:=hp;cases ob<;>first | exact hp.elim | skip
  obtain⟨kvs,z,r⟩:=C.obj b _ eb;refine wpAny_in_of (strKind_is c.prog c.w x t) (notSys C eb) (Heap.DictOf.mapOf z) (doneBv C _ ?_ hp);rcases r.get x with ⟨e1,e2⟩ | ⟨_,_,e1,e2,_⟩<;>rw[e1,e2]<;>rfl
 case int.ref x t b=>
  obtain⟨ob,eb,hp⟩:=hp;cases ob<;>first | exact hp.elim | skip
  obtain⟨kvs,z,r⟩:=C.obj b _ eb;refine wpAny_in_of (intKind_is c.prog c.w x t) (notSys C eb) (Heap.DictOf.mapOf z) (doneBv C _ ?_ hp);rcases r.get x with ⟨e1,e2⟩ | ⟨_,_,e1,e2,_⟩<;>rw[e1,e2]<;>rfl
theorem notInM_ok {x y:Value} {a b:AV} (C:Conc c D σ s.heap) (hx:Rv c D s.heap x a) (hy:Rv c D s.heap y b):Tri c A l X D σ s (compareOp .NotIn x y) RBv (neg (inM a b)):=by
 intro Q E hp;cases hx<;>cases hy<;>first | exact hp.elim | skip
 case str.tup x tk t vs n as d e r=>
  have hp':(match allStr as with | some ys=>ret (ys.any (· ==x)) | none=>no) (fun b σ'=>ret (!b) Q E σ') E σ:=hp;cases hy:allStr as with
  | none=>rw[hy] at hp';exact hp'.elim
  | some ys=>
   rw[hy] at hp';obtain⟨h1,h2⟩:=strs_any x tk A.in1 s r hy;refine SeqAt.notIn_tupleAt (isS x) ⟨_,e,rfl,n,rfl⟩ (fun v m=>h2 v (Array.mem_toList_iff.mpr m)) (doneBv C s.toks ?_ hp');rw[<- h1,Array.any_toList]
 case int.tup x tk t vs n as d e r=>
  have hp':(match allInt as with | some ys=>ret (ys.any (· ==x)) | none=>no) (fun b σ'=>ret (!b) Q E σ') E σ:=hp;cases hy:allInt as with
  | none=>rw[hy] at hp';exact hp'.elim
  | some ys=>
   rw[hy] at hp';obtain⟨h1,h2⟩:=ints_any x tk A.in1 s r hy;refine SeqAt.notIn_tupleAt (isI x) ⟨_,e,rfl,n,rfl⟩ (fun v m=>h2 v (Array.mem_toList_iff.mpr m)) (doneBv C s.toks ?_ hp');rw[<- h1,Array.any_toList]
 case str.ref x t b=>
  obtain⟨ob,eb,hp⟩:=hp;cases ob<;>first | exact hp.elim | skip
  obtain⟨kvs,z,r⟩:=C.obj b _ eb;refine wpAny_notIn_of (strKind_is c.prog c.w x t) (notSys C eb) (Heap.DictOf.mapOf z) (doneBv C _ ?_ hp);rcases r.get x with ⟨e1,e2⟩ | ⟨_,_,e1,e2,_⟩<;>rw[e1,e2]<;>rfl
 case int.ref x t b=>
  obtain⟨ob,eb,hp⟩:=hp;cases ob<;>first | exact hp.elim | skip
  obtain⟨kvs,z,r⟩:=C.obj b _ eb;refine wpAny_notIn_of (intKind_is c.prog c.w x t) (notSys C eb) (Heap.DictOf.mapOf z) (doneBv C _ ?_ hp);rcases r.get x with ⟨e1,e2⟩ | ⟨_,_,e1,e2,_⟩<;>rw[e1,e2]<;>rfl
theorem cmpM_ok {op:Cop} {x y:Value} {a b:AV} (C:Conc c D σ s.heap) (hu:A.units+100 < cLine) (hx:Rv c D s.heap x a) (hy:Rv c D s.heap y b):Tri c A l X D σ s (compareOp (copOf op) x y) RBv (cmpM op a b):=by
 cases op;case eq=>exact eqM_ok C hu hx hy
 case ne=>exact neM_ok C hu hx hy
 case isin=>exact inM_ok C hx hy
 case notin=>exact notInM_ok C hx hy
 all_goals
  intro Q E hp;cases hy<;>first | exact hp.elim | skip
 case is.none=>exact is_none_gen (doneBv C s.toks (by cases hx<;>rfl) hp)
 case isnot.none=>exact wpAny_isNot_plain (by cases hx<;>rfl) (doneBv C s.toks (by cases hx<;>rfl) hp)
 all_goals
  cases hx<;>first | exact hp.elim | skip
 case lt.int.int=>exact PyProof.Rows.lt_int (doneBv C s.toks rfl hp)
 case le.int.int=>exact PyProof.Rows.le_int (doneBv C s.toks rfl hp)
 case gt.int.int=>exact PyProof.Rows.gt_int (doneBv C s.toks rfl hp)
 case ge.int.int=>exact PyProof.Rows.ge_int (doneBv C s.toks rfl hp)
end
def notSlice:Expr->Bool
 | .Slice ..=>false
 | _=>true
theorem sub_plain {e:Expr} (h:notSlice e=true) (o i:Value):subscripted e false o i=operate [o,i] (getItem o i):=by cases e<;>first | rfl | cases h
theorem RvL.get {c:Cfg} {D:Addr->Prop} {h:Heap}:∀ {vs:List Value} {as:List AV} {n:Nat} {a:AV},RvL c D h vs as->as[n]? =some a->∃ v,vs[n]? =some v/\Rv c D h v a
 | _,_,_,_,.nil,e=>by cases e
 | _,_,0,_,.cons r q,e=>by cases e;exact⟨_,rfl,r⟩
 | _,_,n+1,_,.cons r q,e=>q.get (n:=n) e
theorem RvL.set {c:Cfg} {D:Addr->Prop} {h:Heap} {v:Value} {a:AV} (x:Rv c D h v a):∀ {vs:List Value} {as:List AV} {n:Nat},RvL c D h vs as->RvL c D h (vs.set n v) (as.set n a)
 | _,_,_,.nil=>.nil
 | _,_,0,.cons r q=>.cons x q
 | _,_,n+1,.cons r q=>.cons r (q.set x)
theorem RvL.take {c:Cfg} {D:Addr->Prop} {h:Heap}:∀ {vs:List Value} {as:List AV} (n:Nat),RvL c D h vs as->RvL c D h (vs.take n) (as.take n)
 | _,_,n,.nil=>by rw[List.take_nil,List.take_nil];exact .nil
 | _,_,0,.cons r q=>.nil
 | _,_,n+1,.cons r q=>.cons r (q.take n)
theorem RvL.drop {c:Cfg} {D:Addr->Prop} {h:Heap}:∀ {vs:List Value} {as:List AV} (n:Nat),RvL c D h vs as->RvL c D h (vs.drop n) (as.drop n)
 | _,_,n,.nil=>by rw[List.drop_nil,List.drop_nil];exact .nil
 | _,_,0,.cons r q=>.cons r q
 | _,_,n+1,.cons r q=>q.drop n
section
variable {c:Cfg} {A:Around} {l:List Env} {X D:Addr->Prop} {σ:St} {s:Shared}
theorem seqIndex_nonneg {k:Int} {n:Nat} (h0:0<=k) (h1:k.toNat < n):seqIndex? k n=some k.toNat:=by
 exact seqIndex_of h0 (by omega)
theorem itemM_ok {x y:Value} {a b:AV} {val sl:Expr} (hsl:notSlice sl=true) (C:Conc c D σ s.heap) (hx:Rv c D s.heap x a) (hy:Rv c D s.heap y b):Tri c A l X D σ s (subscriptTail val sl x y) (RV c) (itemM a b):=by
 intro Q E hp;cases hx<;>cases hy<;>first | exact hp.elim | skip
 case str.int x t i u=>
  obtain⟨⟨h0,h60⟩,hp⟩:=hp;cases hq:x.cps[i.toNat]? with
  | none=>rw[hq] at hp;exact hp.elim
  | some k=>
   rw[hq] at hp;have hlt:i.toNat < x.cps.size:=(Array.getElem?_eq_some_iff.mp hq).1;exact tail_any (T:="str") (typeIs_str s x t) slot_str_getitem.lookup (PyProof.Rows.getItem_str (by simp;omega) (by rw[seqIndex_nonneg (n:=x.length) h0 hlt];exact hq) (done0 C _ (.str _ _) hp)) (sub_plain hsl _ _)
 case bytes.int x t i u=>
  obtain⟨⟨h0,h60,hz⟩,hp⟩:=hp;cases hq:x.toList[i.toNat]? with
  | none=>rw[hq] at hp;exact hp.elim
  | some k=>
   rw[hq] at hp;obtain⟨hlt,hk⟩:=List.getElem?_eq_some_iff.mp hq;have e:x=x.toList.toArray:=rfl;rw[e];refine tail_any (T:="bytes") (typeIs_bytes s _ t) PySem.W.FB.slot_bytes_getitem.lookup (getItem_bytes (by omega) h0 (by omega) (done0 C _ ?_ hp)) (sub_plain hsl _ _);rw[List.getD_eq_getElem?_getD,hq];exact .int _ _
 case ref.int a i u=>
  obtain⟨oa,ea,hp⟩:=hp;cases oa<;>dsimp only at hp<;>first | exact hp.elim | skip
  ·rename_i la;obtain⟨⟨h0,h60⟩,hp⟩:=hp;cases hq:la[i.toNat]? with
   | none=>rw[hq] at hp;exact hp.elim
   | some k=>
    rw[hq] at hp;obtain⟨vs,n,e1,r1⟩:=ConcO.listAt C ea;obtain⟨v,e2,r2⟩:=r1.get hq;have hlt:i.toNat < la.length:=(List.getElem?_eq_some_iff.mp hq).1;exact tail_any ⟨_,e1,rfl⟩ slot_list_getitem.lookup (wpAny_getItem_list ⟨_,e1,rfl,n,rfl⟩ h0 (by omega) (by rw[<- Array.getElem?_toList];exact e2) (done0 C s.toks r2 hp)) (sub_plain hsl _ _)
  ·rename_i es;cases hq:atKey es i with
   | none=>rw[hq] at hp;exact hp.elim
   | some k=>
    rw[hq] at hp;obtain⟨kvs,z,r⟩:=C.obj a _ ea;rcases r.get i with ⟨e1,e2⟩ | ⟨v,_,e1,e2,rv⟩
    ·rw[e2] at hq;cases hq
    ·rw[e2] at hq;cases hq;exact tail_any (Heap.MapOf.typeIs (Heap.DictOf.mapOf z)) slot_dict_getitem.lookup (wpAny_getItem_of (intKind_is c.prog c.w i u) (Heap.DictOf.mapOf z) e1 (done0 C _ rv hp)) (sub_plain hsl _ _)
 case ref.str a x u=>
  obtain⟨oa,ea,hp⟩:=hp;cases oa<;>dsimp only at hp<;>first | exact hp.elim | skip
  rename_i es;cases hq:atKey es x with
  | none=>rw[hq] at hp;exact hp.elim
  | some k=>
   rw[hq] at hp;obtain⟨kvs,z,r⟩:=C.obj a _ ea;rcases r.get x with ⟨e1,e2⟩ | ⟨v,_,e1,e2,rv⟩
   ·rw[e2] at hq;cases hq
   ·rw[e2] at hq;cases hq;exact tail_any (Heap.MapOf.typeIs (Heap.DictOf.mapOf z)) slot_dict_getitem.lookup (wpAny_getItem_of (strKind_is c.prog c.w x u) (Heap.DictOf.mapOf z) e1 (done0 C _ rv hp)) (sub_plain hsl _ _)
 case tup.int t vs n as d e r i u=>
  obtain⟨⟨h0,h60⟩,hp⟩:=hp;cases hq:as[i.toNat]? with
  | none=>rw[hq] at hp;exact hp.elim
  | some k=>
   rw[hq] at hp;obtain⟨v,e2,r2⟩:=r.get hq;have hlt:i.toNat < as.length:=(List.getElem?_eq_some_iff.mp hq).1;have l1:=r.length;rw[Array.length_toList] at l1;exact tail_any ⟨_,e,rfl⟩ slot_tuple_getitem.lookup (getItem_tuple ⟨_,e,rfl,n,rfl⟩ (by omega) (by omega) (seqIndex_nonneg h0 (by omega)) (by rw[<- Array.getElem?_toList];exact e2) (done0 C s.toks r2 hp)) (sub_plain hsl _ _)
theorem mapSeq_listO (f:Array Value->Array Value) (vs:Array Value) (n:Nat):∃ n',Obj.mapSeq f (listO vs n)=listO (f vs) n':=⟨_,rfl⟩
theorem doneTurn {Q:AV->St->Prop} (W:Wd c A l D σ s) {a:Addr} {vs:Array Value} {n:Nat} {as bs:List AV} {v:Value} {b:AV} (f:Array Value->Array Value) (t:Nat) (ea:σ a=some (.list as)) (e1:s.heap.get? a=some (listO vs n))
  (h:RvL c D s.heap (f vs).toList bs) (hv:Rv c D s.heap v b) (q:Q b (put σ a (.list bs))):
  ∃ D' σ' b,Rel c X (Yof l) D σ s D' σ' {s with heap:=s.heap.update a (Obj.mapSeq f),toks:=t}/\Rv c D' (s.heap.update a (Obj.mapSeq f)) v b/\Q b σ':=by
 obtain⟨n',e2⟩:=mapSeq_listO f vs n;have e3:(s.heap.update a (Obj.mapSeq f)).get? a=some (listO (f vs) n'):=by rw[<- e2];exact Heap.get?_update_self _ e1 (by rw[e2];rfl)
 have r:Rel c X (Yof l) D σ s D (put σ a (.list bs)) {s with heap:=s.heap.update a (Obj.mapSeq f),toks:=t}:=
  .turned W.conc a (.list bs) ea (by simp) (fun b ob nb e=>(Heap.get?_update_ne _ _ _ _ nb).trans e) (fun z=>⟨_,_,e3,h.mono z⟩) (fun b y=>W.y b y) rfl rfl
 exact⟨D,_,b,r,hv.mono r.fz,q⟩
theorem RvP.stored {D:Addr->Prop} {h:Heap} {κ:Type} [DecidableEq κ] {k:κ} {v:Value} {a:AV} (x:Rv c D h v a) {l:List (κ×Value)} {l':List (κ×AV)} (r:RvP D h c l l'):RvP D h c (stored l k v) (putK l' k a):=by
 have hany:∀ {l:List (κ×Value)} {l':List (κ×AV)},RvP D h c l l'->l.any (fun kv=>decide (kv.1=k))=l'.any (fun kv=>decide (kv.1=k)):=by
  intro l;induction l with
  | nil=>intro l' r;cases l'<;>first | rfl | exact r.elim
  | cons p l ih=>
   intro l' r;cases l' with
   | nil=>exact r.elim
   | cons p' l'=>rw[List.any_cons,List.any_cons,r.1,ih r.2.2]
 have hmap:∀ {l:List (κ×Value)} {l':List (κ×AV)},RvP D h c l l'->RvP D h c (l.map fun kv=>if kv.1=k then (kv.1,v) else kv) (l'.map fun kv=>if kv.1=k then (kv.1,a) else kv):=by
  intro l;induction l with
  | nil=>intro l' r;cases l'<;>first | exact r | exact r.elim
  | cons p l ih=>
   intro l' r;cases l' with
   | nil=>exact r.elim
   | cons p' l'=>
    obtain⟨e,q,r⟩:=r;refine⟨?_,?_,ih r⟩
    ·dsimp only;rw[e];by_cases hk:p'.1=k<;>simp [hk,e]
    ·dsimp only;rw[e];by_cases hk:p'.1=k
     ·simp only[hk,if_true];exact x
     ·simp only[hk,if_false];exact q
 have happ:∀ {l:List (κ×Value)} {l':List (κ×AV)},RvP D h c l l'->RvP D h c (l++[(k,v)]) (l'++[(k,a)]):=by
  intro l;induction l with
  | nil=>intro l' r;cases l'<;>first | exact⟨rfl,x,trivial⟩ | exact r.elim
  | cons p l ih=>
   intro l' r;cases l' with
   | nil=>exact r.elim
   | cons p' l'=>exact⟨r.1,r.2.1,ih r.2.2⟩
 unfold PySem.stored putK;rw[hany r];split
 ·exact hmap r
 ·exact happ r
theorem RvP.length {D:Addr->Prop} {h:Heap} {κ:Type}:∀ {l:List (κ×Value)} {l':List (κ×AV)},RvP D h c l l'->l.length=l'.length
 | [],[],_=>rfl
 | _::_,_::_,⟨_,_,r⟩=>congrArg (· +1) r.length
abbrev RU:(Addr->Prop)->Heap->Unit->AV->Prop:=fun _ _ _ _=>True
theorem setItemM_ok {x y v:Value} {a b d:AV} (W:Wd c A l D σ s) (hx:Rv c D s.heap x a) (hy:Rv c D s.heap y b) (hv:Rv c D s.heap v d):Tri c A l X D σ s (setItem x y v) RU (setItemM a b d):=by
 have C:=W.conc;intro Q E hp;cases hx<;>cases hy<;>first | exact hp.elim | skip
 case ref.int a i u=>
  obtain⟨oa,ea,hp⟩:=hp;cases oa<;>dsimp only at hp<;>first | exact hp.elim | skip
  ·rename_i la;obtain⟨⟨h0,h60,hlt⟩,hp⟩:=hp;obtain⟨vs,n,e1,r1⟩:=ConcO.listAt C ea;have l1:=r1.length;rw[Array.length_toList] at l1;refine ki_setAt (n:=n) e1 h0 (by omega) (by omega) ?_;obtain⟨D',σ',b,h1,h2,h3⟩:=doneTurn (X:=X) (Q:=Q) (v:=.none) (b:=.none) W (fun xs=>xs.setIfInBounds i.toNat v) s.toks ea e1 (bs:=la.set i.toNat d) (by rw[Array.toList_setIfInBounds];exact r1.set hv) .none hp;exact⟨D',σ',b,h1,trivial,h3⟩
  ·rename_i es;obtain⟨hsz,hp⟩:=hp;obtain⟨kvs,z,r⟩:=C.obj a _ ea;refine wpAny_setItem_pairs (hsz:=by rw[r.length,sizeLine_eq];omega) (intKind_is c.prog c.w i u) z fun h' z' hs=>?_;exact⟨D,_,.none,.turned C a (.dI (putK es i d)) ea (by simp) (fun b ob nb e=>(hs.2 b nb).trans e) (fun fz=>⟨_,z',(r.stored hv).mono fz⟩) (fun b y=>W.y b y) rfl rfl,trivial,hp⟩
 case ref.str a x u=>
  obtain⟨oa,ea,hp⟩:=hp;cases oa<;>dsimp only at hp<;>first | exact hp.elim | skip
  rename_i es;obtain⟨hsz,hp⟩:=hp;obtain⟨kvs,z,r⟩:=C.obj a _ ea;refine wpAny_setItem_pairs (hsz:=by rw[r.length,sizeLine_eq];omega) (strKind_is c.prog c.w x u) z fun h' z' hs=>?_;exact⟨D,_,.none,.turned C a (.dS (putK es x d)) ea (by simp) (fun b ob nb e=>(hs.2 b nb).trans e) (fun fz=>⟨_,z',(r.stored hv).mono fz⟩) (fun b y=>W.y b y) rfl rfl,trivial,hp⟩
end
def methN:Nat->Str
 | 0=>"get" | 1=>"append" | 2=>"extend" | 3=>"insert" | 4=>"pop" | 5=>"join" | 6=>"startswith" | _=>"index"
def methI:Nat->String
 | 0=>"dict.get" | 1=>"list.append" | 2=>"list.extend" | 3=>"list.insert" | 4=>"list.pop" | 5=>"str.join" | 6=>"bytes.startswith" | _=>"tuple.index"
theorem sw1 (M:Model) (h:Heap) (t u:Tok):Looks M h (Builtin.«bytes.startswith» ⟨[.bytes #[111,119,110] t,.bytes #[254,255] u],[]⟩) (.done (.ret (.bool false))):=Looks.of_peek (K:=[]) (fun _ _ e=>nomatch e) (by kernel_rfl)
theorem sw2 (M:Model) (h:Heap) (t u:Tok):Looks M h (Builtin.«bytes.startswith» ⟨[.bytes #[254,255,3,177] t,.bytes #[254,255] u],[]⟩) (.done (.ret (.bool true))):=Looks.of_peek (K:=[]) (fun _ _ e=>nomatch e) (by kernel_rfl)
theorem sw3 (M:Model) (h:Heap) (t u:Tok):Looks M h (Builtin.«bytes.startswith» ⟨[.bytes #[] t,.bytes #[254,255] u],[]⟩) (.done (.ret (.bool false))):=Looks.of_peek (K:=[]) (fun _ _ e=>nomatch e) (by kernel_rfl)
section
variable {prog:Program} {w:World} {A:Around} {E:Value->Shared->Prop} {s:Shared}
theorem call_looks {T:String} {name:Str} {id:String} {B:Builtin} {self:Value} {rest:List Value} {r:Value} {Q:Value->Shared->Prop} (slot:Slot T name id) (hT:s.TypeIs self T) (entry:entryFor table id=some B) (args:argsOk id ⟨self::rest,[]⟩)
  (g:∀ h,Looks (model prog w) h (B ⟨self::rest,[]⟩) (.done (.ret r))) (h:Q r s):wpAny (model prog w) A (call (.builtin id) (self::rest)) Q E s:=by
 refine call_meetsIn (S:=fun _ R s'=>R (.ok (.ret r)) s') slot hT entry args (.of_wp fun A R s' h'=>?_) h;exact (g s'.heap).here ⟨_,rfl,h'⟩
theorem tupIndex {t:Addr} {va vb vd:Value} {n:Nat} {i:Int} {u:Tok} {k:Nat} {ea eb ed:Bool} {Q:Value->Shared->Prop} (ht:s.heap.get? t=some {cls:=.type "tuple",data:=.seq #[va,vb,vd] n})
  (ha:∀ A s,SeqAt.EqAt A s va (.int i u) ea) (hb:∀ A s,SeqAt.EqAt A s vb (.int i u) eb) (hd:∀ A s,SeqAt.EqAt A s vd (.int i u) ed) (hk:(if ea then some 0 else if eb then some 1 else if ed then some 2 else none)=some k)
  (h:Q (.int k s.toks) {s with toks:=s.toks+1}):wpAny (model prog w) A (call (.builtin "tuple.index") [.ref t,.int i u]) Q E s:=by
 refine call_meetsIn (S:=fun _ R s'=>s'.heap.get? t=some {cls:=.type "tuple",data:=.seq #[va,vb,vd] n}/\R (.ok (.ret (.int k s'.toks))) {s' with toks:=s'.toks+1}) PySem.F.slot_tuple_index ⟨_,ht,rfl⟩ PySem.F.entry_tuple_index (PySem.F.args_tuple_index_2 _ _) (.of_wp fun A R s' h'=>?_) ⟨ht,h⟩;obtain⟨ht,h⟩:=h';unfold Builtin.«tuple.index»;refine wpAny_bind ((Looks.of_peek (K:=[]) (r:=(Value.ref t,[Value.int i u])) (fun _ _ e=>nomatch e) (by kernel_rfl)).here (wpAny_bind (PySem.wpAny_tupleItemsOf ht rfl ?_)));refine wpAny_bind (wpAny_pure (wpAny_bind (wpAny_pure ?_)));show wpAny _ _ (forIn [0:3] (none,()) _ >>=_) _ _ _;rw[Std.Legacy.Range.forIn_eq_forIn_range'];show wpAny _ _ (forIn [0,1,2] (none,()) _ >>=_) _ _ _;have step:∀ (y:Value) (e:Bool) (j:Nat) (s₁:Shared) (Q':ForInStep (Option PySem.Fin×Unit)->Shared->Prop) (E':Value->Shared->Prop),(∀ A s,SeqAt.EqAt A s y (.int i u) e)->(e=true->Q' (.done (some (.done (.ret (.int j s₁.toks))),())) {s₁ with toks:=s₁.toks+1})->(e=false->Q' (.yield (none,())) s₁)->
   wpAny (model prog w) A.in1 (do
    let b <- eqBool y (Value.int i u)
    if b=true then do
     let r <- retInt (j:Int)
     pure (ForInStep.done (some r,()))
    else pure (ForInStep.yield (none,()))) Q' E' s₁:=by
  intro y e j s₁ Q' E' he h1 h2;refine wpAny_bind (he _ _ _ _ _ _ ?_);cases e with
  | true=>rw[if_pos rfl];exact wpAny_bind (wpAny_bind (wpAny_bind (wpAny_fresh (wpAny_pure (wpAny_pure (wpAny_pure (h1 rfl)))))))
  | false=>rw[if_neg (by decide)];exact wpAny_pure (h2 rfl)
 have fin:∀ (z:Nat),k=z->∃ v,Fin.done (Flow.ret (Value.int (z:Int) s'.toks))=Fin.done (Flow.ret v)/\R (Except.ok (Flow.ret v)) {s' with toks:=s'.toks+1}:=fun z e=>⟨_,rfl,e ▸ h⟩;rw[List.forIn_cons];refine wpAny_bind (wpAny_bind (step va ea 0 s' _ _ ha (fun e=>?_) fun e=>?_))
 ·subst e;cases hk;exact wpAny_pure (wpAny_pure (fin 0 rfl))
 subst e;dsimp only;rw[List.forIn_cons];refine wpAny_bind (step vb eb 1 s' _ _ hb (fun e=>?_) fun e=>?_)
 ·subst e;cases hk;exact wpAny_pure (wpAny_pure (fin 1 rfl))
 subst e;dsimp only;rw[List.forIn_cons];refine wpAny_bind (step vd ed 2 s' _ _ hd (fun e=>?_) fun e=>?_)
 ·subst e;cases hk;exact wpAny_pure (wpAny_pure (fin 2 rfl))
 subst e;cases hk
theorem dictGetNone {prog:Program} {w:World} {A:Around} {E:Value->Shared->Prop} {s:Shared} {K:Type} [DecidableEq K] {knd:HeapKind prog w K} {d:Addr} {xs:List (K×Addr×Value)} {Q:Option Value->Shared->Prop} (hu:A.units < cLine) (hm:s.heap.DictOfH knd d xs) (hne:∀ x∈xs,knd.hash x.1≠0xFCA86420)
  (h:∀ tk,Q none {s with toks:=tk}):wpAny (model prog w) A (dictGet d .none) Q E s:=by
 obtain⟨o,es,ep,ho,hx,hd,he,hk,hn⟩:=hm;unfold dictGet;have hw:hashW w.params .none=0xFCA86420:=by unfold hashW;decide+kernel
 refine wpAny_holding (wpAny_bind (pyHash_laid .none .none A s _ rfl .none hu fun tk=>wpAny_bind ?_));rw[hw];have places:placesWithHash es.size (fun i=>es[i]?.map (·.hash)) 0xFCA86420=[]:=by
  unfold placesWithHash;rw[List.filter_eq_nil_iff];intro i _ q;rw[beq_iff_eq] at q;obtain⟨e,hei,hh⟩:=Option.map_eq_some_iff.mp q;have hin:e∈es.toList:=Array.mem_toList_iff.mpr (Array.mem_of_getElem? hei);rw[he] at hin;obtain⟨x,hx,rfl⟩:=List.mem_map.mp hin;exact hne x hx hh
 unfold dictFind;refine wpAny_holding (wpAny_bind (wpAny_dictEntries ho hd ?_));dsimp only;rw[places];refine wpAny_bind ?_;exact wpAny_pure (wpAny_pure (wpAny_pure (h tk)))
end
theorem joinS_cps (ys:List Str):∀ z:Str,ys.foldl (· ++·) z=⟨ys.foldl (fun acc p=>acc++(#[]:Array Nat)++p.cps) z.cps⟩:=by
 induction ys with
 | nil=>intro z;rfl
 | cons y r ih=>
  intro z;rw[List.foldl_cons,List.foldl_cons,ih,Array.append_empty];rfl
theorem glued_empty (ys:List Str):Txt.join Str.empty ys=joinS ys:=by
 unfold joinS;rw[joinS_cps];cases ys with
 | nil=>rfl
 | cons y r=>
  show Str.mk _=Str.mk _;rw[List.foldl_cons];congr 1;show List.foldl _ _ (List.drop 1 (y::r))=_;rw[List.drop_one,List.tail_cons];congr 1;show y.cps=Str.empty.cps++#[]++y.cps;simp [Str.empty]
theorem ints_are {c:Cfg} {D:Addr->Prop} {h:Heap}:∀ {vs:List Value} {as:List AV} {ys:List Int},RvL c D h vs as->allInt as=some ys->ItemsAre (intKind c.prog c.w) ys vs
 | _,_,_,.nil,e=>by cases e;exact .nil
 | _,_,ys,.cons r q,e=>by
  cases r<;>simp only[allInt,Option.map_eq_some_iff,reduceCtorEq] at e;obtain⟨zs,e,rfl⟩:=e;exact .cons (intKind_is _ _ _ _) (ints_are q e)
theorem RvT.get {D:Addr->Prop} {h:Heap} {c:Cfg} (k:List Int):∀ {l:List (List Int×Addr×Value)} {l':List (List Int×AV)},RvT D h c l l'->((PySem.atKey l k).map (·.2)=none/\Mine.atKey l' k=none)\/∃ v a,(PySem.atKey l k).map (·.2)=some v/\Mine.atKey l' k=some a/\Rv c D h v a
 | [],[],_=>.inl ⟨rfl,rfl⟩
 | x::r,y::r',⟨e,_,v,q⟩=>by
  have z:=RvT.get k q;unfold PySem.atKey Mine.atKey at *;rw[List.find?_cons,List.find?_cons,e];by_cases hk:y.1=k
  ·rw[decide_eq_true hk];exact .inr ⟨_,_,rfl,rfl,v⟩
  ·rw[decide_eq_false hk];exact z
theorem allStr_are {c:Cfg} {D:Addr->Prop} {h:Heap}:∀ {vs:List Value} {as:List AV} {ys:List Str},RvL c D h vs as->allStr as=some ys->StrsAre vs ys
 | _,_,_,.nil,e=>by cases e;exact .nil
 | _,_,ys,.cons r q,e=>by
  cases r<;>simp only[allStr,Option.map_eq_some_iff,reduceCtorEq] at e;obtain⟨zs,e,rfl⟩:=e;exact .cons _ _ (allStr_are q e)
section
variable {c:Cfg} {A:Around} {l:List Env} {X D:Addr->Prop} {σ:St} {s:Shared}
theorem getM_ok {x:Value} {vs:List Value} {a:AV} {as:List AV} (C:Conc c D σ s.heap) (hu:A.units+100 < cLine) (hx:Rv c D s.heap x a) (hv:RvL c D s.heap vs as):Tri c A l X D σ s (call (.builtin "dict.get") (x::vs)) (RV c) (getM a as):=by
 intro Q E hp;cases hx<;>first | exact hp.elim | skip
 rename_i a;rcases hv with _ | ⟨h1,_ | ⟨h2,_ | ⟨h3,h4⟩⟩⟩
 ·exact hp.elim
 ·cases h1<;>first | exact hp.elim | skip
  rename_i x t;obtain⟨oa,ea,hp⟩:=hp;cases oa<;>dsimp only at hp<;>first | exact hp.elim | skip
  obtain⟨kvs,z,r⟩:=C.obj a _ ea;refine call_meetsIn PySem.F.slot_dict_get (Heap.MapOf.typeIs (Heap.DictOf.mapOf z)) PySem.F.entry_dict_get (PySem.F.args_dict_get_2 _ _) (meets_dict_get (strKind c.prog c.w) a (strKind_is c.prog c.w x t) (notSys C ea)) ⟨_,Heap.DictOf.mapOf z,?_⟩;rcases r.get x with ⟨e1,e2⟩ | ⟨v,_,e1,e2,rv⟩
  ·rw[e1];rw[e2] at hp;exact done0 C _ .none hp
  ·rw[e1];rw[e2] at hp;exact done0 C _ rv hp
 ·have key:∀ {κ:Type} [DecidableEq κ] (knd:PySem.KeyKind c.prog c.w κ) {k:κ} {key:Value} {es:List (κ×AV)} {kvs:List (κ×Value)} {dv:Value} {d:AV},knd.is k key=true->(a==sysModules)=false->s.heap.DictOf knd a kvs->RvP D s.heap c kvs es->Rv c D s.heap dv d->Q ((atKey es k).getD d) σ->
    wpAny (model c.prog c.w) A (call (.builtin "dict.get") [.ref a,key,dv]) (fun v s'=>∃ D' σ' a,Rel c X (Yof l) D σ s D' σ' s'/\RV c D' s'.heap v a/\Q a σ') (fun e s'=>∃ D' σ',Rel c X (Yof l) D σ s D' σ' s'/\Exc c l D' σ' s.heap s'.heap e/\E σ') s:=by
   intro κ _ knd k key es kvs dv d hk hn z r hd hq;refine call_meetsIn PySem.F.slot_dict_get (Heap.MapOf.typeIs (Heap.DictOf.mapOf z)) PySem.F.entry_dict_get (PySem.F.args_dict_get_3 _ _ _) (meets_dict_get_default knd a hk hn dv) ⟨_,Heap.DictOf.mapOf z,?_⟩;rcases r.get k with ⟨e1,e2⟩ | ⟨v,_,e1,e2,rv⟩
   ·rw[e1];rw[e2] at hq;exact done0 C _ hd hq
   ·rw[e1];rw[e2] at hq;exact done0 C _ rv hq
  cases h1<;>first | exact hp.elim | skip
  case none=>
   obtain⟨oa,ea,hp⟩:=hp;cases oa<;>dsimp only at hp<;>first | exact hp.elim | skip
   rename_i es;obtain⟨hall,hp⟩:=hp;obtain⟨xs,z,r⟩:=C.obj a _ ea;refine call_meetsIn (S:=fun A' R s'=>A'.in1.units < cLine/\s'.heap.DictOfH (tupK c) a xs/\∀ tk,R (.ok (.ret _)) {s' with toks:=tk}) PySem.F.slot_dict_get (Heap.DictOfH.typeIs z) PySem.F.entry_dict_get (PySem.F.args_dict_get_3 _ _ _) (.of_wp fun A' R s' h'=>?_) ⟨(by show A.units+1 < cLine;omega),z,fun tk=>done0 C tk h2 hp⟩;obtain⟨hu',z',hR⟩:=h';show wpAny _ _ (dictGet a .none >>=_) _ _ _;refine wpAny_bind (dictGetNone hu' z' (fun x hx=>?_) fun tk=>?_)
   ·have:∀ {l:List (List Int×Addr×Value)} {l':List (List Int×AV)},RvT D s.heap c l l'->(l'.all fun e=>tkh e.1 != 0xFCA86420)=true->∀ x∈l,tkh x.1≠0xFCA86420:=by
     intro l;induction l with
     | nil=>intro _ _ _ x hx;cases hx
     | cons p l ih=>
      intro l' r h x hx;cases l' with
      | nil=>exact r.elim
      | cons p' l'=>
       rw[List.all_cons,Bool.and_eq_true] at h;rcases List.mem_cons.mp hx with rfl | hx
       ·rw[r.1];exact bne_iff_ne.mp h.1
       ·exact ih r.2.2.2 h.2 x hx
    exact this r hall x hx
   ·show wpAny _ _ (Builtin.Dict.missed a .none >>=_) _ _ _;exact wpAny_bind (wpAny_missed_other (notSys C ea) (wpAny_pure ⟨_,rfl,hR tk⟩))
  case int i t=>
   obtain⟨oa,ea,hp⟩:=hp;cases oa<;>dsimp only at hp<;>first | exact hp.elim | skip
   obtain⟨kvs,z,r⟩:=C.obj a _ ea;exact key (intKind c.prog c.w) (intKind_is c.prog c.w i t) (notSys C ea) z r h2 hp
  case str x t=>
   obtain⟨oa,ea,hp⟩:=hp;cases oa<;>dsimp only at hp<;>first | exact hp.elim | skip
   obtain⟨kvs,z,r⟩:=C.obj a _ ea;exact key (strKind c.prog c.w) (strKind_is c.prog c.w x t) (notSys C ea) z r h2 hp
  case tup t vs n kl d1 e1 r1=>
   obtain⟨oa,ea,hp⟩:=hp;cases oa<;>dsimp only at hp<;>first | exact hp.elim | skip
   rename_i es;cases hq:allInt kl with
   | none=>rw[hq] at hp;exact hp.elim
   | some ks=>
    rw[hq] at hp;dsimp only at hp;obtain⟨xs,z,r⟩:=C.obj a _ ea;have hk:(tupK c).is s.heap ks t:=⟨_,vs,n,e1,rfl,rfl,ints_are r1 hq⟩;refine call_meetsIn PySem.F.slot_dict_get (Heap.DictOfH.typeIs z) PySem.F.entry_dict_get (PySem.F.args_dict_get_3 _ _ _) (meetsH_dict_get_default (tupK c) a t (notSys C ea) _) ⟨(by show A.in1.units < cLine;show A.units+1 < cLine;omega),ks,xs,hk,z,?_⟩;rcases r.get ks with ⟨e1,e2⟩ | ⟨v,_,e1,e2,rv⟩
    ·rw[e1];rw[e2] at hp;exact done0 C _ h2 hp
    ·rw[e1];rw[e2] at hp;exact done0 C _ rv hp
 ·cases h1<;>exact hp.elim
theorem toList_dropLast (vs:Array Value):(vs.eraseIdxIfInBounds (vs.size - 1)).toList=vs.toList.dropLast:=by
 rw[Array.toList_eraseIdxIfInBounds,<- Array.length_toList,List.eraseIdx_length_sub_one]
theorem RvL.dropLast {c:Cfg} {D:Addr->Prop} {h:Heap} {vs:List Value} {as:List AV} (r:RvL c D h vs as):RvL c D h vs.dropLast as.dropLast:=by
 rw[List.dropLast_eq_take,List.dropLast_eq_take,r.length];exact r.take _
theorem methM_ok {m:Nat} {x:Value} {vs:List Value} {a:AV} {as:List AV} (W:Wd c A l D σ s) (hu:A.units+100 < cLine) (hx:Rv c D s.heap x a) (hv:RvL c D s.heap vs as):Tri c A l X D σ s (call (.builtin (methI m)) (x::vs)) (RV c) (methM m a as):=by
 have C:=W.conc
 match m with
 | 0=>exact getM_ok C hu hx hv
 | 1=>
  intro Q E hp;cases hx<;>first | exact hp.elim | skip
  rename_i a;rcases hv with _ | ⟨h1,_ | ⟨h2,h3⟩⟩<;>first | exact hp.elim | skip
  obtain⟨oa,ea,hp⟩:=hp;cases oa<;>dsimp only at hp<;>first | exact hp.elim | skip
  obtain⟨hsz,hp⟩:=hp;obtain⟨ws,n,e1,r1⟩:=ConcO.listAt C ea;have l1:=r1.length;rw[Array.length_toList] at l1;refine call_meets PySem.F.slot_list_append ⟨_,e1,rfl⟩ PySem.F.entry_list_append (PySem.F.args_list_append_2 _ _) (PySem.list_append a ws n _ (by rw[sizeLine_eq];omega)) ⟨e1,?_⟩;exact doneTurn W _ s.toks ea e1 (by rw[Array.toList_push];exact r1.append (.cons h1 .nil)) .none hp
 | 2=>
  intro Q E hp;cases hx<;>first | exact hp.elim | skip
  rename_i a;rcases hv with _ | ⟨h1,_ | ⟨h2,h3⟩⟩<;>first | exact hp.elim | skip
  ·cases h1<;>first | exact hp.elim | skip
   rename_i b;obtain⟨oa,ea,ob,eb,hp⟩:=hp;cases oa<;>cases ob<;>dsimp only at hp<;>first | exact hp.elim | skip
   obtain⟨⟨hab,hsz⟩,hp⟩:=hp;obtain⟨ws,n,e1,r1⟩:=ConcO.listAt C ea;obtain⟨us,k,e2,r2⟩:=ConcO.listAt C eb;have l1:=r1.length;have l2:=r2.length;rw[Array.length_toList] at l1 l2;refine call_meets PySem.F.slot_list_extend ⟨_,e1,rfl⟩ PySem.F.entry_list_extend (PySem.F.args_list_extend_2 _ _) (AutoSeq1.list_extend_list_list_0 a ws n b us k (by simp [Builtin.List.listTooLong,sizeLine];omega) (by rw[sizeLine_eq];omega) (by rw[sizeLine_eq];omega)) ⟨e1,e2,?_⟩;exact doneTurn W _ s.toks ea e1 (by rw[Array.toList_append];exact r1.append r2) .none hp
  ·cases h1<;>exact hp.elim
 | 3=>
  intro Q E hp;cases hx<;>first | exact hp.elim | skip
  rename_i a;rcases hv with _ | ⟨h1,_ | ⟨h2,_ | ⟨h3,h4⟩⟩⟩<;>first | exact hp.elim | skip
  ·cases h1<;>exact hp.elim
  ·cases h1<;>first | exact hp.elim | skip
   rename_i i t;obtain⟨oa,ea,hp⟩:=hp;cases oa<;>dsimp only at hp<;>first | exact hp.elim | skip
   obtain⟨⟨rfl,hsz⟩,hp⟩:=hp;obtain⟨ws,n,e1,r1⟩:=ConcO.listAt C ea;have l1:=r1.length;rw[Array.length_toList] at l1;refine call_meets PySem.F.slot_list_insert ⟨_,e1,rfl⟩ PySem.F.entry_list_insert (PySem.F.args_list_insert_3 _ _ _) (AutoSeq1.list_insert_list_int_val_1 a ws n 0 t _ (by decide+kernel) (by rw[sizeLine_eq];omega)) ⟨e1,?_⟩;exact doneTurn W _ s.toks ea e1 (by simpa using RvL.cons h2 r1) .none hp
  ·cases h1<;>exact hp.elim
 | 4=>
  intro Q E hp;cases hx<;>first | exact hp.elim | skip
  rename_i a;rcases hv with _ | ⟨h1,_ | ⟨h2,h3⟩⟩<;>first | exact hp.elim | skip
  ·obtain⟨oa,ea,hp⟩:=hp;cases oa<;>dsimp only at hp<;>first | exact hp.elim | skip
   rename_i la;obtain⟨hsz,hp⟩:=hp;cases hq:la.getLast? with
   | none=>rw[hq] at hp;exact hp.elim
   | some v=>
    rw[hq] at hp;obtain⟨ws,n,e1,r1⟩:=ConcO.listAt C ea;have l1:=r1.length;rw[Array.length_toList] at l1;rw[List.getLast?_eq_getElem?] at hq;obtain⟨y,hy,ry⟩:=r1.get hq;refine call_meets PySem.F.slot_list_pop ⟨_,e1,rfl⟩ PySem.F.entry_list_pop (PySem.F.args_list_pop_1 _) (MeetsSeq.list_pop_last a ws n y (by rw[<- Array.getElem?_toList,l1];exact hy) (by rw[sizeLine_eq];omega)) ⟨e1,?_⟩;exact doneTurn W _ s.toks ea e1 (by rw[toList_dropLast];exact r1.dropLast) ry hp
  ·cases h1<;>first | exact hp.elim | skip
   rename_i i t;obtain⟨oa,ea,hp⟩:=hp;cases oa<;>(try dsimp only at hp)<;>first | exact hp.elim | skip
   rename_i la;cases la with
   | nil=>exact hp.elim
   | cons y la=>
    obtain⟨⟨rfl,hsz⟩,hp⟩:=hp;obtain⟨ws,n,e1,r1⟩:=ConcO.listAt C ea;have l1:=r1.length;rw[Array.length_toList] at l1;obtain⟨ws⟩:=ws;rcases r1 with _ | ⟨ry,r1⟩
    rename_i v ws;refine call_meets PySem.F.slot_list_pop ⟨_,e1,rfl⟩ PySem.F.entry_list_pop (PySem.F.args_list_pop_2 _ _) (MeetsSeq.list_pop_at a _ n 0 t 0 v (by decide+kernel) (seqIndex?_zero (by simp)) (by simp) (by rw[sizeLine_eq,l1];simp only[List.length_cons];omega)) ⟨e1,?_⟩;exact doneTurn W _ s.toks ea e1 (by simpa using r1) ry hp
  ·cases h1<;>exact hp.elim
 | 5=>
  intro Q E hp;cases hx<;>first | exact hp.elim | skip
  rename_i x t;rcases hv with _ | ⟨h1,_ | ⟨h2,h3⟩⟩<;>first | exact hp.elim | skip
  ·cases h1<;>first | exact hp.elim | skip
   rename_i a;obtain⟨oa,ea,hp⟩:=hp;cases oa<;>dsimp only at hp<;>first | exact hp.elim | skip
   rename_i la;cases hq:allStr la with
   | none=>rw[hq] at hp;exact hp.elim
   | some ys=>
    rw[hq] at hp;obtain⟨⟨rfl,hsz⟩,hp⟩:=hp;obtain⟨ws,n,e1,r1⟩:=ConcO.listAt C ea;refine join_list ⟨_,e1,rfl,n,rfl⟩ (allStr_are r1 hq) (by show _+_ * 0<=_;omega) fun t' k=>?_;rw[glued_empty];exact done0 C _ (.str _ _) hp
  ·cases h1<;>exact hp.elim
 | 6=>
  intro Q E hp;cases hx<;>first | exact hp.elim | skip
  rename_i b t;rcases hv with _ | ⟨h1,_ | ⟨h2,h3⟩⟩<;>first | exact hp.elim | skip
  ·cases h1<;>first | exact hp.elim | skip
   rename_i d u;obtain⟨⟨e1,e2⟩,hp⟩:=hp;obtain⟨b⟩:=b;obtain⟨d⟩:=d;dsimp only at e1 e2 hp;subst e1;rcases e2 with e2 | e2 | e2<;>subst e2
   ·exact call_looks PySem.W.FB.slot_bytes_startswith (PySem.W.typeIs_bytes s _ t) PySem.W.FB.entry_bytes_startswith (PySem.W.FB.args_bytes_startswith_2 _ _) (fun h=>sw1 _ h t u) (done0 C s.toks (.bool _) hp)
   ·exact call_looks PySem.W.FB.slot_bytes_startswith (PySem.W.typeIs_bytes s _ t) PySem.W.FB.entry_bytes_startswith (PySem.W.FB.args_bytes_startswith_2 _ _) (fun h=>sw2 _ h t u) (done0 C s.toks (.bool _) hp)
   ·exact call_looks PySem.W.FB.slot_bytes_startswith (PySem.W.typeIs_bytes s _ t) PySem.W.FB.entry_bytes_startswith (PySem.W.FB.args_bytes_startswith_2 _ _) (fun h=>sw3 _ h t u) (done0 C s.toks (.bool _) hp)
  ·cases h1<;>exact hp.elim
 | 7=>
  intro Q E hp;cases hx<;>first | exact hp.elim | skip
  rename_i t vs n kl d1 e1 r1;obtain⟨ws⟩:=vs;rcases r1 with _ | ⟨q1,_ | ⟨q2,_ | ⟨q3,_ | ⟨q4,r4⟩⟩⟩⟩
  ·exact hp.elim
  ·cases q1<;>exact hp.elim
  ·cases q1<;>cases q2<;>exact hp.elim
  ·cases q1<;>cases q2<;>cases q3<;>first | exact hp.elim | skip
   rename_i a ta b tb d td;rcases hv with _ | ⟨h1,_ | ⟨h2,h3⟩⟩<;>first | exact hp.elim | skip
   ·cases h1<;>first | exact hp.elim | skip
    rename_i i u;obtain⟨hin,hp⟩:=hp;have eq:∀ (y:Int) (ty:Tok) (A:Around) (s:Shared),SeqAt.EqAt A s (.int y ty) (.int i u) (decide (y=i)):=fun y ty A s prog w E Q hq=>(intKind prog w).eqBool (intKind_is prog w y ty) (intKind_is prog w i u) hq;refine tupIndex (k:=if i=a then 0 else if i=b then 1 else 2) e1 (eq a ta) (eq b tb) (eq d td) ?_ (done0 C _ ?_ hp)
    ·by_cases z1:i=a
     ·simp [z1]
     ·by_cases z2:i=b
      ·subst z2;simp [z1,Ne.symm z1]
      ·have z3:i=d:=by rcases hin with h | h | h<;>first | exact absurd h z1 | exact absurd h z2 | exact h
       subst z3;simp [z1,z2,Ne.symm z1,Ne.symm z2]
    ·have:((if i=a then 0 else if i=b then 1 else 2:Nat):Int)=(if i=a then 0 else if i=b then 1 else 2:Int):=by split<;>(try split)<;>rfl
     rw[this];exact .int _ _
   ·cases h1<;>exact hp.elim
  ·exact (by cases q1<;>cases q2<;>cases q3<;>exact hp.elim)
 | _+8=>intro Q E hp;exact hp.elim
end
def clsV (ca:Nat->Addr) (t:Nat):Value:=match t with
 | 10=>.type "bool" | 11=>.type "int" | 12=>.type "list" | 13=>.type "dict" | n=>.ref (ca n)
def tys:List Nat:=[0,1,2,3,4,5,6,7,8,10,11,12,13]
def owns:List Nat:=[0,1,2,3,4,5,6,7]
def isiOk (K:Frag) (ca:Nat->Addr):Bool:=tys.all fun t=>
 (kitOne K (.type "NoneType") (clsV ca t)==some false)&&(kitOne K (.type "bool") (clsV ca t)==some (t==10||t==11))&&(kitOne K (.type "int") (clsV ca t)==some (t==11))&&
 (kitOne K (.type "list") (clsV ca t)==some (t==12))&&(kitOne K (.type "dict") (clsV ca t)==some (t==13))&&
 (t==7||owns.all fun k=>kitOne K (.ref (ca k)) (clsV ca t)==some (t==k))
def ownOk (K:Frag) (ca:Nat->Addr):Bool:=owns.all fun k=>
 plainGet K (ca k) "__class__"&&hasDictIn K (ca k)&&(findIn K (.ref (ca k)) "__class__"==some (some (.builtin "object.__class__")))&&(mroIn K (ca k) (.type "object")==some true)&&
 (fieldsOf k).all fun f=>findIn K (.ref (ca k)) (attrName f)==some none
def classOk (K:Frag):Bool:=(specialIn K (.builtin "object.__class__") "__get__"==some (some (.builtin "getset_descriptor.__get__")))&&(takesIn K (.builtin "object.__class__")==some true)
structure Good (c:Cfg):Prop where
 isi:isiOk c.K c.ca=true
 own:ownOk c.K c.ca=true
 cls:classOk c.K=true
section
variable {c:Cfg} {A:Around} {l:List Env} {X D:Addr->Prop} {σ:St} {s:Shared}
theorem Good.plain (g:Good c) {k:Nat} (hk:k∈owns):plainGet c.K (c.ca k) "__class__"=true/\hasDictIn c.K (c.ca k)=true/\findIn c.K (.ref (c.ca k)) "__class__"=some (some (.builtin "object.__class__"))/\mroIn c.K (c.ca k) (.type "object")=some true/\∀ f∈fieldsOf k,findIn c.K (.ref (c.ca k)) (attrName f)=some none:=by
 have z:=List.all_eq_true.mp g.own k hk;simp only[Bool.and_eq_true,beq_iff_eq,List.all_eq_true] at z;exact⟨z.1.1.1.1,z.1.1.1.2,z.1.1.2,z.1.2,z.2⟩
theorem Good.is (g:Good c) {t:Nat} (ht:t∈tys):kitOne c.K (.type "NoneType") (clsV c.ca t)=some false/\kitOne c.K (.type "bool") (clsV c.ca t)=some (t==10||t==11)/\kitOne c.K (.type "int") (clsV c.ca t)=some (t==11)/\
  kitOne c.K (.type "list") (clsV c.ca t)=some (t==12)/\kitOne c.K (.type "dict") (clsV c.ca t)=some (t==13)/\(t≠7->∀ k∈owns,kitOne c.K (.ref (c.ca k)) (clsV c.ca t)=some (t==k)):=by
 have z:=List.all_eq_true.mp g.isi t ht;simp only[Bool.and_eq_true,beq_iff_eq,List.all_eq_true,Bool.or_eq_true] at z;exact⟨z.1.1.1.1.1,z.1.1.1.1.2,z.1.1.1.2,z.1.1.2,z.1.2,fun n k hk=>z.2.elim (fun q=>absurd q n) fun q=>q k hk⟩
theorem own_of_fields {k:Nat} {f:Nat} (h:f∈fieldsOf k):k∈owns:=by
 unfold fieldsOf at h;split at h<;>first | (unfold owns;decide) | cases h
theorem instAt_of {h:Heap} {x dx C:Addr} {es:List DictEntry} {n:Nat} (e1:h.get? x=some (instObj C dx)) (e2:h.get? dx=some (dictOf es n)):PySem.W.InstAt h x (instObj C dx) C (some (dictOf es n)):=⟨e1,rfl,rfl,e2⟩
theorem instM_ok {x:Value} {a:AV} {t:Nat} (g:Good c) (ht:t∈tys) (h7:t≠7) (C:Conc c D σ s.heap) (hx:Rv c D s.heap x a):
  Tri c A l X D σ s (call (.builtin "isinstance") [x,clsV c.ca t]) RBv (instM a t):=by
 obtain⟨z1,z2,z3,z4,z5,z6⟩:=g.is ht;intro Q E hp;cases hx<;>first | exact hp.elim | skip
 case none=>exact kia_one kitx_none C.kin trivial z1 (by simp) fun tk=>doneBv C tk rfl hp
 case bool b=>exact kia_one kitx_bool C.kin trivial z2 (by simp) fun tk=>doneBv C tk rfl hp
 case int i u=>exact kia_one kitx_int C.kin trivial z3 (by simp) fun tk=>doneBv C tk rfl hp
 case ref a=>
  obtain⟨oa,ea,hp⟩:=hp;cases oa<;>dsimp only at hp<;>first | exact hp.elim | skip
  ·obtain⟨vs,n,e1,r1⟩:=ConcO.listAt C ea;exact kia_one kitx_list C.kin ⟨_,e1,rfl⟩ z4 (by simp) fun tk=>doneBv C tk rfl hp
  ·obtain⟨kvs,⟨o,es,ep,e1,e2,e3⟩,r⟩:=C.obj a _ ea;exact kia_one kitx_dict C.kin ⟨_,e1,e2.1⟩ z5 (by simp) fun tk=>doneBv C tk rfl hp
  ·obtain⟨kvs,⟨o,es,ep,e1,e2,e3⟩,r⟩:=C.obj a _ ea;exact kia_one kitx_dict C.kin ⟨_,e1,e2.1⟩ z5 (by simp) fun tk=>doneBv C tk rfl hp
 case inst x dx k es n fs d1 d2 e1 e2 r=>
  obtain⟨hk,hp⟩:=hp;obtain⟨p1,p2,p3,p4,_⟩:=g.plain hk;have q:=g.cls;unfold classOk at q;rw[Bool.and_eq_true,beq_iff_eq,beq_iff_eq] at q;exact kia_one (kitx_own p1 p2 p3 q.1 q.2 p4) C.kin (instAt_of e1 e2) (z6 h7 k hk) (by simp) fun tk=>doneBv C tk rfl hp
theorem lookIn_field {h:Heap}:∀ {es:List DictEntry} {fs:List Nat} {vs:List AV} {x:Nat} {v:AV} {n:Nat},RvE c D h es fs vs->(∀ f∈fs,attrName f=attrName x->f=x)->fieldAt fs vs x=some v->∃ w,lookIn (attrName x) (dictOf es n)=some (some w)/\Rv c D h w v
 | _,_,_,_,_,_,.nil,_,e=>by cases e
 | _,_,_,x,v,n,.cons (e:=e) (f:=f) hk hv r,hf,q=>by
  unfold fieldAt at q;by_cases z:f=x
  ·rw[if_pos z] at q;cases q;subst z;refine⟨e.val,?_,hv⟩;unfold lookIn dictOf;dsimp only;rw[List.find?_cons,hk];simp [Value.isStr]
  ·rw[if_neg z] at q;obtain⟨w,h1,h2⟩:=lookIn_field (n:=n) r (fun g m=>hf g (.tail _ m)) q;refine⟨w,?_,h2⟩;unfold lookIn dictOf at h1 ⊢;dsimp only at h1 ⊢;have:e.key.isStr (attrName x)=false:=by
    rw[hk];show (attrName f==attrName x)=false;exact beq_eq_false_iff_ne.mpr fun q=>z (hf f (.head _) q)
   rw[List.find?_cons,this];have h3:e.refKey=false:=by unfold DictEntry.refKey;rw[hk]
   rw[List.any_cons,h3];exact h1
theorem field_mem:∀ {fs:List Nat} {vs:List AV} {x:Nat} {v:AV},fieldAt fs vs x=some v->x∈fs
 | f::fs,v'::vs,x,v,q=>by
  unfold fieldAt at q;by_cases z:f=x
  ·rw[z];exact .head _
  ·rw[if_neg z] at q;exact .tail _ (field_mem q)
 | [],_,_,_,q=>by cases q
 | _::_,[],_,_,q=>by cases q
theorem attr_inj {k:Nat} (hk:k∈owns):∀ f∈fieldsOf k,∀ g∈fieldsOf k,attrName f=attrName g->f=g:=by
 have z:(owns.all fun k=>(fieldsOf k).all fun f=>(fieldsOf k).all fun g=>!(attrName f==attrName g)||f==g)=true:=by decide+kernel
 intro f hf g hg e;have:=List.all_eq_true.mp (List.all_eq_true.mp (List.all_eq_true.mp z k hk) f hf) g hg;rw[e] at this;simpa using this
theorem handed {D:Addr->Prop} {h:Heap} {v:Value} {a:AV} (x:Rv c D h v a):handedIn v=true:=by cases x<;>rfl
theorem attrM_ok {x:Value} {a:AV} {f:Nat} {expr:Bool} (g:Good c) (C:Conc c D σ s.heap) (hx:Rv c D s.heap x a):Tri c A l X D σ s (getAttr x (attrName f) expr) (RV c) (attrM a f):=by
 intro Q E hp;cases hx<;>first | exact hp.elim | skip
 rename_i x dx k es n fs d1 d2 e1 e2 r;have hp':(match fieldAt (fieldsOf k) fs f with | some v=>ret v | none=>no) Q E σ:=hp;cases hq:fieldAt (fieldsOf k) fs f with
 | none=>rw[hq] at hp';exact hp'.elim
 | some v=>
  rw[hq] at hp';have hf:=field_mem hq;have hk:=own_of_fields hf;obtain⟨p1,p2,p3,p4,p5⟩:=g.plain hk;obtain⟨w,hw,rw_⟩:=lookIn_field (n:=n) r (fun f' m=>attr_inj hk f' m f hf) hq;unfold plainGet at p1;rw[Bool.and_eq_true,beq_iff_eq,beq_iff_eq] at p1;obtain⟨cd,hcd,hd⟩:=any_some p2;refine get_value (v:=w) C.kin (instAt_of e1 e2) p1.1 ?_ (handed rw_) (done0 C _ rw_ hp');unfold findObj;rw[hcd,Option.bind_some,p5 f hf,Option.bind_some];show (Option.bind (some none) _)=_;rw[Option.bind_some];show (Option.bind (some false) _)=_;rw[Option.bind_some];dsimp only;unfold PySem.W.ownOf;rw[if_pos hd];dsimp only;rw[hw];rfl
def biV:Nat->Value
 | 0=>.builtin "len" | 1=>.builtin "abs" | 2=>.type "int" | 3=>.builtin "chr" | 7=>.type "tuple" | _=>.type "dict"
theorem doneDict {Q:AV->St->Prop} (C:Conc c D σ s.heap) (o:AO) {h':Heap} (t:Nat) (hs:Heap.SameBut s.heap.objs.size (s.heap.push {cls:=.type "dict",data:=.dict #[]}) h') (ho:Fz D D s.heap h'->ConcO c D (put σ s.heap.objs.size o) h' s.heap.objs.size o) (q:∀ a,σ a=none->Q (.ref a) (put σ a o)):
  ∃ D' σ' a,Rel c X (Yof l) D σ s D' σ' {s with heap:=h',toks:=t}/\Rv c D' h' (.ref s.heap.objs.size) a/\Q a σ':=by
 have fr:s.heap.get? s.heap.objs.size=none:=Heap.StaysIn.fresh fun _ _ e=>e;refine⟨D,_,.ref s.heap.objs.size,.made C s.heap.objs.size o fr (fun a ob e=>?_) ho rfl rfl,.ref _,q _ (C.free fr)⟩;have ne:a≠s.heap.objs.size:=fun z=>by rw[z,fr] at e;cases e
 exact (hs.2 a ne).trans (Heap.get?_push_of_some _ e)
theorem biM_ok {x:Value} {a:AV} {f:Nat} (hf:f≠4/\f≠5) (C:Conc c D σ s.heap) (hx:Rv c D s.heap x a):Tri c A l X D σ s (call (biV f) [x]) (RV c) (biM f a):=by
 intro Q E hp
 match f with
 | 0=>
  cases hx<;>first | exact hp.elim | skip
  case bytes b t=>
   obtain⟨hsz,hp⟩:=hp;exact PySem.W.len_bytes (by rw[<- Array.length_toList];omega) (done0 C _ (.int _ _) hp)
  case ref a=>
   obtain⟨oa,ea,hp⟩:=hp;cases oa<;>dsimp only at hp<;>first | exact hp.elim | skip
   ·obtain⟨hsz,hp⟩:=hp;obtain⟨vs,n,e1,r1⟩:=ConcO.listAt C ea;have l1:=r1.length;rw[Array.length_toList] at l1;refine call_len_list ⟨_,e1,rfl,n,rfl⟩ (by omega) ?_;rw[l1];exact done0 C _ (.int _ _) hp
   ·obtain⟨hsz,hp⟩:=hp;obtain⟨kvs,z,r⟩:=C.obj a _ ea;refine call_len_dict (notSys C ea) z (by rw[r.length];omega) ?_;rw[r.length];exact done0 C _ (.int _ _) hp
 | 1=>
  cases hx<;>first | exact hp.elim | skip
  rename_i i t;refine call_abs_int fun u tk=>?_;have:(if i < 0 then -i else i)=(i.natAbs:Int):=by split<;>omega
  rw[this];exact done0 C _ (.int _ _) hp
 | 2=>
  cases hx<;>first | exact hp.elim | skip
  exact call_int_int (done0 C s.toks (.int _ _) hp)
 | 3=>
  cases hx<;>first | exact hp.elim | skip
  obtain⟨⟨h0,h1⟩,hp⟩:=hp;exact chr_of_range h0 h1 (done0 C _ (.str _ _) hp)
 | 4=>exact absurd rfl hf.1
 | 5=>exact absurd rfl hf.2
 | 6=>
  cases hx<;>first | exact hp.elim | skip
  rename_i a;obtain⟨oa,ea,hp⟩:=hp;cases oa<;>dsimp only at hp<;>first | exact hp.elim | skip
  rename_i es;obtain⟨hsz,hp⟩:=hp;obtain⟨kvs,z,r⟩:=C.obj a _ ea;exact kt_call_dict (notSys C ea) z (by rw[r.length,sizeLine_eq];omega) fun h' z' hs=>doneDict C (.dS es) s.toks hs (fun fz=>⟨kvs,z',r.mono fz⟩) hp
 | 7=>
  cases hx<;>first | exact hp.elim | skip
  rename_i a;obtain⟨oa,ea,hp⟩:=hp;cases oa<;>dsimp only at hp<;>first | exact hp.elim | skip
  rename_i la;obtain⟨hsz,hp⟩:=hp;obtain⟨vs,n,e1,r1⟩:=ConcO.listAt C ea;have l1:=r1.length;rw[Array.length_toList] at l1;refine call_tuple_list ⟨_,e1,rfl,n,rfl⟩ (fun h' hk=>?_) (by rw[l1,sizeLine_eq];omega);have r:Rel c X (Yof l) D σ s D σ {s with heap:=h'}:=.grow C hk rfl rfl;obtain⟨D',σ',b,r2,h2,h3⟩:=doneTup (X:=X) (l:=l) (Q:=Q) (s:={s with heap:=h'}) r.conc (items:=vs) (as:=la) 0 s.toks (r1.mono r.fz) hp;exact⟨D',σ',b,r.trans C r2,h2,h3⟩
 | _+8=>exact hp.elim
end
abbrev SM:=List (Str×Nat)
abbrev NX:Addr->Prop:=fun _=>False
def own (env:Env):Addr->Prop:=fun a=>a=env.locals\/∃ x,env.cells.lookup x=some a
structure EnvS (sc:Scope) (sm:SM) (env:Env) (D:Addr->Prop) (σ:St) (h:Heap):Prop where
 scope:env.scope=sc
 kind:sc.kind=.function
 glob:env.globals=mainGlobals
 blt:env.builtins=builtinsNs
 fr:∃ L,env.frame=some L
 nd:(sm.map (·.2)).Nodup
 injC:∀ x y cc,env.cells.lookup x=some cc->env.cells.lookup y=some cc->x=y
 celN:∀ x cc,env.cells.lookup x=some cc->cc≠env.locals
 free:∀ a,own env a->σ a=none/\¬ D a/\(h.get? a).isSome=true
structure EnvV (c:Cfg) (sc:Scope) (sm:SM) (env:Env) (ρ:Frame) (D:Addr->Prop) (h:Heap):Prop where
 loc:∃ m,h.Ns env.locals m/\∀ x i a,sm.lookup x=some i->sc.names.lookup x=some .local->ρ[i]? =some (some a)->∃ v,m x=some v/\Rv c D h v a
 cel:∀ x,sc.names.lookup x=some .cell->∃ cc ov,env.cells.lookup x=some cc/\h.IsCell cc ov/\∀ i a,sm.lookup x=some i->ρ[i]? =some (some a)->∃ v,ov=some v/\Rv c D h v a
 set:∀ i a,ρ[i]? =some (some a)->i∈sm.map (·.2)
theorem sm_inj:∀ {sm:SM},(sm.map (·.2)).Nodup->∀ x y i,sm.lookup x=some i->sm.lookup y=some i->x=y
 | [],_,_,_,_,h,_=>by cases h
 | (n,j)::r,hn,x,y,i,h1,h2=>by
  rw[List.map_cons,List.nodup_cons] at hn;rw[List.lookup_cons] at h1 h2;have mem:∀ {z:Str},r.lookup z=some i->i∈r.map (·.2):=fun q=>List.mem_map.mpr ⟨_,mem_of_lookup q,rfl⟩;cases q1:x==n<;>cases q2:y==n<;>rw[q1] at h1<;>rw[q2] at h2<;>dsimp only at h1 h2
  ·exact sm_inj hn.2 x y i h1 h2
  ·cases h2;exact absurd (mem h1) hn.1
  ·cases h1;exact absurd (mem h2) hn.1
  ·rw[beq_iff_eq.mp q1,beq_iff_eq.mp q2]
theorem EnvS.inj {sc:Scope} {sm:SM} {env:Env} {D:Addr->Prop} {σ:St} {h:Heap} (e:EnvS sc sm env D σ h):∀ x y i,sm.lookup x=some i->sm.lookup y=some i->x=y:=sm_inj e.nd
theorem ns_upto {h h':Heap} {L:Addr} {m:Str->Option Value} (k:∀ o,h.get? L=some o->UpTo o h' L) (x:h.Ns L m):h'.Ns L m:=by
 obtain⟨o,es,ep,e,d,r⟩:=x;obtain⟨sl,e'⟩:=k o e;exact⟨_,es,ep,e',d,r⟩
theorem cell_upto {h h':Heap} {cc:Addr} {v:Option Value} (k:∀ o,h.get? cc=some o->UpTo o h' cc) (x:h.IsCell cc v):h'.IsCell cc v:=by
 obtain⟨o,e,d⟩:=x;obtain⟨sl,e'⟩:=k o e;exact⟨_,e',d⟩
section
variable {c:Cfg} {A:Around} {l:List Env} {X Y D D':Addr->Prop} {σ σ':St} {s s':Shared} {sc:Scope} {sm:SM} {env:Env} {ρ:Frame}
theorem EnvS.rel (e:EnvS sc sm env D σ s.heap) (r:Rel c X Y D σ s D' σ' s'):EnvS sc sm env D' σ' s'.heap:=
 ⟨e.scope,e.kind,e.glob,e.blt,e.fr,e.nd,e.injC,e.celN,fun a o=>by
  obtain⟨h1,h2,h3⟩:=e.free a o;refine⟨?_,fun d=>?_,r.there a h3⟩
  ·cases q:σ' a with
   | none=>rfl
   | some z=>have:=r.fresh a (by rw[q];simp) h1;rw[this] at h3;cases h3
  ·have:=r.dfresh a d h2;rw[this] at h3;cases h3⟩
theorem EnvV.rel (e:EnvS sc sm env D σ s.heap) (v:EnvV c sc sm env ρ D s.heap) (r:Rel c X Y D σ s D' σ' s') (hx:∀ a,own env a->¬ X a):EnvV c sc sm env ρ D' s'.heap:=by
 obtain⟨m,hm,hl⟩:=v.loc;refine⟨⟨m,ns_upto (fun o q=>(r.keep _ o q (e.free _ (.inl rfl)).1 (hx _ (.inl rfl))).2) hm,fun x i a hi hk hr=>?_⟩,fun x hk=>?_,v.set⟩
 ·obtain⟨w,h1,h2⟩:=hl x i a hi hk hr;exact⟨w,h1,h2.mono r.fz⟩
 ·obtain⟨cc,ov,h1,h2,h3⟩:=v.cel x hk;refine⟨cc,ov,h1,cell_upto (fun o q=>(r.keep _ o q (e.free _ (.inr ⟨x,h1⟩)).1 (hx _ (.inr ⟨x,h1⟩))).2) h2,fun i a hi hr=>?_⟩;obtain⟨w,g1,g2⟩:=h3 i a hi hr;exact⟨w,g1,g2.mono r.fz⟩
theorem EnvV.relN (e:EnvS sc sm env D σ s.heap) (v:EnvV c sc sm env ρ D s.heap) (r:Rel c NX Y D σ s D' σ' s'):EnvV c sc sm env ρ D' s'.heap:=v.rel e r fun _ _ z=>z
theorem Tri.more {t:Sem β} {R:(Addr->Prop)->Heap->β->α->Prop} {p:M α} (h:Tri c A l NX D σ s t R p):Tri c A l X D σ s t R p:=h.dropX fun _ _ _ z=>z.elim
theorem kindOf_is (e:EnvS sc sm env D σ s.heap) (x:Str):env.kindOf x=sc.names.lookup x:=by unfold Env.kindOf;rw[e.scope]
theorem fkind (e:EnvS sc sm env D σ s.heap):env.scope.kind=.function:=by rw[e.scope];exact e.kind
theorem loc_ok {x:Str} {i:Nat} {k:NameKind} {pos:Pos} {a:AV} (C:Conc c D σ s.heap) (e:EnvS sc sm env D σ s.heap) (v:EnvV c sc sm env ρ D s.heap) (hx:sm.lookup x=some i) (hk:sc.names.lookup x=some k) (hk':k=.local\/k=.cell) (hr:ρ[i]? =some (some a)) (hd:(x==("__debug__":Str))=false):
  Tri c A l X D σ s (eval (.Name x pos) env) (RV c) (ret a):=by
 intro Q E hp;refine wpAny_Name ?_ hd;have hn:=(kindOf_is e x).trans hk;rcases hk' with rfl | rfl
 ·obtain⟨m,hm,hl⟩:=v.loc;obtain⟨v,h1,h2⟩:=hl x i a hx hk hr;exact wpAny_loadName_local (fkind e) hn hm h1 (done0 C s.toks h2 hp)
 ·obtain⟨cc,ov,h1,h2,h6⟩:=v.cel x hk;obtain⟨v,rfl,hv⟩:=h6 i a hx hr;exact wpAny_loadName_cell (fkind e) hn h1 h2 (done0 C s.toks hv hp)
def globIn (K:Frag) (x:Str):Option Value:=match nsIn K mainGlobals x with
 | some (some v)=>some v
 | some none=>if x="__name__" then none else bootBuiltins x
 | none=>none
theorem glob_any {x:Str} {pos:Pos} {v:Value} {Q:Value->Shared->Prop} {E:Value->Shared->Prop} (C:Conc c D σ s.heap) (e:EnvS sc sm env D σ s.heap) (hn:sc.names.lookup x=some .globalImplicit) (hd:(x==("__debug__":Str))=false)
  (hv:globIn c.K x=some v) (h:Q v s):wpAny (model c.prog c.w) A (eval (.Name x pos) env) Q E s:=by
 refine wpAny_Name ?_ hd;rw[loadName_read (fkind e) ((kindOf_is e x).trans hn)];unfold globIn at hv;cases q:nsIn c.K mainGlobals x with
 | none=>rw[q] at hv;cases hv
 | some o=>
  rw[q] at hv;cases o with
  | some w=>
   cases hv;unfold loadGlobal;rw[e.glob];exact wpAny_bind ((looks_nsIn C.kin q).here (wpAny_pure h))
  | none=>
   dsimp only at hv;by_cases z:x="__name__"
   ·rw[if_pos z] at hv;cases hv
   ·rw[if_neg z] at hv;obtain⟨mg,mb,h1,h2,h3⟩:=C.top;exact loadGlobal_builtin (by rw[e.glob];exact h1) (mg_none_of C.kin h1 q) (by rw[e.blt];exact h2) (h3 x v z hv) h
def RN (c:Cfg) (sc:Scope) (sm:SM) (env:Env):(Addr->Prop)->Heap->Unit->Frame->Prop:=fun D h _ ρ=>EnvV c sc sm env ρ D h
theorem set_get {ρ:Frame} {i j:Nat} {a b:AV} (h:(ρ.set i (some a))[j]? =some (some b)):(i=j/\a=b)\/(i≠j/\ρ[j]? =some (some b)):=by
 rw[List.getElem?_set] at h;split at h
 ·rename_i e;split at h
  ·cases h;exact .inl ⟨e,rfl⟩
  ·cases h
 ·rename_i e;exact .inr ⟨e,h⟩
theorem set_mem {x:Str} {i:Nat} {a:AV} (V:EnvV c sc sm env ρ D s.heap) (hx:sm.lookup x=some i):∀ j b,(ρ.set i (some a))[j]? =some (some b)->j∈sm.map (·.2):=fun j b h=>by
 rcases set_get h with ⟨rfl,_⟩ | ⟨_,h⟩
 ·exact List.mem_map.mpr ⟨_,mem_of_lookup hx,rfl⟩
 ·exact V.set j b h
def MayBind (sc:Scope) (env:Env) (X:Addr->Prop) (x:Str):Prop:=∀ k,sc.names.lookup x=some k->(k=.local->X env.locals)/\∀ cc,k=.cell->env.cells.lookup x=some cc->X cc
theorem mayBind_own {x:Str}:MayBind sc env (own env) x:=fun k _=>⟨fun _=>.inl rfl,fun cc _ h=>.inr ⟨x,h⟩⟩
theorem mayBind_local {x:Str} (h:sc.names.lookup x=some .local):MayBind sc env (· =env.locals) x:=fun k hk=>⟨fun _=>rfl,fun cc q _=>by rw[hk] at h;cases h;cases q⟩
theorem bind_ok {x:Str} {i:Nat} {k:NameKind} {v:Value} {a:AV} (C:Conc c D σ s.heap) (e:EnvS sc sm env D σ s.heap) (V:EnvV c sc sm env ρ D s.heap) (hx:sm.lookup x=some i) (hk:sc.names.lookup x=some k) (hk':k=.local\/k=.cell) (hX:(k=.local->X env.locals)/\∀ cc,k=.cell->env.cells.lookup x=some cc->X cc) (hv:Rv c D s.heap v a):
  Tri c A l X D σ s (bindName env x v) (RN c sc sm env) (ret (ρ.set i (some a))):=by
 intro Q E hp;refine wpAny_bindName ?_;have hn:=(kindOf_is e x).trans hk;rcases hk' with rfl | rfl
 ·obtain⟨m,hm,hl⟩:=V.loc;obtain⟨f1,f2,f3⟩:=e.free _ (.inl rfl);refine wpAny_storeName_local hn hm (fun h' hn' hs'=>?_) (by rw[fkind e];rfl);have r:Rel c X (Yof l) D σ s D σ {s with heap:=h',toks:=s.toks+1}:=.exempt C env.locals (hX.1 rfl) f2 f1 (fun a o n q=>(hs'.2 a n).trans q)
   (fun _=>by obtain⟨o,es,ep,q,_⟩:=hn';rw[show h'.get? env.locals=some o from q];rfl)
   (fun _ o _ _=>by obtain⟨o',es,ep,q,d,_⟩:=hn';exact⟨o',q,fun vs z=>by rw[d] at z;cases z⟩) rfl rfl
  refine⟨D,σ,_,r,⟨⟨_,hn',fun y j b hj hkj hr=>?_⟩,fun y hky=>?_,set_mem V hx⟩,hp⟩
  ·rcases set_get hr with ⟨rfl,rfl⟩ | ⟨ne,hr⟩
   ·have:=e.inj x y i hx hj;subst this;exact⟨v,by rw[if_pos rfl],hv.mono r.fz⟩
   ·have ny:y≠x:=fun z=>ne (by subst z;rw[hx] at hj;exact Option.some.inj hj);obtain⟨w,h1,h2⟩:=hl y j b hj hkj hr;exact⟨w,by rw[if_neg ny];exact h1,h2.mono r.fz⟩
  ·obtain⟨cc,ov,h1,h2,h6⟩:=V.cel y hky;refine⟨cc,ov,h1,h2.sameBut hs' (e.celN y cc h1),fun j b hj hr=>?_⟩;rcases set_get hr with ⟨rfl,rfl⟩ | ⟨ne,hr⟩
   ·have:=e.inj x y i hx hj;subst this;rw[hk] at hky;cases hky
   ·obtain⟨w,h1,h2⟩:=h6 j b hj hr;exact⟨w,h1,h2.mono r.fz⟩
 ·obtain⟨cc,ov,h1,h2,h6⟩:=V.cel x hk;obtain⟨f1,f2,f3⟩:=e.free _ (.inr ⟨x,h1⟩);refine wpAny_storeName_cell (fkind e) hn h1 h2 fun h' hc' hs'=>?_;have r:Rel c X (Yof l) D σ s D σ {s with heap:=h'}:=.exempt C cc (hX.2 cc rfl h1) f2 f1 (fun a o n q=>(hs'.2 a n).trans q)
   (fun _=>by obtain⟨o,q,_⟩:=hc';rw[show h'.get? cc=some o from q];rfl)
   (fun _ o _ _=>by obtain⟨o',q,d⟩:=hc';exact⟨o',q,fun vs z=>by rw[d] at z;cases z⟩) rfl rfl
  obtain⟨m,hm,hl⟩:=V.loc;refine⟨D,σ,_,r,⟨⟨m,hm.sameBut hs' (fun z=>e.celN x cc h1 z.symm),fun y j b hj hkj hr=>?_⟩,fun y hky=>?_,set_mem V hx⟩,hp⟩
  ·rcases set_get hr with ⟨rfl,rfl⟩ | ⟨ne,hr⟩
   ·have:=e.inj x y i hx hj;subst this;rw[hk] at hkj;cases hkj
   ·obtain⟨w,h1,h2⟩:=hl y j b hj hkj hr;exact⟨w,h1,h2.mono r.fz⟩
  ·obtain⟨cy,oy,g1,g2,g6⟩:=V.cel y hky;by_cases z:y=x
   ·subst z;rw[h1] at g1;cases g1;refine⟨cc,some v,h1,hc',fun j b hj hr=>?_⟩;rw[hx] at hj;cases hj;rcases set_get hr with ⟨_,rfl⟩ | ⟨ne,hr⟩
    ·exact⟨v,rfl,hv.mono r.fz⟩
    ·exact absurd rfl ne
   ·have ncc:cy≠cc:=fun q=>z (e.injC y x cc (q ▸ g1) h1);refine⟨cy,oy,g1,g2.sameBut hs' ncc,fun j b hj hr=>?_⟩;rcases set_get hr with ⟨rfl,rfl⟩ | ⟨ne,hr⟩
    ·exact absurd (e.inj y x i hj hx) z
    ·obtain⟨w,k1,k2⟩:=g6 j b hj hr;exact⟨w,k1,k2.mono r.fz⟩
end
abbrev RL (c:Cfg):(Addr->Prop)->Heap->List Value->List AV->Prop:=fun D h v a=>RvL c D h v a
def EvOk (c:Cfg) (A:Around) (l:List Env) (sc:Scope) (sm:SM) (env:Env) (e:Expr) (p:Frame->MB):Prop:=
 ∀ (D:Addr->Prop) (σ:St) (s:Shared) (ρ:Frame),Wd c A l D σ s->EnvS sc sm env D σ s.heap->EnvV c sc sm env ρ D s.heap->
  Tri c A l NX D σ s (eval e env) (RV c) (p ρ).1/\Tri c A l NX D σ s (isTrue e env (eval e env)) RB (p ρ).2
def EvsOk (c:Cfg) (A:Around) (l:List Env) (sc:Scope) (sm:SM) (env:Env) (es:List Expr) (p:Frame->M (List AV)):Prop:=
 ∀ (D:Addr->Prop) (σ:St) (s:Shared) (ρ:Frame),Wd c A l D σ s->EnvS sc sm env D σ s.heap->EnvV c sc sm env ρ D s.heap->
  ∀ pos,Tri c A l NX D σ s (spliced (backTo pos (starEach es env))) (RL c) (p ρ)
def notStar:Expr->Bool
 | .Starred ..=>false
 | _=>true
def notSet:Expr->Bool
 | .Set ..=>false
 | _=>true
def superLike:Expr->Bool
 | .Call (.Name _ _) [] [] _=>true
 | _=>false
theorem starEach_cons {e:Expr} {r:List Expr} {env:Env} (h:notStar e=true):starEach (e::r) env=(false,eval e env)::starEach r env:=by
 cases e<;>first | rfl | cases h
theorem noStars {env:Env} {pos:Pos}:∀ {es:List Expr},es.all notStar=true->(backTo pos (starEach es env)).any (·.1)=false
 | [],_=>rfl
 | e::r,h=>by
  rw[List.all_cons,Bool.and_eq_true] at h;rw[starEach_cons h.1];show (false||(backTo pos (starEach r env)).any (·.1))=false;rw[noStars h.2];rfl
theorem base_plain {o:Expr} {attr:Str} {env:Env} {whole:Sem Value} (h:superLike o=false):attributeBase o attr env whole=whole:=by
 unfold attributeBase;split
 ·cases h
 ·rfl
section
variable {c:Cfg} {A:Around} {l:List Env} {X D:Addr->Prop} {σ:St} {s:Shared} {sc:Scope} {sm:SM} {env:Env} {ρ:Frame}
theorem Tri.operate {vs:List Value} {t:Sem Value} {R:(Addr->Prop)->Heap->Value->α->Prop} {p:M α} (h:Tri c A l X D σ s t R p):Tri c A l X D σ s (operate vs t) R p:=fun Q E hp=>wpAny_operating (h Q E hp)
theorem Tri.use {t:Sem β} {R:(Addr->Prop)->Heap->β->α->Prop} {p:M α} {D₁:Addr->Prop} {σ₁:St} {s₁:Shared} {Q:α->St->Prop} {E:St->Prop} {K:β->Shared->Prop} (W:Wd c A l D σ s) (r:Rel c X (Yof l) D σ s D₁ σ₁ s₁) (h:Tri c A l X D₁ σ₁ s₁ t R p) (hp:p Q E σ₁)
  (k:∀ v s₂ D₂ σ₂ a,Rel c X (Yof l) D₁ σ₁ s₁ D₂ σ₂ s₂->Rel c X (Yof l) D σ s D₂ σ₂ s₂->Wd c A l D₂ σ₂ s₂->R D₂ s₂.heap v a->Q a σ₂->K v s₂):
  wpAny (model c.prog c.w) A t K (fun e s'=>∃ D' σ',Rel c X (Yof l) D σ s D' σ' s'/\Exc c l D' σ' s.heap s'.heap e/\E σ') s₁:=by
 refine wpAny_mono (h Q E hp) ?_ ?_
 ·rintro v s₂ ⟨D₂,σ₂,a,r₂,h1,h2⟩;have r':=r.trans W.conc r₂;exact k v s₂ D₂ σ₂ a r₂ r' (W.rel r') h1 h2
 ·rintro e s₂ ⟨D₂,σ₂,r₂,h1,h2⟩;exact⟨D₂,σ₂,r.trans W.conc r₂,h1.back r.there,h2⟩
theorem both_ok {e:Expr} {p:M AV} (W:Wd c A l D σ s) (h1:Tri c A l NX D σ s (eval e env) (RV c) p) (hi:isTrue e env (eval e env)=(do let v <- eval e env;standAt e.pos;holding [v] (truthy v)):=by rfl):
  Tri c A l NX D σ s (eval e env) (RV c) (both p).1/\Tri c A l NX D σ s (isTrue e env (eval e env)) RB (both p).2:=by
 refine⟨h1,?_⟩;rw[hi];show Tri c A l NX D σ s _ RB (bnd p truthM);exact Tri.bind W h1 fun D' σ' s' v a r W' hv=>Tri.standAt (Tri.holding (truthM_ok W'.conc hv))
theorem none_ok {k:Nat} {pos:Pos}:EvOk c A l sc sm env (.Constant .none k pos) fun _=>both (ret .none):=fun D σ s ρ W e v=>
 both_ok W fun Q E hp=>wpAny_Constant_none (done0 W.conc s.toks .none hp)
theorem bool_ok {b:Bool} {k:Nat} {pos:Pos}:EvOk c A l sc sm env (.Constant (.bool b) k pos) fun _=>both (ret (.bool b)):=fun D σ s ρ W e v=>
 both_ok W fun Q E hp=>wpAny_Constant_bool (done0 W.conc s.toks (.bool _) hp)
theorem int_ok {i:Int} {k:Nat} {pos:Pos}:EvOk c A l sc sm env (.Constant (.int i) k pos) fun _=>both (ret (.int i)):=fun D σ s ρ W e v=>
 both_ok W fun Q E hp=>wpAny_Constant_int (done0 W.conc _ (.int _ _) hp)
theorem str_ok {i:Str} {k:Nat} {pos:Pos}:EvOk c A l sc sm env (.Constant (.str i) k pos) fun _=>both (ret (.str i)):=fun D σ s ρ W e v=>
 both_ok W fun Q E hp=>wpAny_Constant_str (done0 W.conc _ (.str _ _) hp)
theorem bytes_ok {b:List UInt8} {k:Nat} {pos:Pos}:EvOk c A l sc sm env (.Constant (.bytes b) k pos) fun _=>both (ret (.bytes b)):=fun D σ s ρ W e v=>
 both_ok W fun Q E hp=>wpAny_mkTextBytes (done0 W.conc _ (.bytes _ _) hp)
theorem name_ok {x:Str} {i:Nat} {k:NameKind} {pos:Pos} (hx:sm.lookup x=some i) (hk:sc.names.lookup x=some k) (hk':k=.local\/k=.cell) (hd:(x==("__debug__":Str))=false):
  EvOk c A l sc sm env (.Name x pos) fun ρ=>both (match ρ[i]? with | some (some v)=>ret v | _=>no):=fun D σ s ρ W e v=>by
 refine both_ok W ?_
 match q:ρ[i]? with
 | some (some a)=>exact loc_ok W.conc e v hx hk hk' q hd
 | some none=>intro Q E hp;exact hp.elim
 | none=>intro Q E hp;exact hp.elim
theorem globv_ok {x:Str} {pos:Pos} {v:Value} {a:AV} (hn:sc.names.lookup x=some .globalImplicit) (hd:(x==("__debug__":Str))=false) (hg:globIn c.K x=some v)
  (hv:∀ (D:Addr->Prop) (h:Heap),c.K.In h->(∀ a o,c.K.lookup a=some o->D a)->Rv c D h v a):EvOk c A l sc sm env (.Name x pos) fun ρ=>both (ret a):=fun D σ s ρ W e V=>
 both_ok W fun Q E hp=>glob_any W.conc e hn hd hg (done0 W.conc s.toks (hv D s.heap W.conc.kin W.conc.kD) hp)
theorem bin_ok {x y:Expr} {p q:Frame->MB} {op:Bop} {pos:Pos} (hx:EvOk c A l sc sm env x p) (hy:EvOk c A l sc sm env y q):
  EvOk c A l sc sm env (.BinOp x (opOf op) y pos) fun ρ=>both (bnd (p ρ).1 fun a=>bnd (q ρ).1 fun b=>binM op a b):=fun D σ s ρ W e V=>by
 refine both_ok W ?_;rw[arm_eval_BinOp];exact Tri.bind W (hx D σ s ρ W e V).1 fun D1 σ1 s1 v a r W1 hv=>Tri.bind W1 (Tri.holding (hy D1 σ1 s1 ρ W1 (e.rel r) (V.relN e r)).1) fun D2 σ2 s2 w b r2 W2 hw=>
  Tri.standAt (Tri.operate (binM_ok W2.conc (hv.mono r2.fz) hw))
theorem neg_ok {x:Expr} {p:Frame->MB} {pos:Pos} (hx:EvOk c A l sc sm env x p):EvOk c A l sc sm env (.UnaryOp .USub x pos) fun ρ=>both (bnd (p ρ).1 negM):=fun D σ s ρ W e V=>by
 refine both_ok W ?_;rw[arm_eval_UnaryOp];exact Tri.bind W (hx D σ s ρ W e V).1 fun D1 σ1 s1 v a r W1 hv=>Tri.standAt (Tri.holding (negM_ok W1.conc hv))
theorem not_ok {x:Expr} {p:Frame->MB} {pos:Pos} (hx:EvOk c A l sc sm env x p):EvOk c A l sc sm env (.UnaryOp .Not x pos) fun ρ=>(bnd (p ρ).1 fun x=>bnd (truthM x) fun t=>ret (.bool !t),neg (p ρ).2):=fun D σ s ρ W e V=>by
 refine⟨?_,?_⟩
 ·rw[arm_eval_UnaryOp];show Tri c A l NX D σ s _ (RV c) (bnd (p ρ).1 fun x=>bnd (truthM x) fun t=>ret (.bool !t));refine Tri.bind W (hx D σ s ρ W e V).1 fun D1 σ1 s1 v a r W1 hv=>Tri.standAt (Tri.holding ?_);intro Q E hp;refine PySem.not_value (wpAny_mono (truthM_ok W1.conc hv _ _ hp) ?_ fun _ _ x=>x);rintro b s2 ⟨D2,σ2,_,r2,rfl,hq⟩;exact⟨D2,σ2,_,r2,.bool _,hq⟩
 ·rw[arm_isTrue_UnaryOp];show Tri c A l NX D σ s _ RB (bnd (p ρ).2 fun b=>ret (!b));exact Tri.bind W (hx D σ s ρ W e V).2 fun D2 σ2 s2 b b' r2 W2 hb=>by subst hb;exact Tri.pure W2.conc rfl
theorem ite_ok {x y z:Expr} {p q r:Frame->MB} {pos:Pos} (hx:EvOk c A l sc sm env x p) (hy:EvOk c A l sc sm env y q) (hz:EvOk c A l sc sm env z r):
  EvOk c A l sc sm env (.IfExp x y z pos) fun ρ=>(bnd (p ρ).2 fun t=>if t then (q ρ).1 else (r ρ).1,bnd (p ρ).2 fun t=>if t then (q ρ).2 else (r ρ).2):=fun D σ s ρ W e V=>by
 refine⟨?_,?_⟩
 ·rw[arm_eval_IfExp];show Tri c A l NX D σ s _ (RV c) (bnd (p ρ).2 fun t=>if t then (q ρ).1 else (r ρ).1);refine Tri.bind W (hx D σ s ρ W e V).2 fun D1 σ1 s1 b b' r1 W1 hb=>?_;subst hb;cases b
  ·exact (hz D1 σ1 s1 ρ W1 (e.rel r1) (V.relN e r1)).1
  ·exact (hy D1 σ1 s1 ρ W1 (e.rel r1) (V.relN e r1)).1
 ·rw[arm_isTrue_IfExp];show Tri c A l NX D σ s _ RB (bnd (p ρ).2 fun t=>if t then (q ρ).2 else (r ρ).2);refine Tri.bind W (hx D σ s ρ W e V).2 fun D1 σ1 s1 b b' r1 W1 hb=>?_;subst hb;cases b
  ·exact (hz D1 σ1 s1 ρ W1 (e.rel r1) (V.relN e r1)).2
  ·exact (hy D1 σ1 s1 ρ W1 (e.rel r1) (V.relN e r1)).2
theorem marked_one {op:CmpOp} {y:Expr} {t:Sem Value} (h:notSet y=true):markedEach [op] [y] [t]=[t]:=by
 show [markedBehindIn op y t]=[t];have:behindInMarks op y=false:=by cases y<;>first | rfl | cases h
 unfold markedBehindIn;rw[this]
theorem marked_two {o1 o2:CmpOp} {y z:Expr} {t u:Sem Value} (h:notSet z=true):markedEach [o1,o2] [y,z] [t,u]=[t,u]:=by
 show t::markedEach [o2] [z] [u]=_;rw[marked_one h]
theorem cmp_ok {x y:Expr} {p q:Frame->MB} {op:Cop} {pos:Pos} (hu:A.units+100 < cLine) (hset:notSet y=true) (hx:EvOk c A l sc sm env x p) (hy:EvOk c A l sc sm env y q):
  EvOk c A l sc sm env (.Compare x [copOf op] [y] pos) fun ρ=>ofB (bnd (p ρ).1 fun a=>bnd (q ρ).1 fun b=>cmpM op a b):=fun D σ s ρ W e V=>by
 have main:∀ {β:Type} (k:Value->Sem β) (R:(Addr->Prop)->Heap->β->AV->Prop),True:=fun _ _=>trivial;refine⟨?_,?_⟩
 ·rw[arm_eval_Compare];intro Q E hp;have hp':bnd (p ρ).1 (fun a=>bnd (bnd (q ρ).1 fun b=>cmpM op a b) fun b=>ret (.bool b)) Q E σ:=hp;revert hp';refine (?_:Tri c A l NX D σ s _ (RV c) (bnd (p ρ).1 (fun a=>bnd (bnd (q ρ).1 fun b=>cmpM op a b) fun b=>ret (.bool b)))) Q E;refine Tri.bind W (hx D σ s ρ W e V).1 fun D1 σ1 s1 v a r W1 hv=>?_;show Tri c A l NX D1 σ1 s1 (compareChain pos v [copOf op] (markedEach [copOf op] [y] [eval y env])) _ _;rw[marked_one hset];intro Q E hp;have hp':bnd (q ρ).1 (fun b=>bnd (cmpM op a b) fun b=>ret (.bool b)) Q E σ1:=hp;revert hp';refine (?_:Tri c A l NX D1 σ1 s1 _ (RV c) (bnd (q ρ).1 (fun b=>bnd (cmpM op a b) fun b=>ret (.bool b)))) Q E;refine Tri.bind W1 (Tri.holding (hy D1 σ1 s1 ρ W1 (e.rel r) (V.relN e r)).1) fun D2 σ2 s2 w b r2 W2 hw=>Tri.standAt (Tri.operate ?_);intro Q E hp;exact wpAny_mono (cmpM_ok W2.conc hu (hv.mono r2.fz) hw _ _ hp) (fun _ _ ⟨D',σ',a',r',h',q'⟩=>⟨D',σ',.bool a',r',by rw[h'];exact .bool _,q'⟩) fun _ _ x=>x
 ·rw[arm_isTrue_Compare];show Tri c A l NX D σ s _ RB (bnd (p ρ).1 fun a=>bnd (q ρ).1 fun b=>cmpM op a b);refine Tri.bind W (hx D σ s ρ W e V).1 fun D1 σ1 s1 v a r W1 hv=>?_;show Tri c A l NX D1 σ1 s1 (testChain pos v [copOf op] (markedEach [copOf op] [y] [eval y env])) _ _;rw[marked_one hset];refine Tri.bind W1 (Tri.holding (hy D1 σ1 s1 ρ W1 (e.rel r) (V.relN e r)).1) fun D2 σ2 s2 w b r2 W2 hw=>Tri.standAt ?_;intro Q E hp;refine wpAny_bind (wpAny_mono (Tri.operate (cmpM_ok W2.conc hu (hv.mono r2.fz) hw) _ _ hp) ?_ fun _ _ x=>x);rintro _ s3 ⟨D',σ',a',r',rfl,q'⟩;exact wpAny_holding (wpAny_truthy_bool ⟨D',σ',a',r',rfl,q'⟩)
theorem cmp2_ok {x y z:Expr} {p q r:Frame->MB} {o1 o2:Cop} {pos:Pos} (hu:A.units+100 < cLine) (hset:notSet z=true) (hx:EvOk c A l sc sm env x p) (hy:EvOk c A l sc sm env y q) (hz:EvOk c A l sc sm env z r):
  EvOk c A l sc sm env (.Compare x [copOf o1,copOf o2] [y,z] pos) fun ρ=>(no,bnd (p ρ).1 fun a=>bnd (q ρ).1 fun b=>bnd (cmpM o1 a b) fun t=>if t then bnd (r ρ).1 fun d=>cmpM o2 b d else ret false):=fun D σ s ρ W e V=>by
 refine⟨fun Q E hp=>hp.elim,?_⟩;rw[arm_isTrue_Compare];show Tri c A l NX D σ s _ RB (bnd (p ρ).1 fun a=>bnd (q ρ).1 fun b=>bnd (cmpM o1 a b) fun t=>if t then bnd (r ρ).1 fun d=>cmpM o2 b d else ret false);refine Tri.bind W (hx D σ s ρ W e V).1 fun D1 σ1 s1 v a r1 W1 hv=>?_;show Tri c A l NX D1 σ1 s1 (testChain pos v [copOf o1,copOf o2] (markedEach [copOf o1,copOf o2] [y,z] [eval y env,eval z env])) _ _;rw[marked_two hset];have e1:=e.rel r1;have V1:=V.relN e r1;refine Tri.bind W1 (Tri.holding (hy D1 σ1 s1 ρ W1 e1 V1).1) fun D2 σ2 s2 w b r2 W2 hw=>Tri.standAt ?_;have e2:=e1.rel r2;have V2:=V1.relN e1 r2;intro Q E hp;refine wpAny_bind (wpAny_mono (Tri.holding (cmpM_ok W2.conc hu (hv.mono r2.fz) hw) _ _ hp) ?_ fun _ _ ⟨D',σ',r',x⟩=>⟨D',σ',r',x⟩);rintro _ s3 ⟨D3,σ3,t,r3,rfl,hq⟩;have W3:=W2.rel r3;refine wpAny_bind (wpAny_release (wpAny_bind (wpAny_holding (wpAny_truthy_bool ?_))));cases t
 ·exact wpAny_pure ⟨D3,σ3,false,r3,rfl,hq⟩
 ·refine wpAny_mono ((?_:Tri c A l NX D3 σ3 s3 (testChain pos w [copOf o2] [eval z env]) RB (bnd (r ρ).1 fun d=>cmpM o2 b d)) Q E hq) ?_ ?_
  ·refine Tri.bind W3 (Tri.holding (hz D3 σ3 s3 ρ W3 (e2.rel r3) (V2.relN e2 r3)).1) fun D4 σ4 s4 u d r4 W4 hu'=>Tri.standAt ?_;intro Q E hp;refine wpAny_bind (wpAny_mono (Tri.operate (cmpM_ok W4.conc hu ((hw.mono r3.fz).mono r4.fz) hu') _ _ hp) ?_ fun _ _ x=>x);rintro _ s3 ⟨D',σ',a',r',rfl,q'⟩;exact wpAny_holding (wpAny_truthy_bool ⟨D',σ',a',r',rfl,q'⟩)
  ·rintro _ s4 ⟨D4,σ4,t',r4,rfl,hq⟩;exact⟨D4,σ4,_,r3.trans W2.conc r4,rfl,hq⟩
  ·rintro _ s4 ⟨D4,σ4,r4,hx,hq⟩;exact⟨D4,σ4,r3.trans W2.conc r4,hx.back r3.there,hq⟩
theorem nil_ok:EvsOk c A l sc sm env [] fun _=>ret []:=fun D σ s ρ W e V pos=>Tri.pure W.conc .nil
theorem cons_ok {x:Expr} {r:List Expr} {p:Frame->MB} {q:Frame->M (List AV)} (hs:notStar x=true) (hx:EvOk c A l sc sm env x p) (hr:EvsOk c A l sc sm env r q):
  EvsOk c A l sc sm env (x::r) fun ρ=>bnd (p ρ).1 fun v=>bnd (q ρ) fun vs=>ret (v::vs):=fun D σ s ρ W e V pos=>by
 rw[starEach_cons hs];show Tri c A l NX D σ s (spliced ((false,eval x env)::backTo pos (starEach r env))) _ _;rw[spliced];refine Tri.bind W (hx D σ s ρ W e V).1 fun D1 σ1 s1 v a r1 W1 hv=>?_;intro Q E hp;simp only[Bool.false_eq_true,if_false];refine wpAny_bind (wpAny_pure ?_);exact (Tri.bind W1 (Tri.holding (hr D1 σ1 s1 ρ W1 (e.rel r1) (V.relN e r1) pos)) fun D2 σ2 s2 vs as r2 W2 hvs=>Tri.pure W2.conc (R:=RL c) (.cons (hv.mono r2.fz) hvs)) Q E hp
theorem list_ok {es:List Expr} {q:Frame->M (List AV)} {pos:Pos} (hn:es.length<=1000) (h:EvsOk c A l sc sm env es q):
  EvOk c A l sc sm env (.List es pos) fun ρ=>both (bnd (q ρ) fun vs=>req (vs.length<=1000) (mk (.list vs))):=fun D σ s ρ W e V=>by
 refine both_ok W ?_;rw[arm_eval_List];refine Tri.standAt (Tri.bind W (h D σ s ρ W e V pos) fun D1 σ1 s1 vs as r1 W1 hvs=>?_);rintro Q E ⟨hsz,hp⟩;have hl:=RvL.length hvs;exact wpAny_newList (doneList W1.conc 0 _ (by simpa using hvs) hp) (by rw[sizeLine_eq];omega)
theorem tup_ok {es:List Expr} {q:Frame->M (List AV)} {k:Nat} {pos:Pos} (h:EvsOk c A l sc sm env es q):
  EvOk c A l sc sm env (.Tuple es k pos) fun ρ=>both (bnd (q ρ) fun vs=>req (vs.length<=1000) (ret (.tup vs))):=fun D σ s ρ W e V=>by
 refine both_ok W ?_;rw[arm_eval_Tuple];refine Tri.standAt (Tri.bind W (h D σ s ρ W e V pos) fun D1 σ1 s1 vs as r1 W1 hvs=>?_);rintro Q E ⟨hsz,hp⟩;have hl:=RvL.length hvs;exact wpAny_newTuple (doneTup W1.conc 0 _ (by simpa using hvs) hp) (by rw[sizeLine_eq];omega)
end
def opB (k:Bool):BoolOp:=if k then .And else .Or
def AndsOk (c:Cfg) (A:Around) (l:List Env) (sc:Scope) (sm:SM) (env:Env) (k:Bool) (es:List Expr) (q1:Frame->M AV) (q2:Frame->M Bool):Prop:=
 ∀ (D:Addr->Prop) (σ:St) (s:Shared) (ρ:Frame),Wd c A l D σ s->EnvS sc sm env D σ s.heap->EnvV c sc sm env ρ D s.heap->
  ∀ pos,Tri c A l NX D σ s (boolOp pos (opB k) (evalEach es env)) (RV c) (q1 ρ)/\Tri c A l NX D σ s (allTrue (opB k) es env) RB (q2 ρ)
section
variable {c:Cfg} {A:Around} {l:List Env} {X D:Addr->Prop} {σ:St} {s:Shared} {sc:Scope} {sm:SM} {env:Env} {ρ:Frame} {k:Bool}
theorem ands_nil:AndsOk c A l sc sm env k [] (fun _=>no) (fun _=>ret k):=fun D σ s ρ W e V pos=>⟨fun Q E hp=>hp.elim,by
 cases k<;>exact Tri.pure W.conc rfl⟩
theorem allTrue_step {x:Expr} {r:List Expr} {p:Frame->MB} {q2:Frame->M Bool} (W:Wd c A l D σ s) (hx:Tri c A l NX D σ s (isTrue x env (eval x env)) RB (p ρ).2)
  (hr:∀ (D':Addr->Prop) (σ':St) (s':Shared),Rel c NX (Yof l) D σ s D' σ' s'->Wd c A l D' σ' s'->Tri c A l NX D' σ' s' (allTrue (opB k) r env) RB (q2 ρ)):
  Tri c A l NX D σ s (allTrue (opB k) (x::r) env) RB (bnd (p ρ).2 fun t=>if t=k then q2 ρ else ret t):=by
 rw[arm_allTrue_cons];refine Tri.bind W hx fun D1 σ1 s1 b b' r1 W1 hb=>?_;subst hb;cases k<;>cases b
 ·exact hr D1 σ1 s1 r1 W1
 ·exact Tri.pure W1.conc rfl
 ·exact Tri.pure W1.conc rfl
 ·exact hr D1 σ1 s1 r1 W1
theorem ands_one {x:Expr} {p:Frame->MB} (hx:EvOk c A l sc sm env x p):AndsOk c A l sc sm env k [x] (fun ρ=>(p ρ).1) (fun ρ=>bnd (p ρ).2 fun t=>if t=k then ret k else ret t):=fun D σ s ρ W e V pos=>
 ⟨(hx D σ s ρ W e V).1,allTrue_step (q2:=fun _=>ret k) W (hx D σ s ρ W e V).2 fun D' σ' s' r' W'=>by cases k<;>exact Tri.pure W'.conc rfl⟩
theorem ands_cons {x y:Expr} {r:List Expr} {p:Frame->MB} {q1:Frame->M AV} {q2:Frame->M Bool} (hx:EvOk c A l sc sm env x p) (hr:AndsOk c A l sc sm env k (y::r) q1 q2):
  AndsOk c A l sc sm env k (x::y::r) (fun ρ=>bnd (p ρ).1 fun v=>bnd (truthM v) fun t=>if t=k then q1 ρ else ret v) (fun ρ=>bnd (p ρ).2 fun t=>if t=k then q2 ρ else ret t):=fun D σ s ρ W e V pos=>by
 refine⟨?_,allTrue_step W (hx D σ s ρ W e V).2 fun D' σ' s' r' W'=>(hr D' σ' s' ρ W' (e.rel r') (V.relN e r') pos).2⟩;show Tri c A l NX D σ s (do
  let v <- eval x env
  standAt pos
  let t <- holding [v] (truthy v)
  match opB k,t with
  | .And,false | .Or,true=>pure v
  | _,_=>boolOp pos (opB k) (eval y env::evalEach r env)) _ _
 refine Tri.bind W (hx D σ s ρ W e V).1 fun D1 σ1 s1 v a r1 W1 hv=>Tri.standAt ?_;refine Tri.bind W1 (Tri.holding (truthM_ok W1.conc hv)) fun D2 σ2 s2 b b' r2 W2 hb=>?_;subst hb;have go:=(hr D2 σ2 s2 ρ W2 ((e.rel r1).rel r2) ((V.relN e r1).relN (e.rel r1) r2) pos).1;cases k<;>cases b
 ·exact go
 ·exact Tri.pure W2.conc (hv.mono r2.fz)
 ·exact Tri.pure W2.conc (hv.mono r2.fz)
 ·exact go
theorem andor_ok {es:List Expr} {q1:Frame->M AV} {q2:Frame->M Bool} {pos:Pos} (h:AndsOk c A l sc sm env k es q1 q2):EvOk c A l sc sm env (.BoolOp (opB k) es pos) fun ρ=>(q1 ρ,q2 ρ):=fun D σ s ρ W e V=>
 ⟨(h D σ s ρ W e V pos).1,(h D σ s ρ W e V pos).2⟩
theorem attr_ok {x:Expr} {p:Frame->MB} {f:Nat} {pos:Pos} (g:Good c) (hsup:superLike x=false) (hx:EvOk c A l sc sm env x p):EvOk c A l sc sm env (.Attribute x (attrName f) pos) fun ρ=>both (bnd (p ρ).1 fun v=>attrM v f):=fun D σ s ρ W e V=>by
 refine both_ok W ?_;rw[arm_eval_Attribute,base_plain hsup];refine Tri.bind W (hx D σ s ρ W e V).1 fun D1 σ1 s1 v a r1 W1 hv=>Tri.standAt ?_;intro Q E hp;refine wpAny_bind (wpAny_mono (Tri.holding (attrM_ok g W1.conc hv) Q E hp) ?_ fun _ _ x=>x);rintro w s2 ⟨D2,σ2,b,r2,hw,hq⟩;exact wpAny_bind (wpAny_letTemporaryGo (wpAny_pure ⟨D2,σ2,b,r2,hw,hq⟩))
theorem item_ok {x y:Expr} {p q:Frame->MB} {pos:Pos} (hsl:notSlice y=true) (hx:EvOk c A l sc sm env x p) (hy:EvOk c A l sc sm env y q):
  EvOk c A l sc sm env (.Subscript x y pos) fun ρ=>both (bnd (p ρ).1 fun a=>bnd (q ρ).1 fun b=>itemM a b):=fun D σ s ρ W e V=>by
 refine both_ok W ?_;intro Q E hp;refine Subscript_ ?_;refine Tri.use W (.refl W.conc) (hx D σ s ρ W e V).1 hp fun v s1 D1 σ1 a r1 _ W1 hv hq=>?_;refine Tri.use W r1 (hy D1 σ1 s1 ρ W1 (e.rel r1) (V.relN e r1)).1 hq fun w s2 D2 σ2 b r2 r2' W2 hw hq=>?_;exact Tri.use W r2' (itemM_ok hsl W2.conc (hv.mono r2.fz) hw) hq fun u s3 D3 σ3 d r3 r3' W3 hu hq=>⟨D3,σ3,d,r3',hu,hq⟩
end
def KeepOk (c:Cfg) (v:Value):Prop:=∀ h:Heap,c.K.In h->∃ k,(k=Keeper.frame\/k=Keeper.machine\/k=Keeper.boundFrame)/\Looks (model c.prog c.w) h (keeperOf v) k
theorem keep_bi {c:Cfg} {id:String}:KeepOk c (.builtin id):=fun h _=>⟨.machine,.inr (.inl rfl),.of_pure rfl⟩
theorem keep_ty {c:Cfg} {id:String}:KeepOk c (.type id):=fun h _=>⟨.machine,.inr (.inl rfl),.of_pure rfl⟩
theorem keep_ref {c:Cfg} {a:Addr} (hk:keepIn c.K (.ref a)=true):KeepOk c (.ref a):=fun h x=>keeps_K hk h x
section
variable {c:Cfg} {A:Around} {l:List Env} {X D:Addr->Prop} {σ:St} {s:Shared} {sc:Scope} {sm:SM} {env:Env} {ρ:Frame}
theorem evalArgs_tri {f:Value} {es:List Expr} {pos:Pos} {Q:Args->Shared->Prop} {E:Value->Shared->Prop} {M:Model} (ha:es.all notStar=true) (h:wpAny M A (spliced (backTo pos (starEach es env))) (fun vs s'=>Q ⟨vs,[]⟩ s') E s):wpAny M A (evalArgs f true (backTo pos (starEach es env)) []) Q E s:=by
 cases es with
 | nil=>
  unfold evalArgs;show wpAny M A (spliced [] >>=_) Q E s;refine wpAny_bind (wpAny_mono h (fun vs s' h'=>?_) fun _ _ x=>x);refine wpAny_holding ?_;exact wpAny_bind (wpAny_pure (wpAny_bind (wpAny_pure (wpAny_pure h'))))
 | cons e r=>
  rw[List.all_cons,Bool.and_eq_true] at ha;rw[starEach_cons ha.1] at h ⊢;exact evalArgs_plain h
theorem callWith_tri {v:Value} {first:List Value} {as₀:List AV} {es:List Expr} {q:Frame->M (List AV)} {G:List AV->M AV} {pos:Pos} (W:Wd c A l D σ s) (e:EnvS sc sm env D σ s.heap) (V:EnvV c sc sm env ρ D s.heap) (hk:KeepOk c v) (ha:es.all notStar=true) (hes:EvsOk c A l sc sm env es q)
  (hcall:∀ (D:Addr->Prop) σ s' vs as,Wd c A l D σ s'->(Fz D D s'.heap s'.heap)->RvL c D s'.heap vs as->(∀ D₀ h,Fz D₀ D h s'.heap->RvL c D₀ h first as₀->RvL c D s'.heap first as₀)->(∀ D₀ h,Fz D₀ D h s'.heap->D₀=D₀)->(RvL c D s'.heap first as₀)->Tri c A l NX D σ s' (call v (first++vs)) (RV c) (G as))
  (hf:RvL c D s.heap first as₀):Tri c A l NX D σ s (callWith pos v first (backTo pos (starEach es env)) (backToKw pos (keywordEach [] env))) (RV c) (bnd (q ρ) G):=by
 intro Q E hp;refine callWith_of (P:=c.K.In) (keywords:=[]) (by rw[noStars ha];rfl) hk ?_;refine evalArgs_tri ha ?_;refine Tri.use W (.refl W.conc) (hes D σ s ρ W e V pos) hp fun vs s1 D1 σ1 as r1 _ W1 hvs hq=>⟨W1.conc.kin,?_⟩;exact Tri.use W r1 (hcall D1 σ1 s1 vs as W1 (.refl _ _) hvs (fun _ _ z x=>x.mono z) (fun _ _ _=>rfl) (hf.mono r1.fz)) hq fun w s2 D2 σ2 b r2 r2' W2 hw hq=>⟨D2,σ2,b,r2',hw,hq⟩
theorem callName_ok {x:Str} {px pos:Pos} {v:Value} {es:List Expr} {q:Frame->M (List AV)} {G:List AV->M AV} (hn:sc.names.lookup x=some .globalImplicit) (hd:(x==("__debug__":Str))=false) (hg:globIn c.K x=some v) (hk:KeepOk c v) (ha:es.all notStar=true) (hes:EvsOk c A l sc sm env es q)
  (hcall:∀ (D:Addr->Prop) σ s vs as,Wd c A l D σ s->RvL c D s.heap vs as->Tri c A l NX D σ s (call v vs) (RV c) (G as)):
  EvOk c A l sc sm env (.Call (.Name x px) es [] pos) fun ρ=>both (bnd (q ρ) G):=fun D σ s ρ W e V=>by
 refine both_ok W ?_;intro Q E hp;show wpAny _ _ (eval (.Name x px) env >>=fun f=>callWith pos f [] (backTo pos (starEach es env)) (backToKw pos (keywordEach [] env))) _ _ _;refine wpAny_bind (glob_any W.conc e hn hd hg ?_);exact callWith_tri (first:=[]) (as₀:=[]) W e V hk ha hes (fun D σ s vs as W _ h _ _ _=>hcall D σ s vs as W h) .nil Q E hp
theorem callName1_ok {x:Str} {px pos:Pos} {v:Value} {a:Expr} {p:Frame->MB} {G:AV->M AV} (hn:sc.names.lookup x=some .globalImplicit) (hd:(x==("__debug__":Str))=false) (hg:globIn c.K x=some v) (hk:KeepOk c v) (ha:notStar a=true) (hes:EvOk c A l sc sm env a p)
  (hcall:∀ (D:Addr->Prop) σ s x a,Wd c A l D σ s->Rv c D s.heap x a->Tri c A l NX D σ s (call v [x]) (RV c) (G a)):
  EvOk c A l sc sm env (.Call (.Name x px) [a] [] pos) fun ρ=>both (bnd (p ρ).1 G):=fun D σ s ρ W e V=>by
 have h:=callName_ok (pos:=pos) (px:=px) (G:=fun as=>match as with | [a]=>G a | _=>no) hn hd hg hk (by rw[List.all_cons,ha];rfl) (cons_ok ha hes nil_ok)
  (fun D σ s vs as W h=>by
   match h with
   | .cons h1 .nil=>exact hcall D σ s _ _ W h1
   | .nil=>intro Q E hp;exact hp.elim
   | .cons _ (.cons _ _)=>intro Q E hp;exact hp.elim) D σ s ρ W e V
 exact h
theorem gm_noRef {x:Array UInt8} {t:Tok}:∀ a,Value.bytes x t=.ref a->∃ o,s.heap.get? a=some o/\o.dict=none:=fun _ e=>nomatch e
theorem gm_sw {M:Model} {A:Around} {E:Value->Shared->Prop} {s:Shared} {x:Array UInt8} {t:Tok} {pl:Sem Bool} {Q:Value×List Value->Shared->Prop} (h:Q (.builtin "bytes.startswith",[.bytes x t]) s):wpAny M A (getMethod (.bytes x t) "startswith" pl) Q E s:=by
 with_reducible exact getMethod_builtin (PySem.W.typeIs_bytes _ _ _) PySem.W.FB.plainAttrs_bytes PySem.W.FB.slot_bytes_startswith PySem.W.FB.type_bytes_startswith gm_noRef h
theorem recv_ok {m:Nat} {x:Value} {a:AV} {pl:Sem Bool} {Q:Value×List Value->Shared->Prop} {E':Value->Shared->Prop} {Q':Unit->St->Prop} {E:St->Prop} (C:Conc c D σ s.heap) (hx:Rv c D s.heap x a) (hp:recvM m a Q' E σ) (h:Q (.builtin (methI m),[x]) s):
  wpAny (model c.prog c.w) A (getMethod x (methN m) pl) Q E' s/\Q' () σ:=by
 match m with
 | 0=>
  cases hx<;>first | exact hp.elim | skip
  rename_i a;obtain⟨oa,ea,hp⟩:=hp;cases oa<;>dsimp only at hp<;>first | exact hp.elim | skip
  ·obtain⟨kvs,z,r⟩:=C.obj a _ ea;obtain⟨o,es,ep,e1,e2,e3⟩:=z;exact⟨getMethod_builtin ⟨_,e1,e2.1⟩ PySem.F.plainAttrs_dict PySem.F.slot_dict_get PySem.F.type_dict_get (fun b eb=>by cases eb;exact⟨o,e1,e2.2.1⟩) h,hp⟩
  ·obtain⟨kvs,z,r⟩:=C.obj a _ ea;obtain⟨o,es,ep,e1,e2,e3⟩:=z;exact⟨getMethod_builtin ⟨_,e1,e2.1⟩ PySem.F.plainAttrs_dict PySem.F.slot_dict_get PySem.F.type_dict_get (fun b eb=>by cases eb;exact⟨o,e1,e2.2.1⟩) h,hp⟩
  ·obtain⟨kvs,z,r⟩:=C.obj a _ ea;obtain⟨o,es,ep,e1,e2,e3⟩:=z;exact⟨getMethod_builtin ⟨_,e1,e2.1⟩ PySem.F.plainAttrs_dict PySem.F.slot_dict_get PySem.F.type_dict_get (fun b eb=>by cases eb;exact⟨o,e1,e2.2.1⟩) h,hp⟩
 | 1=>
  cases hx<;>first | exact hp.elim | skip
  rename_i a;obtain⟨oa,ea,hp⟩:=hp;cases oa<;>dsimp only at hp<;>first | exact hp.elim | skip
  obtain⟨vs,n,e1,r1⟩:=ConcO.listAt C ea;exact⟨getMethod_builtin ⟨_,e1,rfl⟩ PySem.F.plainAttrs_list PySem.F.slot_list_append PySem.F.type_list_append (fun b eb=>by cases eb;exact⟨_,e1,rfl⟩) h,hp⟩
 | 2=>
  cases hx<;>first | exact hp.elim | skip
  rename_i a;obtain⟨oa,ea,hp⟩:=hp;cases oa<;>dsimp only at hp<;>first | exact hp.elim | skip
  obtain⟨vs,n,e1,r1⟩:=ConcO.listAt C ea;exact⟨getMethod_builtin ⟨_,e1,rfl⟩ PySem.F.plainAttrs_list PySem.F.slot_list_extend PySem.F.type_list_extend (fun b eb=>by cases eb;exact⟨_,e1,rfl⟩) h,hp⟩
 | 3=>
  cases hx<;>first | exact hp.elim | skip
  rename_i a;obtain⟨oa,ea,hp⟩:=hp;cases oa<;>dsimp only at hp<;>first | exact hp.elim | skip
  obtain⟨vs,n,e1,r1⟩:=ConcO.listAt C ea;exact⟨getMethod_builtin ⟨_,e1,rfl⟩ PySem.F.plainAttrs_list PySem.F.slot_list_insert PySem.F.type_list_insert (fun b eb=>by cases eb;exact⟨_,e1,rfl⟩) h,hp⟩
 | 4=>
  cases hx<;>first | exact hp.elim | skip
  rename_i a;obtain⟨oa,ea,hp⟩:=hp;cases oa<;>dsimp only at hp<;>first | exact hp.elim | skip
  obtain⟨vs,n,e1,r1⟩:=ConcO.listAt C ea;exact⟨getMethod_builtin ⟨_,e1,rfl⟩ PySem.F.plainAttrs_list PySem.F.slot_list_pop PySem.F.type_list_pop (fun b eb=>by cases eb;exact⟨_,e1,rfl⟩) h,hp⟩
 | 5=>
  cases hx<;>first | exact hp.elim | skip
  refine⟨?_,hp⟩;have e1:methI 5="str.join":=rfl;have e2:methN 5=("join":Str):=rfl;rw[e1] at h;rw[e2]
  with_reducible exact GM.join h
 | 6=>
  cases hx<;>first | exact hp.elim | skip
  refine⟨?_,hp⟩;have e1:methI 6="bytes.startswith":=rfl;have e2:methN 6=("startswith":Str):=rfl;rw[e1] at h;rw[e2]
  with_reducible exact gm_sw h
 | 7=>
  cases hx<;>first | exact hp.elim | skip
  rename_i a vs n l d e1 r1;exact⟨getMethod_builtin ⟨_,e1,rfl⟩ PySem.F.plainAttrs_tuple PySem.F.slot_tuple_index PySem.F.type_tuple_index (fun b eb=>by cases eb;exact⟨_,e1,rfl⟩) h,hp⟩
 | _+8=>cases hx<;>exact hp.elim
theorem callForm {es:List Expr} {env:Env} {pos:Pos} (ha:es.all notStar=true) (hl:es.length < 30):methodCallForm (es.length+([]:List Keyword).length) (backTo pos (starEach es env)) (backToKw pos (keywordEach [] env))=true:=by
 unfold methodCallForm;have h1:(backTo pos (starEach es env)).all (fun x=>!x.1)=true:=by
  have:=noStars (env:=env) (pos:=pos) ha;rw[List.any_eq_false] at this;rw[List.all_eq_true];intro x hx;simpa using this x hx
 rw[h1];simpa [keywordEach,backToKw] using hl
theorem meth_ok {o:Expr} {m:Nat} {p:Frame->MB} {es:List Expr} {q:Frame->M (List AV)} {apos pos:Pos} (hu:A.units+100 < cLine) (hsup:superLike o=false) (hline:apos.endLine=pos.line) (ho:EvOk c A l sc sm env o p) (ha:es.all notStar=true) (hlen:es.length < 30) (hes:EvsOk c A l sc sm env es q):
  EvOk c A l sc sm env (.Call (.Attribute o (methN m) apos) es [] pos) fun ρ=>both (bnd (p ρ).1 fun v=>bnd (recvM m v) fun _=>bnd (q ρ) (methM m v)):=fun D σ s ρ W e V=>by
 refine both_ok W ?_;rw[arm_eval_Call,base_plain hsup];refine Tri.bind W (ho D σ s ρ W e V).1 fun D1 σ1 s1 v a r1 W1 hv=>Tri.standAt ?_;have e1:=e.rel r1;have V1:=V.relN e r1;intro Q E hp;unfold methodCall;rw[callForm ha hlen];refine wpAny_bind (wpAny_holding ?_);show wpAny _ _ (getMethod v (methN m) _) _ _ _;have hp1:recvM m a (fun _ σ'=>bnd (q ρ) (methM m a) Q E σ') E σ1:=hp;have hp2:bnd (q ρ) (methM m a) Q E σ1:=(recv_ok (Q:=fun _ _=>True) (E':=fun _ _=>True) (A:=A) (pl:=pure true) W1.conc hv hp1 trivial).2;refine (recv_ok W1.conc hv hp1 ?_).1;show wpAny _ _ (methodCallPos true o env apos pos >>=fun cp=>callWith cp (.builtin (methI m)) [v] _ _) _ _ _;have:methodCallPos true o env apos pos=pure pos:=by
  unfold methodCallPos;rw[hline];simp
 rw[this];refine wpAny_bind (wpAny_pure ?_);exact callWith_tri (as₀:=[a]) W1 e1 V1 keep_bi ha hes (fun D σ s vs as W _ h _ _ hf=>by
  match hf with
  | .cons h1 .nil=>exact methM_ok W hu h1 h) (.cons hv .nil) Q E hp2
theorem lookIn_none {h:Heap} {x:Str}:∀ {es:List DictEntry} {fs:List Nat} {vs:List AV} {n:Nat},RvE c D h es fs vs->(∀ f∈fs,attrName f≠x)->lookIn x (dictOf es n)=some none
 | _,_,_,n,.nil,_=>rfl
 | _,_,_,n,.cons (e:=e) (f:=f) hk hv r,hf=>by
  have h1:=lookIn_none (n:=n) r fun g m=>hf g (.tail _ m);unfold lookIn dictOf at h1 ⊢;dsimp only at h1 ⊢;have h2:e.key.isStr x=false:=by
   rw[hk];show (attrName f==x)=false;exact beq_eq_false_iff_ne.mpr (hf f (.head _))
  have h3:e.refKey=false:=by unfold DictEntry.refKey;rw[hk]
  rw[List.find?_cons,h2,List.any_cons,h3];exact h1
structure OwnM (c:Cfg) (f:Nat) (x:Str):Prop where
 ga:findIn c.K (.ref (c.ca 7)) "__getattribute__"=some (some (.builtin "object.__getattribute__"))
 gt:findIn c.K (.ref (c.ca 7)) "__getattr__"=some none
 fn:findIn c.K (.ref (c.ca 7)) x=some (some (.ref (c.fa f)))
 ty:typeIn c.K (.ref (c.fa f))=some (.type "function")
 kp:keepIn c.K (.ref (c.fa f))=true
 no:∀ g∈fieldsOf 7,attrName g≠x
theorem own_ok {o:Expr} {f:Nat} {x:Str} {p:Frame->MB} {F:Nat->List AV->M AV} {es:List Expr} {q:Frame->M (List AV)} {apos pos:Pos} (g:OwnM c f x) (hsup:superLike o=false) (hline:apos.endLine=pos.line) (ho:EvOk c A l sc sm env o p) (ha:es.all notStar=true) (hlen:es.length < 30) (hes:EvsOk c A l sc sm env es q)
  (hF:∀ (D:Addr->Prop) σ s vs as,Wd c A l D σ s->RvL c D s.heap vs as->Tri c A l NX D σ s (call (.ref (c.fa f)) vs) (RV c) (F f as)):
  EvOk c A l sc sm env (.Call (.Attribute o x apos) es [] pos) fun ρ=>both (bnd (p ρ).1 fun v=>match v with | .inst 7 _=>bnd (q ρ) fun vs=>F f (v::vs) | _=>no):=fun D σ s ρ W e V=>by
 refine both_ok W ?_;rw[arm_eval_Call,base_plain hsup];refine Tri.bind W (ho D σ s ρ W e V).1 fun D1 σ1 s1 v a r1 W1 hv=>Tri.standAt ?_;have e1:=e.rel r1;have V1:=V.relN e r1;intro Q E hp;unfold methodCall;rw[callForm ha hlen];refine wpAny_bind (wpAny_holding ?_);show wpAny _ _ (getMethod v x _) _ _ _;cases hv<;>first | exact hp.elim | skip
 rename_i y dx k es' n fs d1 d2 q1 q2 r
 match k,hp,r,q1 with
 | 7,hp,r,q1=>
  refine method_fn W1.conc.kin (instAt_of q1 q2) g.ga g.gt g.fn g.ty (by show (lookIn x (dictOf es' n)).map _=_;rw[lookIn_none r g.no];rfl) ?_;show wpAny _ _ (methodCallPos true o env apos pos >>=fun cp=>callWith cp (.ref (c.fa f)) [.ref y] _ _) _ _ _;have:methodCallPos true o env apos pos=pure pos:=by
   unfold methodCallPos;rw[hline];simp
  rw[this];refine wpAny_bind (wpAny_pure ?_);exact callWith_tri (as₀:=[.inst 7 fs]) (G:=fun vs=>F f (.inst 7 fs::vs)) W1 e1 V1 (keep_ref g.kp) ha hes (fun D σ s vs as W _ h _ _ hf=>by
   match hf with
   | .cons h1 .nil=>exact hF D σ s _ _ W (.cons h1 h)) (.cons (.inst d1 d2 q1 q2 r) .nil) Q E hp
theorem isinst_ok {T:Str} {t:Nat} {a:Expr} {p:Frame->MB} {px pt pos:Pos} (g:Good c) (ht:t∈tys) (h7:t≠7) (hn:sc.names.lookup ("isinstance":Str)=some .globalImplicit) (hg:globIn c.K "isinstance"=some (.builtin "isinstance"))
  (hnT:sc.names.lookup T=some .globalImplicit) (hdT:(T==("__debug__":Str))=false) (hgT:globIn c.K T=some (clsV c.ca t)) (ha:notStar a=true) (hes:EvOk c A l sc sm env a p):
  EvOk c A l sc sm env (.Call (.Name "isinstance" px) [a,.Name T pt] [] pos) fun ρ=>both (bnd (p ρ).1 fun v=>bnd (instM v t) fun b=>ret (.bool b)):=fun D σ s ρ W e V=>by
 refine both_ok W ?_;intro Q E hp;show wpAny _ _ (eval (.Name "isinstance" px) env >>=fun f=>callWith pos f [] (backTo pos (starEach [a,.Name T pt] env)) (backToKw pos (keywordEach [] env))) _ _ _;refine wpAny_bind (glob_any W.conc e hn (by decide) hg ?_);refine callWith_of (P:=c.K.In) (keywords:=[]) (by rw[noStars (by rw[List.all_cons,ha];rfl)];rfl) keep_bi ?_;refine evalArgs_tri (by rw[List.all_cons,ha];rfl) ?_;rw[starEach_cons ha];show wpAny _ _ (spliced ((false,eval a env)::backTo pos (starEach [.Name T pt] env))) _ _ _;refine spliced_cons ?_;refine Tri.use W (.refl W.conc) (hes D σ s ρ W e V).1 hp fun v s1 D1 σ1 a r1 _ W1 hv hq=>?_;show wpAny _ _ (spliced [(false,eval (.Name T pt) env)]) _ _ _;refine spliced_cons (glob_any W1.conc (e.rel r1) hnT hdT hgT (spliced_nil ⟨W1.conc.kin,?_⟩));exact Tri.use W r1 (instM_ok g ht h7 W1.conc hv) hq fun w s2 D2 σ2 b r2 r2' W2 hw hq=>⟨D2,σ2,.bool b,r2',by rw[hw];exact .bool _,hq⟩
end
inductive AllEv (c:Cfg) (A:Around) (l:List Env) (sc:Scope) (sm:SM) (env:Env):List Expr->List (Frame->MB)->Prop where
 | nil:AllEv c A l sc sm env [] []
 | cons {x p es ps}:notStar x=true->EvOk c A l sc sm env x p->AllEv c A l sc sm env es ps->AllEv c A l sc sm env (x::es) (p::ps)
def evsL:List (Frame->MB)->Frame->M (List AV)
 | [],_=>ret []
 | p::r,ρ=>bnd (p ρ).1 fun v=>bnd (evsL r ρ) fun vs=>ret (v::vs)
section
variable {c:Cfg} {A:Around} {l:List Env} {X Y D D₁:Addr->Prop} {σ σ₁:St} {s s₁:Shared} {sc:Scope} {sm:SM} {env:Env} {ρ:Frame}
theorem AllEv.stars {es ps} (h:AllEv c A l sc sm env es ps):es.all notStar=true:=by
 induction h with
 | nil=>rfl
 | cons h _ _ ih=>rw[List.all_cons,h,ih];rfl
theorem AllEv.evs {es ps} (h:AllEv c A l sc sm env es ps):EvsOk c A l sc sm env es (evsL ps):=by
 induction h with
 | nil=>exact nil_ok
 | cons h1 h2 _ ih=>exact cons_ok h1 h2 ih
theorem Conc.putAt {h':Heap} {d:Addr} {o:AO} (C:Conc c D₁ σ₁ s₁.heap) (hσ:σ₁ d=none) (hD:¬ D₁ d) (hs:∀ a ob,a≠d->s₁.heap.get? a=some ob->h'.get? a=some ob) (hth:(h'.get? d).isSome=true)
  (ho:Fz D₁ D₁ s₁.heap h'->ConcO c D₁ (put σ₁ d o) h' d o):Fz D₁ D₁ s₁.heap h'/\Conc c D₁ (put σ₁ d o) h':=by
 have fz:Fz D₁ D₁ s₁.heap h':=⟨fun _ x=>x,fun a x=>by
  obtain⟨ob,e⟩:=Option.isSome_iff_exists.mp (C.froz a x).2;rw[e];exact hs a ob (fun q=>hD (q ▸ x)) e⟩
 have pn:∀ a,a≠d->put σ₁ d o a=σ₁ a:=fun a n=>if_neg n;have pd:put σ₁ d o d=some o:=if_pos rfl;refine⟨fz,fun a ob e=>?_,fun a x=>?_,fun a ob e=>(fz.get a (C.kD a ob e)).trans (C.kin a ob e),C.kD,noLimit_keep fz C.limD C.lim,C.limD,C.sys,C.mgD,C.btD,C.top.of_eq (fz.get _ C.mgD) (fz.get _ C.btD)⟩
 ·by_cases q:a=d
  ·subst q;rw[pd] at e;cases e;exact ho fz
  ·rw[pn a q] at e;refine (C.obj a ob e).keep fz (fun o' e'=>hs a o' q e') fun k dx fs eo ow=>?_;have:dx≠d:=fun z=>by rw[z,hσ] at ow;cases ow
   exact⟨by rw[pn dx this];exact ow,fun o' e'=>hs dx o' this e'⟩
 ·have:a≠d:=fun z=>hD (z ▸ x);obtain⟨h1,h2⟩:=C.froz a x;rw[pn a this];refine⟨h1,?_⟩;rw[fz.get a x];exact h2
theorem Rel.filled {s₂:Shared} {d:Addr} {o:AO} (r:Rel c X Y D σ s D₁ σ₁ s₁) (hd:s.heap.get? d=none) (hσ:σ₁ d=none) (hD:¬ D₁ d) (hs:∀ a ob,a≠d->s₁.heap.get? a=some ob->s₂.heap.get? a=some ob) (hth:(s₂.heap.get? d).isSome=true)
  (ho:Fz D₁ D₁ s₁.heap s₂.heap->ConcO c D₁ (put σ₁ d o) s₂.heap d o) (gens:s₂.gens=s₁.gens) (os:s₂.os=s₁.os):Rel c X Y D σ s D₁ (put σ₁ d o) s₂:=by
 obtain⟨fz,C⟩:=r.conc.putAt hσ hD hs hth ho;have ne:∀ {a ob},s.heap.get? a=some ob->a≠d:=fun e q=>by rw[q,hd] at e;cases e
 have pn:∀ a,a≠d->put σ₁ d o a=σ₁ a:=fun a n=>if_neg n;refine⟨C,r.fz.trans fz,fun a ob e q n=>?_,fun a e=>?_,fun a e=>?_,fun a e q=>?_,r.dfresh,fun a ob y e n=>?_,gens.trans r.gens,os.trans r.os⟩
 ·obtain⟨k1,sl,k2⟩:=r.keep a ob e q n;exact⟨fun m=>hs a _ (ne e) (k1 m),sl,hs a _ (ne e) k2⟩
 ·obtain⟨ob,q⟩:=Option.isSome_iff_exists.mp e;obtain⟨ob',q'⟩:=Option.isSome_iff_exists.mp (r.there a e);rw[hs a ob' (ne q) q'];rfl
 ·by_cases z:a=d
  ·subst z;rw[show put σ₁ a o a=some o from if_pos rfl];simp
  ·rw[pn a z];exact r.live a e
 ·by_cases z:a=d
  ·subst z;exact hd
  ·rw[pn a z] at e;exact r.fresh a e q
 ·obtain⟨o',q,m⟩:=r.frm a ob y e n;exact⟨o',hs a o' (ne e) q,m⟩
theorem Rel.still {d:Addr} {o:Obj} (W:Wd c A l D σ s) (hd:s.heap.get? d=none) {s₀:Shared} (hs₀:s₀.heap.get? d=some o) (hσ:σ d=none) (r:Rel c NX (Yof l) D σ s₀ D₁ σ₁ s₁):s₁.heap.get? d=some o/\σ₁ d=none/\¬ D₁ d:=by
 have ny:¬ Yof l d:=fun ⟨e,m,q⟩=>by
  obtain⟨_,L,ob,h2,h3,_⟩:=W.frames e m;rw[q] at h2;cases h2;rw[hd] at h3;cases h3
 have nD:¬ D d:=fun x=>by have:=(W.conc.froz d x).2;rw[hd] at this;cases this
 refine⟨(r.keep d o hs₀ hσ (fun z=>z)).1 ny,?_,fun x=>?_⟩
 ·cases q:σ₁ d with
  | none=>rfl
  | some z=>have:=r.fresh d (by rw[q];simp) hσ;rw[hs₀] at this;cases this
 ·have:=r.dfresh d x nD;rw[hs₀] at this;cases this
theorem merged_plain {κ:Type} [DecidableEq κ]:∀ (kvs acc:List (κ×Value)),((acc++kvs).map (·.1)).Nodup->merged acc kvs=acc++kvs
 | [],acc,_=>by simp [merged]
 | kv::r,acc,h=>by
  have e:stored acc kv.1 kv.2=acc++[kv]:=by
   unfold stored;rw[if_neg];intro q;rw[List.any_eq_true] at q;obtain⟨x,hx,hk⟩:=q;rw[List.map_append,List.nodup_append] at h;exact h.2.2 x.1 (List.mem_map_of_mem hx) kv.1 (by simp) (by simpa using hk)
  have:=merged_plain r (acc++[kv]) (by simpa using h);show merged (stored acc kv.1 kv.2) r=_;rw[e,this];simp
theorem pairs_ok {κ:Type} [DecidableEq κ] {knd:PySem.KeyKind c.prog c.w κ} {mkC:κ->Const} (hk:∀ (k:κ) (n:Nat) (pos:Pos) (A:Around) (Q:Value->Shared->Prop) (E:Value->Shared->Prop) (s:Shared),(∀ v tk,knd.is k v=true->Q v {s with toks:=tk})->wpAny (model c.prog c.w) A (eval (.Constant (mkC k) n pos) env) Q E s):
  ∀ {ks:List κ} {ns:List (Nat×Pos)} {es:List Expr} {ps:List (Frame->MB)},ks.length=es.length->ns.length=es.length->AllEv c A l sc sm env es ps->∀ (D:Addr->Prop) (σ:St) (s:Shared) (ρ:Frame),Wd c A l D σ s->EnvS sc sm env D σ s.heap->EnvV c sc sm env ρ D s.heap->∀ pos,
   Tri c A l NX D σ s (evalPairs (pairTrees ((ks.zip ns).map fun k=>some (.Constant (mkC k.1) k.2.1 k.2.2)) es env pos)) (fun D h vs as=>∃ kvs,Carries knd vs kvs/\kvs.map (·.1)=ks/\RvL c D h (kvs.map (·.2)) as) (evsL ps ρ)
 | [],[],[],[],hl,hl',.nil,D,σ,s,ρ,W,e,V,pos=>Tri.pure W.conc ⟨[],trivial,rfl,.nil⟩
 | k::ks,n::ns,x::es,p::ps,hl,hl',.cons h1 h2 h3,D,σ,s,ρ,W,e,V,pos=>by
  intro Q E hp;show wpAny _ _ (evalPairs ((eval (.Constant (mkC k) n.1 n.2) env,do let y <- eval x env;standAt pos;pure y)::pairTrees ((ks.zip ns).map fun k=>some (.Constant (mkC k.1) k.2.1 k.2.2)) es env pos)) _ _ _;refine evalPairs_cons (hk k n.1 n.2 A _ _ s fun kv tk hkv=>?_);have r0:Rel c NX (Yof l) D σ s D σ {s with toks:=tk}:=.toks W.conc tk;refine wpAny_bind ?_;refine Tri.use W r0 (h2 D σ _ ρ (W.rel r0) (e.rel r0) (V.relN e r0)).1 hp fun v s1 D1 σ1 a r1 r1' W1 hv hq=>wpAny_bind (wpAny_standAt (wpAny_pure ?_));have e1:=e.rel r1';have V1:=V.relN e r1';refine Tri.use W r1' (pairs_ok hk (by simpa using hl) (by simpa using hl') h3 D1 σ1 s1 ρ W1 e1 V1 pos) hq fun vs s2 D2 σ2 as r2 r2' W2 hvs hq=>?_;obtain⟨kvs,g1,g2,g3⟩:=hvs;exact⟨D2,σ2,a::as,r2',⟨(k,v)::kvs,⟨hkv,rfl,g1⟩,by rw[List.map_cons,g2],.cons (hv.mono r2.fz) g3⟩,hq⟩
 | [],_,_::_,_,hl,hl',h,_,_,_,_,_,_,_,_=>by cases hl
 | _::_,_,[],_,hl,hl',h,_,_,_,_,_,_,_,_=>by cases hl
 | _,[],_::_,_,hl,hl',h,_,_,_,_,_,_,_,_=>by cases hl'
 | _,_::_,[],_,hl,hl',h,_,_,_,_,_,_,_,_=>by cases hl'
theorem rvp_of {κ:Type} {h:Heap}:∀ {kvs:List (κ×Value)} {ks:List κ} {as:List AV},kvs.map (·.1)=ks->RvL c D h (kvs.map (·.2)) as->RvP D h c kvs (ks.zip as)
 | [],[],[],_,_=>trivial
 | kv::kvs,k::ks,_::_,e,.cons h1 h2=>by
  rw[List.map_cons] at e;injection e with e1 e2
  exact⟨e1,h1,rvp_of e2 h2⟩
 | [],[],_::_,_,h=>by cases h
 | [],_::_,_,e,_=>by cases e
 | _::_,[],_,e,_=>by cases e
 | _::_,_::_,[],_,h=>by cases h
theorem disp_ok {κ:Type} [DecidableEq κ] {knd:PySem.KeyKind c.prog c.w κ} {mkC:κ->Const} {mkO:List (κ×AV)->AO} (hO:∀ D σ h a es kvs,h.DictOf knd a kvs->RvP D h c kvs es->ConcO c D σ h a (mkO es)) (hk:∀ (k:κ) (n:Nat) (pos:Pos) (A:Around) (Q:Value->Shared->Prop) (E:Value->Shared->Prop) (s:Shared),(∀ v tk,knd.is k v=true->Q v {s with toks:=tk})->wpAny (model c.prog c.w) A (eval (.Constant (mkC k) n pos) env) Q E s)
  {ks:List κ} {ns:List (Nat×Pos)} {es:List Expr} {ps:List (Frame->MB)} {pos:Pos} (h1:ks.length=es.length) (h2:ns.length=es.length) (hnd:ks.Nodup) (hlen:es.length<=15) (hes:AllEv c A l sc sm env es ps):
  EvOk c A l sc sm env (.Dict ((ks.zip ns).map fun k=>some (.Constant (mkC k.1) k.2.1 k.2.2)) es pos) fun ρ=>both (bnd (evsL ps ρ) fun vs=>req (ks.length=vs.length) (mk (mkO (ks.zip vs)))):=fun D σ s ρ W e V=>by
 refine both_ok W ?_;have fr:s.heap.get? s.heap.objs.size=none:=Heap.StaysIn.fresh fun _ _ e=>e;have sσ:σ s.heap.objs.size=none:=W.conc.free fr;intro Q E hp;have hlz:((ks.zip ns).map fun k=>some (Expr.Constant (mkC k.1) k.2.1 k.2.2)).length=es.length:=by rw[List.length_map,List.length_zip,h1,h2];omega
 have hall:((ks.zip ns).map fun k=>some (Expr.Constant (mkC k.1) k.2.1 k.2.2)).all (·.isSome)=true:=by rw[List.all_map];exact List.all_eq_true.mpr fun _ _=>rfl
 have new:∀ s':Shared,s'.heap=s.heap.push {cls:=.type "dict",data:=.dict #[]}->s'.heap.DictOf knd s.heap.objs.size []:=fun s' e'=>by
  rw[e'];exact⟨_,#[],0,Heap.get?_push_size _ rfl,⟨rfl,rfl,rfl⟩,rfl,(fun e he=>by simp at he),.nil,List.nodup_nil⟩
 cases hes with
 | nil=>
  have:ks=[]:=List.eq_nil_of_length_eq_zero h1;subst this;obtain⟨_,hp⟩:=hp;show wpAny _ _ (eval (.Dict [] [] pos) env) _ _ _;rw[arm_eval_Dict];refine wpAny_bind (wpAny_standAt ?_);show wpAny _ _ (dictDisplay []) _ _ _;have hd:dictDisplay []=newDict:=by unfold dictDisplay;rfl
  rw[hd];refine wpAny_newObj_type ?_;refine⟨D,_,.ref s.heap.objs.size,.made W.conc s.heap.objs.size (mkO []) fr (fun a ob e=>Heap.get?_push_of_some _ e) (fun z=>hO _ _ _ _ [] [] ?_ trivial) rfl rfl,.ref _,hp _ sσ⟩;exact new {s with heap:=s.heap.push {cls:=.type "dict",data:=.dict #[]}} rfl
 | cons c1 c2 c3=>
  rename_i x p es ps;have hz:=zip_pairTrees ((ks.zip ns).map fun k=>some (Expr.Constant (mkC k.1) k.2.1 k.2.2)) (x::es) env pos hall hlz;refine wpAny_Dict_pairs (knd:=knd) hz ?_ ?_ ?_
  ·intro z;have:=pairTrees_length _ (x::es) env pos hall hlz;rw[z,hlz] at this;cases this
  ·rw[pairTrees_length _ _ env pos hall hlz,hlz];exact hlen
  ·have r0:Rel c NX (Yof l) D σ s D σ {s with heap:=s.heap.push {cls:=.type "dict",data:=.dict #[]}}:=.grow W.conc (fun a ob e=>Heap.get?_push_of_some _ e) rfl rfl;refine Tri.use W r0 (pairs_ok (knd:=knd) hk h1 h2 (.cons c1 c2 c3) D σ _ ρ (W.rel r0) (e.rel r0) (V.relN e r0) pos) hp fun vs s1 D1 σ1 as r1 r1' W1 hvs hq=>?_;obtain⟨kvs,g1,g2,g3⟩:=hvs;obtain⟨hlk,hq⟩:=hq;obtain⟨k1,k2,k3⟩:=Rel.still (o:={cls:=.type "dict",data:=.dict #[]}) (s₀:={s with heap:=s.heap.push {cls:=.type "dict",data:=.dict #[]}}) W fr (Heap.get?_push_size _ rfl) sσ r1;have nd:((([]:List (κ×Value))++kvs).map (·.1)).Nodup:=by rw[List.nil_append,g2];exact hnd
   refine⟨kvs,g1,⟨_,#[],0,k1,⟨rfl,rfl,rfl⟩,rfl,(fun e he=>by simp at he),.nil,List.nodup_nil⟩,fun h' hm hs=>?_⟩;rw[merged_plain kvs [] nd,List.nil_append] at hm;refine⟨D1,put σ1 s.heap.objs.size (mkO (ks.zip as)),.ref s.heap.objs.size,Rel.filled r1' fr k2 k3 (fun a ob n q=>(hs.2 a n).trans q) ?_ (fun z=>hO _ _ _ _ _ kvs hm (rvp_of g2 (g3.mono z))) rfl rfl,.ref _,hq _ k2⟩;obtain⟨o,_,_,q,_⟩:=hm;show (h'.get? _).isSome=true;rw[q];rfl
theorem dictS_ok {ks:List Str} {ns:List (Nat×Pos)} {es:List Expr} {ps:List (Frame->MB)} {pos:Pos} (h1:ks.length=es.length) (h2:ns.length=es.length) (hnd:ks.Nodup) (hlen:es.length<=15) (hes:AllEv c A l sc sm env es ps):
  EvOk c A l sc sm env (.Dict ((ks.zip ns).map fun k=>some (.Constant (.str k.1) k.2.1 k.2.2)) es pos) fun ρ=>both (bnd (evsL ps ρ) fun vs=>req (ks.length=vs.length) (mk (.dS (ks.zip vs)))):=
 disp_ok (knd:=strKind c.prog c.w) (mkC:=Const.str) (mkO:=AO.dS) (fun _ _ _ _ _ kvs h r=>⟨kvs,h,r⟩) (fun k n pos A Q E s h=>wpAny_Constant_str (h _ _ (strKind_is c.prog c.w k _))) h1 h2 hnd hlen hes
theorem dictI_ok {ks:List Int} {ns:List (Nat×Pos)} {es:List Expr} {ps:List (Frame->MB)} {pos:Pos} (h1:ks.length=es.length) (h2:ns.length=es.length) (hnd:ks.Nodup) (hlen:es.length<=15) (hes:AllEv c A l sc sm env es ps):
  EvOk c A l sc sm env (.Dict ((ks.zip ns).map fun k=>some (.Constant (.int k.1) k.2.1 k.2.2)) es pos) fun ρ=>both (bnd (evsL ps ρ) fun vs=>req (ks.length=vs.length) (mk (.dI (ks.zip vs)))):=
 disp_ok (knd:=intKind c.prog c.w) (mkC:=Const.int) (mkO:=AO.dI) (fun _ _ _ _ _ kvs h r=>⟨kvs,h,r⟩) (fun k n pos A Q E s h=>wpAny_Constant_int (h _ _ (intKind_is c.prog c.w k _))) h1 h2 hnd hlen hes
end
section
variable {c:Cfg} {A:Around} {l:List Env} {X Y D D₁:Addr->Prop} {σ σ₁:St} {s s₁:Shared} {sc:Scope} {sm:SM} {env:Env} {ρ:Frame}
theorem slice_end {x:Str} {px:Pos} {sl:Expr} {a:Nat} {vl vu:Value} {lo hi:Option Int} {as as':List AV} {Q:AV->St->Prop} {E:Value->Shared->Prop} (C:Conc c D σ s.heap) (ea:σ a=some (.list as)) (pl:IsPart vl lo) (pu:IsPart vu hi)
  (hsl:∃ p q pos,sl=.Slice p q none pos) (hlen:as.length<=2 ^ 20) (hpick:∀ vs:Array Value,RvL c D s.heap vs.toList as->RvL c D s.heap (slicePick vs lo hi none).toList as') (hp:mk (.list as') Q (fun _=>True) σ):
  wpAny (model c.prog c.w) A (newFields "slice" [vl,vu,.none]) (fun i s₂=>wpAny (model c.prog c.w) A (subscriptTail (.Name x px) sl (.ref a) i) (fun v s'=>∃ D' σ' b,Rel c X (Yof l) D σ s D' σ' s'/\Rv c D' s'.heap v b/\Q b σ') E s₂) E s:=by
 obtain⟨vs,n,e1,r1⟩:=ConcO.listAt C ea;have l1:=r1.length;rw[Array.length_toList] at l1;obtain⟨p,q,pos,rfl⟩:=hsl;refine wpAny_newObj_type ?_ (by simp [sizeOk,sizeLine_eq]);refine slice_listK (items:=vs) ⟨_,e1,rfl,n,rfl⟩ pl pu ?_ (by rfl) (fun _=>rfl) (by rw[l1,sizeLine_eq];omega);have r0:Rel c X (Yof l) D σ s D σ {s with heap:=s.heap.push {cls:=.type "slice",data:=.fields #[vl,vu,.none]}}:=.grow C (fun a ob e=>Heap.get?_push_of_some _ e) rfl rfl;obtain⟨D',σ',b,r2,h2,h3⟩:=doneList (X:=X) (l:=l) (Q:=Q) (s:={s with heap:=s.heap.push {cls:=.type "slice",data:=.fields #[vl,vu,.none]}}) r0.conc 0 s.toks ((hpick vs r1).mono r0.fz) hp;refine⟨D',σ',b,r0.trans C r2,?_,h3⟩;have:(s.heap.push {cls:=.type "slice",data:=.fields #[vl,vu,.none]}).objs.size=s.heap.objs.size+1:=Heap.size_push ..;rw[<- this];exact h2
theorem upto_ok {x:Str} {y:Expr} {p q:Frame->MB} {px pos sp:Pos} (hx:EvOk c A l sc sm env (.Name x px) p) (hy:EvOk c A l sc sm env y q):
  EvOk c A l sc sm env (.Subscript (.Name x px) (.Slice none (some y) none sp) pos) fun ρ=>both (bnd (p ρ).1 fun a=>bnd (q ρ).1 fun b=>uptoM a b):=fun D σ s ρ W e V=>by
 refine both_ok W ?_;intro Q E hp;refine Subscript_ ?_;refine Tri.use W (.refl W.conc) (hx D σ s ρ W e V).1 hp fun v s1 D1 σ1 a r1 _ W1 hv hq=>?_;rw[arm_eval_Slice];refine wpAny_bind (wpAny_pure (wpAny_bind (wpAny_holding ?_)));refine Tri.use W r1 (hy D1 σ1 s1 ρ W1 (e.rel r1) (V.relN e r1)).1 hq fun w s2 D2 σ2 b r2 r2' W2 hw hq=>?_;refine wpAny_bind (wpAny_holding (wpAny_pure ?_));have hv2:=hv.mono r2.fz;cases hv2<;>cases hw<;>first | exact hq.elim | skip
 rename_i a i t;obtain⟨oa,ea,hq⟩:=hq;cases oa<;>dsimp only at hq<;>first | exact hq.elim | skip
 rename_i as;obtain⟨⟨h0,h1,h2⟩,hq⟩:=hq;refine wpAny_mono (slice_end (x:=x) (px:=px) (sl:=.Slice none (some y) none sp) (l:=l) (X:=NX) (Q:=Q) (E:=fun _ _=>False) W2.conc ea .none (.int i t) ⟨_,_,_,rfl⟩ h2 (fun vs r=>?_) hq) ?_ fun _ _ z=>z.elim
 ·obtain⟨m,rfl⟩:=Int.eq_ofNat_of_zero_le h0;rw[slicePick_upto'];exact r.take _
 ·intro i' s3 h3;refine wpAny_mono h3 ?_ fun _ _ z=>z.elim;rintro v s4 ⟨D3,σ3,b,r3,h4,h5⟩;exact⟨D3,σ3,b,r2'.trans W.conc r3,h4,h5⟩
theorem fro_ok {x:Str} {y:Expr} {p q:Frame->MB} {px pos sp:Pos} (hx:EvOk c A l sc sm env (.Name x px) p) (hy:EvOk c A l sc sm env y q):
  EvOk c A l sc sm env (.Subscript (.Name x px) (.Slice (some y) none none sp) pos) fun ρ=>both (bnd (p ρ).1 fun a=>bnd (q ρ).1 fun b=>froM a b):=fun D σ s ρ W e V=>by
 refine both_ok W ?_;intro Q E hp;refine Subscript_ ?_;refine Tri.use W (.refl W.conc) (hx D σ s ρ W e V).1 hp fun v s1 D1 σ1 a r1 _ W1 hv hq=>?_;rw[arm_eval_Slice];refine wpAny_bind ?_;refine Tri.use W r1 (hy D1 σ1 s1 ρ W1 (e.rel r1) (V.relN e r1)).1 hq fun w s2 D2 σ2 b r2 r2' W2 hw hq=>?_;refine wpAny_bind (wpAny_holding (wpAny_pure (wpAny_bind (wpAny_holding (wpAny_pure ?_)))));have hv2:=hv.mono r2.fz;cases hv2<;>cases hw<;>first | exact hq.elim | skip
 rename_i a i t;obtain⟨oa,ea,hq⟩:=hq;cases oa<;>dsimp only at hq<;>first | exact hq.elim | skip
 rename_i as;obtain⟨⟨h0,h1,h2⟩,hq⟩:=hq;refine wpAny_mono (slice_end (x:=x) (px:=px) (sl:=.Slice (some y) none none sp) (l:=l) (X:=NX) (Q:=Q) (E:=fun _ _=>False) W2.conc ea (.int i t) .none ⟨_,_,_,rfl⟩ h2 (fun vs r=>?_) hq) ?_ fun _ _ z=>z.elim
 ·obtain⟨m,rfl⟩:=Int.eq_ofNat_of_zero_le h0;rw[slicePick_from'];exact r.drop _
 ·intro i' s3 h3;refine wpAny_mono h3 ?_ fun _ _ z=>z.elim;rintro v s4 ⟨D3,σ3,b,r3,h4,h5⟩;exact⟨D3,σ3,b,r2'.trans W.conc r3,h4,h5⟩
end
structure Held (l:List Env) (D:Addr->Prop) (σ:St) (I:Addr):Prop where
 free:σ I=none
 nD:¬ D I
 nY:¬ Yof l I
structure ItOk (c:Cfg) (A:Around) (l:List Env) (target:Expr) (I:Addr) (O:Addr->Prop) (J:It) (S:Nat->(Addr->Prop)->St->Heap->Prop):Prop where
 held:∀ i D σ h,S i D σ h->∀ a,O a->Held l D σ a/\(h.get? a).isSome=true
 self:∀ i D σ (s:Shared) (Q E:Value->Shared->Prop),S i D σ s.heap->Q (.ref I) s->wpAny (model c.prog c.w) A (pyIter (.ref I)) Q E s
 stay:∀ i (X:Addr->Prop) D σ (s:Shared) D' σ' s',(∀ a,O a->¬ X a)->Rel c X (Yof l) D σ s D' σ' s'->S i D σ s.heap->S i D' σ' s'.heap
 item:∀ i D σ (s:Shared) x (Q:Value->Shared->Prop) (E:Value->Shared->Prop),Wd c A l D σ s->S i D σ s.heap->J.ok σ->J.items[i]? =some x->
  (∀ v D' s',Rel c O (Yof l) D σ s D' σ s'->S (i+1) D' σ s'.heap->Rv c D' s'.heap v x->Q v s')->
  wpAny (model c.prog c.w) A (pyNext (.ref I)) (fun r s₁=>∃ v,r=some v/\wpAny (model c.prog c.w) A (letOwnedTupleGo target (.ref I) v) (fun _ s'=>Q v s') E s₁) E s
 done:∀ i D σ (s:Shared) (Q:Option Value->Shared->Prop) (E:Value->Shared->Prop),Wd c A l D σ s->S i D σ s.heap->J.ok σ->J.items.length=i->
  (∀ s',s'.gens=s.gens->s'.os=s.os->(∀ a ob,¬ O a->s.heap.get? a=some ob->s'.heap.get? a=some ob)->Q none s')->wpAny (model c.prog c.w) A (pyNext (.ref I)) Q E s
section
variable {c:Cfg} {A:Around} {l:List Env} {X Y D D' D₁:Addr->Prop} {σ σ' σ₁:St} {s s' s₁:Shared} {sc:Scope} {sm:SM} {env:Env} {ρ:Frame}
theorem Held.stay {I:Addr} {o:Obj} (H:Held l D σ I) (e:s.heap.get? I=some o) (hx:¬ X I) (r:Rel c X (Yof l) D σ s D' σ' s'):Held l D' σ' I/\s'.heap.get? I=some o:=by
 refine⟨⟨?_,fun d=>?_,H.nY⟩,(r.keep I o e H.free hx).1 H.nY⟩
 ·cases q:σ' I with
  | none=>rfl
  | some z=>have:=r.fresh I (by rw[q];simp) H.free;rw[e] at this;cases this
 ·have:=r.dfresh I d H.nD;rw[e] at this;cases this
theorem Held.new (W:Wd c A l D σ s) {I:Addr} (e:s.heap.get? I=none):Held l D σ I:=by
 refine⟨W.conc.free e,fun d=>?_,fun ⟨v,m,q⟩=>?_⟩
 ·have:=(W.conc.froz I d).2;rw[e] at this;cases this
 ·obtain⟨_,L,ob,h2,h3,_⟩:=W.frames v m;rw[q] at h2;cases h2;rw[e] at h3;cases h3
theorem Held.turn {I:Addr} {h':Heap} {t:Nat} (C:Conc c D σ s.heap) (H:Held l D σ I) (hx:X I) (hs:Heap.SameBut I s.heap h') (hth:(h'.get? I).isSome=true):Rel c X (Yof l) D σ s D σ {s with heap:=h',toks:=t}:=
 .exempt C I hx H.nD H.free (fun a ob n q=>(hs.2 a n).trans q) (fun _=>hth) (fun y=>absurd y H.nY) rfl rfl
theorem letOwned_plain {target:Expr} {I:Addr} {v:Value} {o:Obj} {n:String} {M:Model} {Q:Unit->Shared->Prop} {E:Value->Shared->Prop} (e:s.heap.get? I=some o) (hc:o.cls=.type n)
  (hn:(["enumerate","zip","dict_itemiterator","dict_reverseitemiterator","odict_iterator","itertools.zip_longest","itertools.pairwise"].contains n)=false) (h:Q () s):wpAny M A (letOwnedTupleGo target (.ref I) v) Q E s:=by
 unfold letOwnedTupleGo;have main:wpAny M A (do
  let (.ref r,.ref a):=(Value.ref I,v) | return
  let o <- load r
  match o.cls,o.data with
  | .type n,.fields vs=>
   if ["enumerate","zip","dict_itemiterator","dict_reverseitemiterator","odict_iterator","itertools.zip_longest","itertools.pairwise"].contains n&&vs[0]? ==some (rawInt a) then
    rule "for.unpacks-the-owned-tuple"
    updateField r 0 .none
  | _,_=>pure ()) Q E s:=by
  cases v<;>first | exact wpAny_pure h | skip
  refine wpAny_bind (wpAny_load e ?_);rw[hc];cases o.data<;>first | exact wpAny_pure h | skip
  dsimp only;rw[hn];exact wpAny_pure h
 cases target<;>first | exact wpAny_pure h | exact main
theorem get_toList {vs:Array Value} {as:List AV} {i:Nat} {x:AV} {h:Heap} (r:RvL c D h vs.toList as) (e:as[i]? =some x):∃ v,vs[i]? =some v/\Rv c D h v x:=by
 obtain⟨v,h1,h2⟩:=r.get e;exact⟨v,by rw[<- Array.getElem?_toList];exact h1,h2⟩
theorem isListIter_get {h:Heap} {I a:Addr} {i:Nat} (x:h.IsListIter I a i):∃ o,h.get? I=some o/\o.cls=.type "list_iterator":=let ⟨o,ho,hc,_⟩:=x;⟨o,ho,hc⟩
theorem it_list {target:Expr} {I a:Addr} {as:List AV}:ItOk c A l target I (· =I) ⟨as,fun σ=>σ a=some (.list as)⟩ (fun i D σ h=>h.IsListIter I a i/\Held l D σ I) where
 held i D σ h hS b o:=by rw[show b=I from o];obtain⟨ob,q,_⟩:=hS.1;exact⟨hS.2,by rw[q];rfl⟩
 self i D σ s Q E hS hQ:=wpAny_pyIter_listiter hS.1 hQ
 stay i X D σ s D' σ' s' hx r hS:=by
  obtain⟨o,e,q⟩:=hS.1;obtain⟨h1,h2⟩:=hS.2.stay e (hx I rfl) r;exact⟨⟨o,h2,q⟩,h1⟩
 item i D σ s x Q E W hS hok hx hQ:=by
  obtain⟨vs,n,e1,r1⟩:=ConcO.listAt W.conc hok;obtain⟨v,hv,rv⟩:=get_toList r1 hx;refine wpAny_pyNext_list_item hS.1 ⟨_,e1,rfl,n,rfl⟩ hv fun h' hit hs=>⟨v,rfl,?_⟩;obtain⟨o,ho,hc⟩:=isListIter_get hit;have r:Rel c (· =I) (Yof l) D σ s D σ {s with heap:=h'}:=Held.turn W.conc hS.2 rfl hs (by rw[ho];rfl);exact letOwned_plain (s:={s with heap:=h'}) ho hc (by decide) (hQ v D _ r ⟨hit,hS.2⟩ (rv.mono r.fz))
 done i D σ s Q E W hS hok hx hQ:=by
  obtain⟨vs,n,e1,r1⟩:=ConcO.listAt W.conc hok;have l1:=r1.length;rw[Array.length_toList] at l1;exact wpAny_pyNext_list_end W.hh hS.1 ⟨_,e1,rfl,n,rfl⟩ (by have hx':as.length=i:=hx;simp;omega) fun h' he=>hQ _ rfl rfl fun b ob nb e=>he b ob nb e
theorem isTupIter_get {h:Heap} {I a:Addr} {i:Nat} (x:h.IsTupleIter I a i):∃ o,h.get? I=some o/\o.cls=.type "tuple_iterator":=let ⟨o,ho,hc,_⟩:=x;⟨o,ho,hc⟩
theorem it_tuple {target:Expr} {I a:Addr} {as:List AV} {vs:Array Value} {n:Nat}:ItOk c A l target I (· =I) ⟨as,fun _=>True⟩ (fun i D σ h=>h.IsTupleIter I a i/\Held l D σ I/\D a/\h.get? a=some (tupO vs n)/\RvL c D h vs.toList as) where
 held i D σ h hS b o:=by rw[show b=I from o];obtain⟨⟨ob,q,_⟩,hH,_⟩:=hS;exact⟨hH,by rw[q];rfl⟩
 self i D σ s Q E hS hQ:=wpAny_pyIter_tupleiter hS.1 hQ
 stay i X D σ s D' σ' s' hx r hS:=by
  obtain⟨⟨o,e,q⟩,hH,h3,h4,h5⟩:=hS;obtain⟨h1,h2⟩:=hH.stay e (hx I rfl) r;exact⟨⟨o,h2,q⟩,h1,r.fz.sub _ h3,(r.fz.get _ h3).trans h4,h5.mono r.fz⟩
 item i D σ s x Q E W hS hok hx hQ:=by
  obtain⟨h1,h2,h3,h4,h5⟩:=hS;obtain⟨v,hv,rv⟩:=get_toList h5 hx;refine wpAny_pyNext_tuple_item h1 ⟨_,h4,rfl,n,rfl⟩ hv fun h' hit hs=>⟨v,rfl,?_⟩;obtain⟨o,ho,hc⟩:=isTupIter_get hit;have r:Rel c (· =I) (Yof l) D σ s D σ {s with heap:=h'}:=Held.turn W.conc h2 rfl hs (by rw[ho];rfl);exact letOwned_plain (s:={s with heap:=h'}) ho hc (by decide) (hQ v D _ r ⟨hit,h2,h3,(r.fz.get _ h3).trans h4,h5.mono r.fz⟩ (rv.mono r.fz))
 done i D σ s Q E W hS hok hx hQ:=by
  obtain⟨h1,h2,h3,h4,h5⟩:=hS;have l1:=h5.length;rw[Array.length_toList] at l1;exact wpAny_pyNext_tuple_end W.hh h1 ⟨_,h4,rfl,n,rfl⟩ (by have hx':as.length=i:=hx;simp;omega) fun h' he=>hQ _ rfl rfl fun b ob nb e=>he b ob nb e
theorem it_bytes {target:Expr} {I:Addr} {b:Array UInt8} {t:Tok}:ItOk c A l target I (· =I) ⟨b.toList.map fun x=>.int x.toNat,fun _=>True⟩ (fun i D σ h=>PySem.W.KBw.IsBytesIter h I b t i/\Held l D σ I) where
 held i D σ h hS b o:=by rw[show b=I from o];obtain⟨⟨ob,q,_⟩,hH⟩:=hS;exact⟨hH,by rw[q];rfl⟩
 self i D σ s Q E hS hQ:=PySem.W.KBw.pyIter_self hS.1 hQ
 stay i X D σ s D' σ' s' hx r hS:=by
  obtain⟨⟨o,e,q⟩,hH⟩:=hS;obtain⟨h1,h2⟩:=hH.stay e (hx I rfl) r;exact⟨⟨o,h2,q⟩,h1⟩
 item i D σ s x Q E W hS hok hx hQ:=by
  obtain⟨h1,h2⟩:=hS;have hx':(b.toList.map fun x=>AV.int x.toNat)[i]? =some x:=hx;rw[List.getElem?_map,Option.map_eq_some_iff] at hx';obtain⟨y,hy,rfl⟩:=hx';rw[Array.getElem?_toList] at hy;refine PySem.W.KBw.next_item h1 hy fun h' hit hs=>⟨_,rfl,?_⟩;obtain⟨o,ho,hc,_⟩:=id hit;have r:Rel c (· =I) (Yof l) D σ s D σ {s with heap:=h',toks:=s.toks+1}:=Held.turn W.conc h2 rfl hs (by rw[ho];rfl);exact letOwned_plain (s:={s with heap:=h',toks:=s.toks+1}) ho hc (by decide) (hQ _ D _ r ⟨hit,h2⟩ (.int _ _))
 done i D σ s Q E W hS hok hx hQ:=by
  obtain⟨h1,h2⟩:=hS;exact PySem.W.KBw.next_end W.hh h1 (by have hx':(b.toList.map fun x=>AV.int x.toNat).length=i:=hx;simp at hx';simp;omega) fun h' he=>hQ _ rfl rfl fun b ob nb e=>he b ob nb e
theorem it_rev {target:Expr} {I a:Addr} {as:List AV}:ItOk c A l target I (· =I) ⟨as.reverse,fun σ=>σ a=some (.list as)⟩ (fun i D σ h=>h.IsRevIter I a ((as.length:Int) - 1 - i)/\Held l D σ I) where
 held i D σ h hS b o:=by rw[show b=I from o];obtain⟨⟨ob,q,_⟩,hH⟩:=hS;exact⟨hH,by rw[q];rfl⟩
 self i D σ s Q E hS hQ:=wpAny_pyIter_revIter hS.1 hQ
 stay i X D σ s D' σ' s' hx r hS:=by
  obtain⟨o,e,q⟩:=hS.1;obtain⟨h1,h2⟩:=hS.2.stay e (hx I rfl) r;exact⟨⟨o,h2,q⟩,h1⟩
 item i D σ s x Q E W hS hok hx hQ:=by
  obtain⟨vs,n,e1,r1⟩:=ConcO.listAt W.conc hok;have hx':as.reverse[i]? =some x:=hx;have hi:i < as.length:=by
   have:=(List.getElem?_eq_some_iff.mp hx').1;simpa using this
  rw[List.getElem?_reverse hi] at hx';obtain⟨v,hv,rv⟩:=get_toList r1 hx';have e:(as.length:Int) - 1 - (i:Int)=((as.length - 1 - i:Nat):Int):=by omega
  have hit:=hS.1;rw[e] at hit;refine wpAny_pyNext_rev_item hit ⟨_,e1,rfl,n,rfl⟩ hv fun h' hit hs=>⟨v,rfl,?_⟩;obtain⟨o,ho,hc,_⟩:=id hit;have r:Rel c (· =I) (Yof l) D σ s D σ {s with heap:=h'}:=Held.turn W.conc hS.2 rfl hs (by rw[ho];rfl);have e2:((as.length - 1 - i:Nat):Int) - 1=(as.length:Int) - 1 - ((i+1:Nat):Int):=by omega
  rw[e2] at hit;exact letOwned_plain (s:={s with heap:=h'}) ho hc (by decide) (hQ v D _ r ⟨hit,hS.2⟩ (rv.mono r.fz))
 done i D σ s Q E W hS hok hx hQ:=by
  have hx':as.reverse.length=i:=hx;rw[List.length_reverse] at hx';have e:(as.length:Int) - 1 - (i:Int)=-1:=by omega
  have hit:=hS.1;rw[e] at hit;exact wpAny_pyNext_rev_end W.hh hit fun h' he=>hQ _ rfl rfl fun b ob nb e=>he b ob nb e
theorem rangeL_get:∀ (n:Nat) (lo d:Int) (i:Nat) (x:AV),(rangeL lo n d)[i]? =some x->i < n/\x=.int (lo+i * d)
 | 0,_,_,_,_,h=>by cases h
 | n+1,lo,d,0,x,h=>by
  have:some (AV.int lo)=some x:=h;cases this;exact⟨by omega,by simp⟩
 | n+1,lo,d,i+1,x,h=>by
  have h':(rangeL (lo+d) n d)[i]? =some x:=h;obtain⟨h1,h2⟩:=rangeL_get n (lo+d) d i x h';refine⟨by omega,?_⟩;rw[h2];congr 1
  push_cast
  rw[Int.add_mul];omega
theorem rangeL_length:∀ (n:Nat) (lo d:Int),(rangeL lo n d).length=n
 | 0,_,_=>rfl
 | n+1,lo,d=>by
  show (rangeL (lo+d) n d).length+1=n+1;rw[rangeL_length]
theorem it_range {target:Expr} {I:Addr} {a d:Int} {n:Nat}:ItOk c A l target I (· =I) ⟨rangeL a n d,fun _=>True⟩ (fun i D σ h=>IsRangeIter h I (a+i * d) ((n:Int) - i) d/\Held l D σ I) where
 held i D σ h hS b o:=by rw[show b=I from o];obtain⟨q,hH⟩:=hS;exact⟨hH,by rw[show h.get? I=_ from q];rfl⟩
 self i D σ s Q E hS hQ:=wpAny_pyIter_rangeiter hS.1 hQ
 stay i X D σ s D' σ' s' hx r hS:=by
  obtain⟨e,hH⟩:=hS;obtain⟨h1,h2⟩:=hH.stay e (hx I rfl) r;exact⟨h2,h1⟩
 item i D σ s x Q E W hS hok hx hQ:=by
  obtain⟨h1,h2⟩:=hS;obtain⟨hi,rfl⟩:=rangeL_get n a d i x hx;refine wpAny_pyNext_range_item h1 (by omega) fun h' hit hs=>⟨_,rfl,?_⟩;have r:Rel c (· =I) (Yof l) D σ s D σ {s with heap:=h',toks:=s.toks+1}:=Held.turn W.conc h2 rfl hs (by rw[show h'.get? I=_ from hit];rfl);have e1:a+(i:Int) * d+d=a+((i+1:Nat):Int) * d:=by push_cast;rw[Int.add_mul];omega
  have e2:(n:Int) - (i:Int) - 1=(n:Int) - ((i+1:Nat):Int):=by omega
  rw[e1,e2] at hit;exact letOwned_plain (s:={s with heap:=h',toks:=s.toks+1}) hit rfl (by decide) (hQ _ D _ r ⟨hit,h2⟩ (.int _ _))
 done i D σ s Q E W hS hok hx hQ:=by
  obtain⟨h1,h2⟩:=hS;have hx':(rangeL a n d).length=i:=hx;rw[rangeL_length] at hx';exact wpAny_pyNext_range_end W.hh h1 (by omega) fun h' he=>hQ _ rfl rfl fun b ob nb e=>he b ob nb e
theorem number_get:∀ (as:List AV) (n i:Nat) (x:AV),(number n as)[i]? =some x->∃ a,as[i]? =some a/\x=.tup [.int (n+i:Nat),a]
 | [],_,_,_,h=>by cases h
 | a::as,n,0,x,h=>by
  have:some (AV.tup [.int n,a])=some x:=h;cases this;exact⟨a,rfl,rfl⟩
 | a::as,n,i+1,x,h=>by
  have h':(number (n+1) as)[i]? =some x:=h;obtain⟨b,h1,h2⟩:=number_get as (n+1) i x h';refine⟨b,h1,?_⟩;rw[h2];have:n+1+i=n+(i+1):=by omega
  rw[this]
theorem number_length:∀ (as:List AV) (n:Nat),(number n as).length=as.length
 | [],_=>rfl
 | a::as,n=>congrArg (· +1) (number_length as (n+1))
theorem it_enum {elts:List Expr} {k:Nat} {pos:Pos} {e I a:Addr} {as:List AV} (hne:e≠I):ItOk c A l (.Tuple elts k pos) e (fun b=>b=e\/b=I) ⟨number 0 as,fun σ=>σ a=some (.list as)⟩ (fun i D σ h=>(∃ old,IsEnum h e I i old)/\h.IsListIter I a i/\Held l D σ I/\Held l D σ e) where
 held i D σ h hS b o:=by
  obtain⟨⟨old,h1⟩,⟨ob,q1,q2⟩,H1,H2⟩:=hS;rcases o with rfl | rfl
  ·exact⟨H2,by rw[show h.get? b=_ from h1];rfl⟩
  ·exact⟨H1,by rw[q1];rfl⟩
 self i D σ s Q E hS hQ:=by
  obtain⟨⟨old,h1⟩,_⟩:=hS;exact wpAny_pyIter_enum h1 hQ
 stay i X D σ s D' σ' s' hx r hS:=by
  obtain⟨⟨old,h1⟩,⟨o,q1,q2⟩,H1,H2⟩:=hS;obtain⟨g1,g2⟩:=H1.stay q1 (hx I (.inr rfl)) r;obtain⟨g3,g4⟩:=H2.stay h1 (hx e (.inl rfl)) r;exact⟨⟨old,g4⟩,⟨o,g2,q2⟩,g1,g3⟩
 item i D σ s x Q E W hS hok hx hQ:=by
  obtain⟨⟨old,h1⟩,h2,H1,H2⟩:=hS;obtain⟨vs,n,e1,r1⟩:=ConcO.listAt W.conc hok;obtain⟨b,hb,rfl⟩:=number_get as 0 i x hx;obtain⟨v,hv,rv⟩:=get_toList r1 hb;have fr:s.heap.get? s.heap.objs.size=none:=Heap.StaysIn.fresh fun _ _ e=>e;refine wpAny_pyNext_enum_item h1 h2 ⟨_,e1,rfl,n,rfl⟩ hv hne fun h' g1 g2 g3 g4 g5=>⟨_,rfl,?_⟩;refine wpAny_letOwnedTupleGo_enum (s:={s with heap:=h',toks:=s.toks+1}) g1 fun h'' k1 k2=>?_;have nT:s.heap.objs.size≠e:=fun z=>by rw[z] at fr;rw[show s.heap.get? e=_ from h1] at fr;cases fr
  have gT:h''.get? s.heap.objs.size=some (tupO #[.int i s.toks,v] 0):=(k2.2 _ nT).trans g3;have gI:h''.IsListIter I a (i+1):=by
   obtain⟨o,q1,q2⟩:=g2;exact⟨o,(k2.2 I (Ne.symm hne)).trans q1,q2⟩
  have same:∀ b ob,b≠e->b≠I->s.heap.get? b=some ob->h''.get? b=some ob:=fun b ob n1 n2 q=>(k2.2 b n1).trans (g5 b ob n1 n2 q);have nDe:∀ b,D b->b≠e/\b≠I:=fun b d=>⟨fun z=>H2.nD (z ▸ d),fun z=>H1.nD (z ▸ d)⟩;have r:Rel c (fun b=>b=e\/b=I) (Yof l) D σ s (fun b=>D b\/b=s.heap.objs.size) σ {s with heap:=h'',toks:=s.toks+1}:=by
   refine .step W.conc (fun b=>b=e\/b=I) ?_ ?_ ?_ (fun _ _ _=>rfl) (fun _ z=>z) (fun _ z q=>absurd q z) (fun _ d=>.inl d) ?_ ?_ ?_ ?_ rfl rfl
   ·rintro b (rfl | rfl)
    ·exact⟨H2.nD,.inr (.inl (.inl rfl))⟩
    ·exact⟨H1.nD,.inr (.inl (.inr rfl))⟩
   ·intro b ob q nb;exact same b ob (fun z=>nb (.inl z)) (fun z=>nb (.inr z)) q
   ·rintro b (rfl | rfl) _
    ·rw[show ({s with heap:=h'',toks:=s.toks+1}:Shared).heap.get? b=_ from k1];rfl
    ·obtain⟨o,q1,q2⟩:=gI;rw[show ({s with heap:=h'',toks:=s.toks+1}:Shared).heap.get? b=_ from q1];rfl
   ·rintro b (d | rfl) nd
    ·exact absurd d nd
    ·exact⟨fr,W.conc.free fr,by rw[show ({s with heap:=h'',toks:=s.toks+1}:Shared).heap.get? _=_ from gT];rfl⟩
   ·rintro fz b ob q (z | z)
    ·rcases z with rfl | rfl
     ·rw[H2.free] at q;cases q
     ·rw[H1.free] at q;cases q
    ·rw[z] at q;cases q
   ·rintro b k dx fs q nb z;have:=(W.conc.obj b _ q).2.1;rcases z with rfl | rfl
    ·rw[H2.free] at this;cases this
    ·rw[H1.free] at this;cases this
   ·rintro b ob y z;rcases z with rfl | rfl
    ·exact absurd y H2.nY
    ·exact absurd y H1.nY
  have H1':Held l (fun b=>D b\/b=s.heap.objs.size) σ I:=⟨H1.free,fun z=>z.elim H1.nD (fun z=>by
   obtain⟨o,q1,_⟩:=h2;rw[z,fr] at q1;cases q1),H1.nY⟩
  have H2':Held l (fun b=>D b\/b=s.heap.objs.size) σ e:=⟨H2.free,fun z=>z.elim H2.nD fun z=>nT z.symm,H2.nY⟩;refine hQ _ _ _ r ⟨⟨_,k1⟩,gI,H1',H2'⟩ (.tup (.inr rfl) gT (.cons ?_ (.cons (rv.mono r.fz) .nil)));have:((0+i:Nat):Int)=(i:Int):=by simp
  rw[this];exact .int _ _
 done i D σ s Q E W hS hok hx hQ:=by
  obtain⟨⟨old,h1⟩,h2,H1,H2⟩:=hS;obtain⟨vs,n,e1,r1⟩:=ConcO.listAt W.conc hok;have l1:=r1.length;rw[Array.length_toList] at l1;have hx':(number 0 as).length=i:=hx;rw[number_length] at hx';exact wpAny_pyNext_enum_end W.hh h1 h2 ⟨_,e1,rfl,n,rfl⟩ (by simp;omega) fun h' he=>hQ _ rfl rfl fun b ob nb e=>he b ob (fun z=>nb (.inr z)) e
end
abbrev Flies (c:Cfg) (l:List Env) (X D:Addr->Prop) (σ:St) (s:Shared) (E:St->Prop):Value->Shared->Prop:=fun e s'=>∃ D' σ',Rel c X (Yof l) D σ s D' σ' s'/\Exc c l D' σ' s.heap s'.heap e/\E σ'
def EvIt (c:Cfg) (A:Around) (l:List Env) (sc:Scope) (sm:SM) (env:Env) (target iter:Expr) (q:Frame->M It):Prop:=
 ∀ (D:Addr->Prop) (σ:St) (s:Shared) (ρ:Frame),Wd c A l D σ s->EnvS sc sm env D σ s.heap->EnvV c sc sm env ρ D s.heap->∀ (Q:It->St->Prop) (E:St->Prop) (K:Value->Shared->Prop),q ρ Q E σ->
  (∀ I s' D' σ' O J S,Rel c NX (Yof l) D σ s D' σ' s'->(∀ a,O a->s.heap.get? a=none)->O I->(∀ a,O a->Held l D' σ' a)->ItOk c A l target I O J S->S 0 D' σ' s'.heap->Q J σ'->K (.ref I) s')->
  wpAny (model c.prog c.w) A (eval iter env) (fun x s₁=>wpAny (model c.prog c.w) A (pyIter x) K (Flies c l NX D σ s E) s₁) (Flies c l NX D σ s E) s
section
variable {c:Cfg} {A:Around} {l:List Env} {X Y D D' D₁:Addr->Prop} {σ σ' σ₁:St} {s s' s₁:Shared} {sc:Scope} {sm:SM} {env:Env} {ρ:Frame}
theorem callN_use {x:Str} {v:Value} {px pos:Pos} {es:List Expr} {ps:List (Frame->MB)} {P:List AV->St->Prop} {E:St->Prop} {K Ex:Value->Shared->Prop} (hn:sc.names.lookup x=some .globalImplicit) (hd:(x==("__debug__":Str))=false) (hg:globIn c.K x=some v) (hk:KeepOk c v)
  (W:Wd c A l D σ s) (e:EnvS sc sm env D σ s.heap) (V:EnvV c sc sm env ρ D s.heap) (hes:AllEv c A l sc sm env es ps) (hp:evsL ps ρ P E σ) (hEx:∀ w s',Flies c l NX D σ s E w s'->Ex w s')
  (k:∀ vs s1 D1 σ1 as,Rel c NX (Yof l) D σ s D1 σ1 s1->Wd c A l D1 σ1 s1->RvL c D1 s1.heap vs as->P as σ1->wpAny (model c.prog c.w) A (call v vs) K Ex s1):
  wpAny (model c.prog c.w) A (eval (.Call (.Name x px) es [] pos) env) K Ex s:=by
 show wpAny _ _ (eval (.Name x px) env >>=fun f=>callWith pos f [] (backTo pos (starEach es env)) (backToKw pos (keywordEach [] env))) _ _ _;refine wpAny_bind (glob_any W.conc e hn hd hg ?_);refine callWith_of (P:=c.K.In) (keywords:=[]) (by rw[noStars hes.stars];rfl) hk ?_;refine evalArgs_tri hes.stars ?_;refine wpAny_mono (Tri.use (K:=fun vs s₁=>c.K.In s₁.heap/\wpAny (model c.prog c.w) A (call v ([]++vs)) K Ex s₁) W (.refl W.conc) (hes.evs D σ s ρ W e V pos) hp fun vs s1 D1 σ1 as r1 _ W1 hvs hq=>⟨W1.conc.kin,k vs s1 D1 σ1 as r1 W1 hvs hq⟩) (fun _ _ z=>z) hEx
theorem fresh_at (h:Heap):h.get? h.objs.size=none:=Heap.StaysIn.fresh fun _ _ e=>e
theorem Wd.back_new (W:Wd c A l D σ s) (r:Rel c X (Yof l) D σ s D₁ σ₁ s₁):s.heap.get? s₁.heap.objs.size=none:=gone r.there (fresh_at _)
theorem it_start {o:Obj} {I:Addr} (W:Wd c A l D σ s) (r:Rel c NX (Yof l) D σ s D₁ σ₁ s₁) (hf:o.isFreed=false) (hI:I=s₁.heap.objs.size) (t:Nat):Rel c NX (Yof l) D σ s D₁ σ₁ {s₁ with heap:=s₁.heap.push o,toks:=t}/\s.heap.get? I=none/\Held l D₁ σ₁ I/\(s₁.heap.push o).get? I=some o/\Rel c NX (Yof l) D₁ σ₁ s₁ D₁ σ₁ {s₁ with heap:=s₁.heap.push o,toks:=t}:=by
 subst hI;have W1:=W.rel r;have g:Rel c NX (Yof l) D₁ σ₁ s₁ D₁ σ₁ {s₁ with heap:=s₁.heap.push o,toks:=t}:=.grow W1.conc (fun a ob e=>Heap.get?_push_of_some _ e) rfl rfl;exact⟨r.trans W.conc g,W.back_new r,Held.new W1 (fresh_at _),Heap.get?_push_size _ hf,g⟩
theorem seq_it {target iter:Expr} {p:Frame->MB} (h:EvOk c A l sc sm env iter p):EvIt c A l sc sm env target iter fun ρ=>bnd (p ρ).1 seqM:=fun D σ s ρ W e V Q E K hp k=>by
 refine Tri.use W (.refl W.conc) (h D σ s ρ W e V).1 hp fun v s1 D1 σ1 a r1 _ W1 hv hq=>?_;cases hv<;>first | exact hq.elim | skip
 case bytes b t=>
  obtain⟨g1,g2,g3,g4,g5⟩:=it_start (o:={cls:=.type "bytes_iterator",data:=.fields #[.bytes b t,.int 0 0]}) W r1 rfl rfl s1.toks;refine PySem.W.KBw.pyIter_bytes ?_;exact k _ _ D1 σ1 (· =s1.heap.objs.size) _ _ g1 (fun a e=>by rw[show a=_ from e];exact g2) rfl (fun a e=>by rw[show a=_ from e];exact g3) it_bytes ⟨⟨_,g4,rfl,rfl⟩,g3⟩ hq
 case ref a=>
  obtain⟨oa,ea,hq⟩:=hq;cases oa<;>dsimp only at hq<;>first | exact hq.elim | skip
  rename_i as;obtain⟨vs,n,e1,rl⟩:=ConcO.listAt W1.conc ea;obtain⟨g1,g2,g3,g4,g5⟩:=it_start (o:={cls:=.type "list_iterator",data:=.fields #[.ref a,.int 0 0]}) W r1 rfl rfl s1.toks;refine wpAny_pyIter_list ⟨_,e1,rfl,n,rfl⟩ ?_;exact k _ _ D1 σ1 (· =s1.heap.objs.size) _ _ g1 (fun a e=>by rw[show a=_ from e];exact g2) rfl (fun a e=>by rw[show a=_ from e];exact g3) it_list ⟨⟨_,g4,rfl,rfl⟩,g3⟩ hq
 case tup a vs n as d e1 rl=>
  obtain⟨g1,g2,g3,g4,g5⟩:=it_start (o:={cls:=.type "tuple_iterator",data:=.fields #[.ref a,.int 0 0]}) W r1 rfl rfl s1.toks;refine wpAny_pyIter_tuple ⟨_,e1,rfl,n,rfl⟩ ?_;exact k _ _ D1 σ1 (· =s1.heap.objs.size) _ _ g1 (fun a e=>by rw[show a=_ from e];exact g2) rfl (fun a e=>by rw[show a=_ from e];exact g3) (it_tuple (vs:=vs) (n:=n)) ⟨⟨_,g4,rfl,rfl⟩,g3,d,(g5.fz.get _ d).trans e1,rl.mono g5.fz⟩ hq
theorem rev_it {target a:Expr} {px pos:Pos} {p:Frame->MB} (hn:sc.names.lookup ("reversed":Str)=some .globalImplicit) (hg:globIn c.K "reversed"=some (.type "reversed")) (ha:notStar a=true) (h:EvOk c A l sc sm env a p):
  EvIt c A l sc sm env target (.Call (.Name "reversed" px) [a] [] pos) fun ρ=>bnd (p ρ).1 revM:=fun D σ s ρ W e V Q E K hp k=>by
 refine callN_use (P:=fun as σ'=>match as with | [a]=>revM a Q E σ' | _=>False) (E:=E) hn (by decide) hg keep_ty W e V (.cons ha h .nil) hp (fun _ _ z=>z) fun vs s1 D1 σ1 as r1 W1 hv hq=>?_
 match hv with
 | .nil=>exact hq.elim
 | .cons _ (.cons _ _)=>exact hq.elim
 | .cons (v:=v) (a:=b) hv .nil=>
  cases hv<;>first | exact hq.elim | skip
  rename_i a;obtain⟨oa,ea,hq⟩:=hq;cases oa<;>dsimp only at hq<;>first | exact hq.elim | skip
  rename_i as;obtain⟨vs,n,e1,rl⟩:=ConcO.listAt W1.conc ea;have l1:=rl.length;rw[Array.length_toList] at l1;refine call_reversed_list (items:=vs) ⟨_,e1,rfl,n,rfl⟩ ?_;obtain⟨g1,g2,g3,g4,g5⟩:=it_start (o:=revObj a ((vs.size:Int) - 1)) W r1 rfl rfl s1.toks;have hi:(s1.heap.push (revObj a ((vs.size:Int) - 1))).IsRevIter s1.heap.objs.size a ((as.length:Int) - 1 - (0:Nat)):=⟨_,g4,rfl,by rw[show ((as.length:Int) - 1 - (0:Nat))=(vs.size:Int) - 1 by omega];rfl⟩;refine wpAny_pyIter_revIter (s:={s1 with heap:=s1.heap.push (revObj a ((vs.size:Int) - 1))}) hi ?_;exact k _ _ D1 σ1 (· =s1.heap.objs.size) _ _ g1 (fun a e=>by rw[show a=_ from e];exact g2) rfl (fun a e=>by rw[show a=_ from e];exact g3) it_rev ⟨hi,g3⟩ hq
theorem enum_it {a:Expr} {elts:List Expr} {kk:Nat} {tp px pos:Pos} {p:Frame->MB} (hn:sc.names.lookup ("enumerate":Str)=some .globalImplicit) (hg:globIn c.K "enumerate"=some (.type "enumerate")) (ha:notStar a=true) (h:EvOk c A l sc sm env a p):
  EvIt c A l sc sm env (.Tuple elts kk tp) (.Call (.Name "enumerate" px) [a] [] pos) fun ρ=>bnd (p ρ).1 enumM:=fun D σ s ρ W e V Q E K hp k=>by
 refine callN_use (P:=fun as σ'=>match as with | [a]=>enumM a Q E σ' | _=>False) (E:=E) hn (by decide) hg keep_ty W e V (.cons ha h .nil) hp (fun _ _ z=>z) fun vs s1 D1 σ1 as r1 W1 hv hq=>?_
 match hv with
 | .nil=>exact hq.elim
 | .cons _ (.cons _ _)=>exact hq.elim
 | .cons (v:=v) (a:=b) hv .nil=>
  cases hv<;>first | exact hq.elim | skip
  rename_i a;obtain⟨oa,ea,hq⟩:=hq;cases oa<;>dsimp only at hq<;>first | exact hq.elim | skip
  rename_i as;obtain⟨vs,n,e1,rl⟩:=ConcO.listAt W1.conc ea;refine call_enumerate_list (items:=vs) ⟨_,e1,rfl,n,rfl⟩ fun h' i1 i2 hsz hk=>?_;have g:Rel c NX (Yof l) D1 σ1 s1 D1 σ1 {s1 with heap:=h'}:=.grow W1.conc hk rfl rfl;have r2:=r1.trans W.conc g;have n1:s1.heap.get? s1.heap.objs.size=none:=fresh_at _;have n2:s1.heap.get? (s1.heap.objs.size+1)=none:=fresh_above _ 1;have H1:=Held.new W1 n1;have H2:=Held.new W1 n2;refine wpAny_pyIter_enum (s:={s1 with heap:=h'}) i1 ?_;refine k _ _ D1 σ1 (fun b=>b=s1.heap.objs.size+1\/b=s1.heap.objs.size) _ _ r2 ?_ (.inl rfl) ?_ (it_enum (a:=a) (as:=as) (Nat.succ_ne_self _)) ⟨⟨.none,i1⟩,i2,H1,H2⟩ hq
  ·rintro b (rfl | rfl)
   ·exact gone r1.there n2
   ·exact gone r1.there n1
  ·rintro b (rfl | rfl)
   ·exact H2
   ·exact H1
theorem small_of {a b c n:Int} (ha:-(2 ^ 60) < a/\a < 2 ^ 60) (hb:-(2 ^ 60) < b/\b < 2 ^ 60) (hc:c=1\/c=-1\/c=2) (hn:Builtin.Range.rangeSize a b c=n) (hn':0<=n/\n < 2 ^ 62):Builtin.Range.small a b c=true:=by
 unfold Builtin.Range.small Builtin.Range.rangeFitsLong;rw[hn];rcases hc with rfl | rfl | rfl<;>simp<;>omega
theorem range_it {target:Expr} {es:List Expr} {px pos:Pos} {ps:List (Frame->MB)} (hn:sc.names.lookup ("range":Str)=some .globalImplicit) (hg:globIn c.K "range"=some (.type "range")) (h:AllEv c A l sc sm env es ps):
  EvIt c A l sc sm env target (.Call (.Name "range" px) es [] pos) fun ρ=>bnd (evsL ps ρ) rangeM:=fun D σ s ρ W e V Q E K hp k=>by
 have fin:∀ (s1:Shared) D1 σ1 (a b d:Int) (ta tb td t:Nat) (n:Nat),Rel c NX (Yof l) D σ s D1 σ1 s1->Wd c A l D1 σ1 s1->Builtin.Range.rangeSize a b d=n->Builtin.Range.small a b d=true->Q ⟨rangeL a n d,fun _=>True⟩ σ1->
   wpAny (model c.prog c.w) A (pyIter (.ref s1.heap.objs.size)) K (Flies c l NX D σ s E) {s1 with heap:=s1.heap.push {cls:=.type "range",data:=.fields #[.int a ta,.int b tb,.int d td]},toks:=t}:=by
  intro s1 D1 σ1 a b d ta tb td t n r1 W1 hsz hsm hq;obtain⟨g1,g2,g3,g4,g5⟩:=it_start (o:={cls:=.type "range",data:=.fields #[.int a ta,.int b tb,.int d td]}) W r1 rfl rfl t;refine wpAny_pyIter_range (a:=a) (b:=b) (c:=d) (t:=ta) (u:=tb) (v:=td) g4 hsm ?_;rw[hsz];obtain⟨k1,k2,k3,k4,k5⟩:=it_start (I:=(s1.heap.push {cls:=.type "range",data:=.fields #[.int a ta,.int b tb,.int d td]}).objs.size) (o:={cls:=.type "range_iterator",data:=.fields #[rawInt a,rawInt (n:Int),rawInt d]}) W g1 rfl rfl t;refine k _ _ D1 σ1 (· =(s1.heap.push {cls:=.type "range",data:=.fields #[.int a ta,.int b tb,.int d td]}).objs.size) _ _ k1 (fun a e=>by rw[show a=_ from e];exact k2) rfl (fun a e=>by rw[show a=_ from e];exact k3) it_range ⟨?_,k3⟩ hq;have e1:a+((0:Nat):Int) * d=a:=by simp
  have e2:(n:Int) - ((0:Nat):Int)=n:=by simp
  rw[e1,e2];exact k4
 refine callN_use (P:=fun as σ'=>rangeM as Q E σ') (E:=E) hn (by decide) hg keep_ty W e V h hp (fun _ _ z=>z) fun vs s1 D1 σ1 as r1 W1 hv hq=>?_
 match hv with
 | .nil=>exact hq.elim
 | .cons h1 .nil=>
  cases h1<;>first | exact hq.elim | skip
  rename_i n t;obtain⟨hn,hq⟩:=hq;refine call_range_1 ?_;have hsz:Builtin.Range.rangeSize 0 n 1=(n.toNat:Int):=by
   rw[rangeSize_one];split<;>omega
  exact fin s1 D1 σ1 0 n 1 _ _ _ _ n.toNat r1 W1 hsz (small_of (by decide) hn (.inl rfl) hsz (by omega)) hq
 | .cons h1 (.cons h2 .nil)=>cases h1<;>cases h2<;>exact hq.elim
 | .cons h1 (.cons h2 (.cons h3 .nil))=>
  cases h1<;>cases h2<;>cases h3<;>first | exact hq.elim | skip
  rename_i a ta b tb d td;obtain⟨ha1,ha2,hb1,hb2,hq⟩:=hq;rcases hq with ⟨rfl,hq⟩ | ⟨rfl,hq⟩
  ·have hsz:Builtin.Range.rangeSize a b (-1)=((a - b).toNat:Int):=by
    unfold Builtin.Range.rangeSize;rw[if_neg (by decide)];split
    ·simp;omega
    ·omega
   exact call_range_3 (by decide) (fin s1 D1 σ1 a b (-1) _ _ _ _ _ r1 W1 hsz (small_of ⟨ha1,ha2⟩ ⟨hb1,hb2⟩ (.inr (.inl rfl)) hsz (by omega)) hq) (.inl (PyProof.noPylong_of_log2 (by decide+kernel)))
  ·have hsz:Builtin.Range.rangeSize a b 2=(((b - a+1) / 2).toNat:Int):=by
    unfold Builtin.Range.rangeSize;rw[if_pos (by decide)];split<;>omega
   exact call_range_3 (by decide) (fin s1 D1 σ1 a b 2 _ _ _ _ _ r1 W1 hsz (small_of ⟨ha1,ha2⟩ ⟨hb1,hb2⟩ (.inr (.inr rfl)) hsz (by omega)) hq) (.inl (PyProof.noPylong_of_log2 (by decide+kernel)))
 | .cons h1 (.cons h2 (.cons h3 (.cons h4 _)))=>cases h1<;>cases h2<;>cases h3<;>exact hq.elim
end
def nameOk (sc:Scope) (sm:SM) (x:Str) (i:Nat):Bool:=sm.lookup x==some i&&(sc.names.lookup x==some .local||sc.names.lookup x==some .cell)
def namesOk (sc:Scope) (sm:SM):List Expr->List Nat->Bool
 | [],[]=>true
 | .Name x _::es,i::is=>nameOk sc sm x i&&namesOk sc sm es is
 | _,_=>false
def tgtOk (sc:Scope) (sm:SM):Expr->List Nat->Bool
 | .Name x _,[i]=>nameOk sc sm x i
 | .Tuple es _ _,is=>namesOk sc sm es is&&(es.length==2||es.length==3)
 | _,_=>false
def tgtNames:Expr->List Str
 | .Name x _=>[x]
 | .Tuple es _ _=>es.filterMap fun | .Name x _=>some x | _=>none
 | _=>[]
theorem nameOk_spec {sc:Scope} {sm:SM} {x:Str} {i:Nat} (h:nameOk sc sm x i=true):sm.lookup x=some i/\∃ k,sc.names.lookup x=some k/\(k=.local\/k=.cell):=by
 unfold nameOk at h;rw[Bool.and_eq_true,Bool.or_eq_true,beq_iff_eq,beq_iff_eq,beq_iff_eq] at h;exact⟨h.1,h.2.elim (fun q=>⟨_,q,.inl rfl⟩) fun q=>⟨_,q,.inr rfl⟩⟩
def closL (cells:List (Str×Addr)):List (Str×NameKind)->List (Str×Addr)->List (Str×Addr)
 | [],acc=>acc
 | (n,k)::r,acc=>if k==.free then closL cells r ((n,(cells.lookup n).getD 0)::acc) else closL cells r acc
theorem closL_eq {env:Env}:∀ (names:List (Str×NameKind)) (acc:List (Str×Addr)),(∀ x,(x,NameKind.free)∈names->(env.cells.lookup x).isSome=true)->
  (forIn names acc fun (x:Str×NameKind) cs=>(do if x.2==NameKind.free then (do let a <- cellOf env x.1;pure (.yield ((x.1,a)::cs))) else pure (.yield cs):Sem (ForInStep (List (Str×Addr)))))=pure (closL env.cells names acc)
 | [],acc,_=>by rw[List.forIn_nil];rfl
 | (n,k)::r,acc,h=>by
  rw[List.forIn_cons];have ih:=fun acc=>closL_eq r acc fun x m=>h x (.tail _ m);unfold closL;by_cases q:(k==.free)=true
  ·rw[if_pos q];have:k=.free:=beq_iff_eq.mp q;subst this;obtain⟨a,ea⟩:=Option.isSome_iff_exists.mp (h n (.head _));have:cellOf env n=pure a:=by unfold cellOf;rw[ea]
   simp only[q,if_true,this,pure_bind];rw[ih,ea];rfl
  ·rw[if_neg q];simp only[q,pure_bind];exact ih acc
theorem closure_eq {scope:Scope} {env:Env} (h:∀ x,(x,NameKind.free)∈scope.names->(env.cells.lookup x).isSome=true):closureFor scope env=pure (closL env.cells scope.names []):=by
 unfold closureFor;have:=closL_eq (env:=env) scope.names [] h;simp only[bind_pure];first
  | exact this
  | (rw[<- this];congr 1;funext x cs;obtain⟨n,k⟩:=x;by_cases q:(k==.free)=true<;>simp [q])
theorem closL_some {cells:List (Str×Addr)}:∀ {names:List (Str×NameKind)} {acc:List (Str×Addr)} {x:Str} {a:Addr},(∀ x,(x,NameKind.free)∈names->(cells.lookup x).isSome=true)->(∀ x a,acc.lookup x=some a->cells.lookup x=some a)->(closL cells names acc).lookup x=some a->cells.lookup x=some a
 | [],_,_,_,_,ha,h=>ha _ _ h
 | (n,k)::r,acc,x,a,hf,ha,h=>by
  unfold closL at h;by_cases q:(k==.free)=true
  ·rw[if_pos q] at h;have:k=.free:=beq_iff_eq.mp q;subst this;obtain⟨b,eb⟩:=Option.isSome_iff_exists.mp (hf n (.head _));refine closL_some (fun x m=>hf x (.tail _ m)) (fun y d hd=>?_) h;rw[List.lookup_cons] at hd;cases z:y==n<;>rw[z] at hd<;>dsimp only at hd
   ·exact ha y d hd
   ·rw[beq_iff_eq.mp z,eb];rw[eb] at hd;exact hd
  ·rw[if_neg q] at h;exact closL_some (fun x m=>hf x (.tail _ m)) ha h
theorem closL_has {cells:List (Str×Addr)}:∀ {names:List (Str×NameKind)} {acc:List (Str×Addr)} {x:Str},(x,NameKind.free)∈names\/(acc.lookup x).isSome=true->((closL cells names acc).lookup x).isSome=true
 | [],_,_,h=>h.elim (fun h=>nomatch h) id
 | (n,k)::r,acc,x,h=>by
  unfold closL;by_cases q:(k==.free)=true
  ·rw[if_pos q];refine closL_has ?_;by_cases z:(x==n)=true
   ·right;rw[List.lookup_cons,z];rfl
   ·rcases h with h | h
    ·rcases List.mem_cons.mp h with h | h
     ·cases h;exact absurd (beq_self_eq_true _) z
     ·exact .inl h
    ·right;rw[List.lookup_cons,Bool.eq_false_iff.mpr z];exact h
  ·rw[if_neg q];refine closL_has ?_;rcases h with h | h
   ·rcases List.mem_cons.mp h with h | h
    ·cases h;exact absurd rfl q
    ·exact .inl h
   ·exact .inr h
section
variable {c:Cfg} {A:Around} {l:List Env} {X Y D D' D₁:Addr->Prop} {σ σ' σ₁:St} {s s' s₁:Shared} {sc:Scope} {sm:SM} {env:Env} {ρ:Frame}
theorem names_ok:∀ {es:List Expr} {is:List Nat} {vs:List Value} {as:List AV},namesOk sc sm es is=true->is.length=as.length->(∀ x∈es.filterMap (fun | .Name x _=>some x | _=>none),MayBind sc env X x)->∀ (D:Addr->Prop) (σ:St) (s:Shared) (ρ:Frame),Wd c A l D σ s->EnvS sc sm env D σ s.heap->EnvV c sc sm env ρ D s.heap->RvL c D s.heap vs as->
  Tri c A l X D σ s (assignInOrder ((assignEach es env).map (·.2)) vs) (RN c sc sm env) (ret ((is.zip as).foldl (fun r p=>r.set p.1 (some p.2)) ρ))
 | [],[],vs,as,_,hl,hX,D,σ,s,ρ,W,e,V,hv=>by
  intro Q E hp;cases as with
  | nil=>cases hv;exact wpAny_pure ⟨D,σ,ρ,.refl W.conc,V,hp⟩
  | cons a as=>cases hl
 | .Name x px::es,i::is,v::vs,a::as,h,hl,hX,D,σ,s,ρ,W,e,V,.cons h1 h2=>by
  unfold namesOk at h;rw[Bool.and_eq_true] at h;obtain⟨g1,k,g2,g3⟩:=nameOk_spec h.1;show Tri c A l X D σ s (holding vs (do standAt px;bindName env x v) >>=fun _=>assignInOrder ((assignEach es env).map (·.2)) vs) _ (bnd (ret (ρ.set i (some a))) fun ρ1=>ret ((is.zip as).foldl (fun r p=>r.set p.1 (some p.2)) ρ1));refine Tri.bind W (Tri.holding (Tri.standAt (bind_ok W.conc e V g1 g2 g3 (hX x (.head _) k g2) h1))) fun D1 σ1 s1 _ ρ1 r1 W1 hV=>?_;exact names_ok h.2 (by simpa using hl) (fun y m=>hX y (.tail _ m)) D1 σ1 s1 ρ1 W1 (e.rel r1) hV (h2.mono r1.fz)
 | .Name x px::es,i::is,[],_::_,_,_,_,_,_,_,_,_,_,_,h=>by cases h
 | .Name x px::es,i::is,_,[],_,hl,_,_,_,_,_,_,_,_,_=>by cases hl
theorem tgt_ok {target:Expr} {is:List Nat} {v:Value} {a:AV} (h:tgtOk sc sm target is=true) (hX:∀ x∈tgtNames target,MayBind sc env X x) (W:Wd c A l D σ s) (e:EnvS sc sm env D σ s.heap) (V:EnvV c sc sm env ρ D s.heap) (hv:Rv c D s.heap v a):
  Tri c A l X D σ s (assign target env v) (RN c sc sm env) (tgtM ρ is a):=by
 unfold tgtOk at h;split at h
 ·rename_i x px i;obtain⟨g1,k,g2,g3⟩:=nameOk_spec h;exact Tri.standAt (bind_ok W.conc e V g1 g2 g3 (hX x (.head _) k g2) hv)
 ·rename_i es k pos;rw[Bool.and_eq_true] at h;have hlen:es.length=is.length:=by
   have:∀ {es:List Expr} {is:List Nat},namesOk sc sm es is=true->es.length=is.length:=by
    intro es;induction es with
    | nil=>intro is h;cases is<;>first | rfl | cases h
    | cons x es ih=>
     intro is h;cases is with
     | nil=>cases x<;>cases h
     | cons i is=>
      cases x<;>first | cases h | skip
      unfold namesOk at h;rw[Bool.and_eq_true] at h;exact congrArg (· +1) (ih h.2)
   exact this h.1
  intro Q E hp;unfold tgtM at hp;have hb:∀ i,is≠[i]:=fun i q=>by
   have h2:=h.2;rw[hlen,q] at h2;simp at h2
  cases hv with
  | tup d e1 r1=>
   rename_i t vs n as;have hbT:bindT ρ is (.tup as)=if is.length=as.length then some ((is.zip as).foldl (fun r p=>r.set p.1 (some p.2)) ρ) else none:=by
    match is,hb with
    | [],_=>rfl
    | [i],hb=>exact absurd rfl (hb i)
    | _::_::_,_=>rfl
   rw[hbT] at hp;by_cases hl:is.length=as.length
   ·rw[if_pos hl] at hp;have l1:=r1.length;rw[Array.length_toList] at l1;show wpAny _ _ (do standAt pos;unpack (.ref t) (assignEach es env)) _ _ _;refine wpAny_bind (wpAny_standAt ?_);unfold unpack;have hal:(assignEach es env).length=es.length:=by
     have:∀ {es:List Expr} {is:List Nat},namesOk sc sm es is=true->(assignEach es env).length=es.length/\((assignEach es env).findIdx? (·.1))=none:=by
      intro es;induction es with
      | nil=>intro is h;exact⟨rfl,rfl⟩
      | cons x es ih=>
       intro is h;cases is with
       | nil=>cases x<;>cases h
       | cons i is=>
        cases x<;>first | cases h | skip
        rename_i x px;unfold namesOk at h;rw[Bool.and_eq_true] at h;obtain⟨h1,h2⟩:=ih h.2;refine⟨congrArg (· +1) h1,?_⟩;show List.findIdx? (·.1) ((false,assign (.Name x px) env)::assignEach es env)=none;rw[List.findIdx?_cons,h2];rfl
     exact (this h.1).1
    have hst:(assignEach es env).findIdx? (·.1)=none:=by
     have:∀ {es:List Expr} {is:List Nat},namesOk sc sm es is=true->((assignEach es env).findIdx? (·.1))=none:=by
      intro es;induction es with
      | nil=>intro is h;rfl
      | cons x es ih=>
       intro is h;cases is with
       | nil=>cases x<;>cases h
       | cons i is=>
        cases x<;>first | cases h | skip
        rename_i x px;unfold namesOk at h;rw[Bool.and_eq_true] at h;show List.findIdx? (·.1) ((false,assign (.Name x px) env)::assignEach es env)=none;rw[List.findIdx?_cons,ih h.2];rfl
     exact this h.1
    rw[hst,hal];have hsz:es.length=vs.size:=by omega
    rw[hsz];refine wpAny_bind (wpAny_holding (wpAny_unpackItems_tuple W.hh ⟨_,e1,rfl,n,rfl⟩ fun h' he=>?_));have r0:Rel c X (Yof l) D σ s D σ {s with heap:=h'}:=.grow W.conc (fun a ob q=>he a ob (fun z=>by rw[z,fresh_at] at q;cases q) q) rfl rfl;have e0:=e.rel r0;have r00:Rel c NX (Yof l) D σ s D σ {s with heap:=h'}:=.grow W.conc (fun a ob q=>he a ob (fun z=>by rw[z,fresh_at] at q;cases q) q) rfl rfl;exact Tri.use W r0 (names_ok h.1 hl hX D σ _ ρ (W.rel r0) e0 (V.relN e r00) (r1.mono r0.fz)) hp fun _ s2 D2 σ2 ρ2 r2 r2' W2 hV2 hq2=>⟨D2,σ2,ρ2,r2',hV2,hq2⟩
   ·rw[if_neg hl] at hp;exact hp.elim
  | _=>
   exfalso;have:∀ b:AV,(∀ as,b≠.tup as)->bindT ρ is b=none:=fun b hnb=>by
    match is,hb with
    | [],_=>cases b<;>first | rfl | exact absurd rfl (hnb _)
    | [i],hb=>exact absurd rfl (hb i)
    | _::_::_,_=>cases b<;>first | rfl | exact absurd rfl (hnb _)
   rw[this _ (fun as z=>by cases z)] at hp;exact hp
 ·cases h
end
def lastTurn (target:Expr) (ip:Pos) (ifs:List Expr) (elt:Expr) (it acc:Value) (env:Env) (more:Sem Fin):Sem Fin:=do
 standAt ip
 match <- pyNext it with
 | none=>pure (.done .next)
 | some v=>
  letOwnedTupleGo target it v
  assign target env v
  let ok <- forIn ifs true fun c r=>if r=true then do let ok <- isTrue c env (eval c env);pure (ForInStep.yield ok) else pure (ForInStep.yield r)
  if ok=true then (do let x <- eval elt env;let _ <- call (.builtin "list.append") [acc,x];more) else more
theorem turn_one (elt target iter:Expr) (ifs:List Expr) (scope:Scope) (pos:Pos) (it acc:Value) (env:Env):
  compTurn (.ListComp elt [⟨target,iter,ifs,0⟩] scope pos) 0 it acc env=lastTurn target iter.pos ifs elt it acc env (again (.compLoop (.ListComp elt [⟨target,iter,ifs,0⟩] scope pos) 0 it acc env)):=by
 unfold lastTurn;rw[compTurn_list];congr 1;funext _;congr 1;funext r;cases r with
 | none=>rfl
 | some v=>
  dsimp only;congr 1;funext _;congr 1;funext _;congr 1;funext ok;cases ok
  ·rfl
  ·simp only[if_true,bind_assoc,pure_bind]
theorem turn_two (elt t0 i0:Expr) (f0:List Expr) (target iter:Expr) (ifs:List Expr) (scope:Scope) (pos:Pos) (it acc:Value) (env:Env):
  compTurn (.ListComp elt [⟨t0,i0,f0,0⟩,⟨target,iter,ifs,0⟩] scope pos) 1 it acc env=lastTurn target iter.pos ifs elt it acc env (again (.compLoop (.ListComp elt [⟨t0,i0,f0,0⟩,⟨target,iter,ifs,0⟩] scope pos) 1 it acc env)):=by
 have h:compTurn (.ListComp elt [⟨t0,i0,f0,0⟩,⟨target,iter,ifs,0⟩] scope pos) 1 it acc env=(do
   standAt iter.pos
   match <- pyNext it with
   | none=>pure (.done .next)
   | some v=>
    letOwnedTupleGo target it v
    assign target env v
    let mut ok:=true
    for c in ifs do
     if ok then ok <- isTrue c env (eval c env)
    if ok then
     (do let _ <- call (.builtin "list.append") [acc,<- eval elt env])
    again (.compLoop (.ListComp elt [⟨t0,i0,f0,0⟩,⟨target,iter,ifs,0⟩] scope pos) 1 it acc env)):=by rfl
 unfold lastTurn;rw[h];congr 1;funext _;congr 1;funext r;cases r with
 | none=>rfl
 | some v=>
  dsimp only;congr 1;funext _;congr 1;funext _;congr 1;funext ok;cases ok
  ·rfl
  ·simp only[if_true,bind_assoc,pure_bind]
def tsL (k:Bool):List (Frame->MB)->Frame->M Bool
 | [],_=>ret k
 | p::r,ρ=>bnd (p ρ).2 fun t=>if t=k then tsL k r ρ else ret t
abbrev Newer (h:Heap):Addr->Prop:=fun a=>h.get? a=none
section
variable {c:Cfg} {A:Around} {l:List Env} {X Y D D' D₁:Addr->Prop} {σ σ' σ₁:St} {s s' s₁:Shared} {sc:Scope} {sm:SM} {env:Env} {ρ:Frame}
theorem tests_false {ifs:List Expr} {M:Model} {E:Value->Shared->Prop} {Q:Bool->Shared->Prop} (h:Q false s):wpAny M A (forIn ifs false fun c r=>if r=true then do let ok <- isTrue c env (eval c env);pure (ForInStep.yield ok) else pure (ForInStep.yield r)) Q E s:=by
 induction ifs with
 | nil=>exact wpAny_pure h
 | cons x ifs ih=>
  rw[List.forIn_cons];simp only[Bool.false_eq_true,if_false,pure_bind];exact ih
theorem tests_ok {ifs:List Expr} {ps:List (Frame->MB)} (h:AllEv c A l sc sm env ifs ps):∀ (D:Addr->Prop) (σ:St) (s:Shared) (ρ:Frame),Wd c A l D σ s->EnvS sc sm env D σ s.heap->EnvV c sc sm env ρ D s.heap->
  Tri c A l NX D σ s (forIn ifs true fun c r=>if r=true then do let ok <- isTrue c env (eval c env);pure (ForInStep.yield ok) else pure (ForInStep.yield r)) RB (tsL true ps ρ):=by
 induction h with
 | nil=>intro D σ s ρ W e V;rw[List.forIn_nil];exact Tri.pure W.conc rfl
 | cons h1 h2 h3 ih=>
  rename_i x p es ps;intro D σ s ρ W e V;rw[List.forIn_cons];simp only[if_true,bind_assoc,pure_bind];refine Tri.bind W (h2 D σ s ρ W e V).2 fun D1 σ1 s1 b b' r1 W1 hb=>?_;subst hb;cases b
  ·intro Q E hp;exact tests_false ⟨D1,σ1,false,.refl W1.conc,rfl,hp⟩
  ·exact ih D1 σ1 s1 ρ W1 (e.rel r1) (V.relN e r1)
theorem EnvV.shrink {ρ ρ':Frame} {h:Heap} (V:EnvV c sc sm env ρ' D h) (hs:∀ (i:Nat) (a:AV),ρ[i]? =some (some a)->ρ'[i]? =some (some a)):EnvV c sc sm env ρ D h:=by
 obtain⟨m,hm,hl⟩:=V.loc;refine⟨⟨m,hm,fun x i a h1 h2 h3=>hl x i a h1 h2 (hs i a h3)⟩,fun x hk=>?_,fun i a h=>V.set i a (hs i a h)⟩;obtain⟨cc,ov,h1,h2,h3⟩:=V.cel x hk;exact⟨cc,ov,h1,h2,fun i a h4 h5=>h3 i a h4 (hs i a h5)⟩
theorem setMany {is:List Nat} {i:Nat} {b:AV}:∀ {is:List Nat} {as:List AV} {ρ:Frame},(∀ j∈is,∀ a,ρ[j]? ≠some (some a))->(∀ j∈is,j≠i)->ρ[i]? =some (some b)->((is.zip as).foldl (fun r p=>r.set p.1 (some p.2)) ρ)[i]? =some (some b)
 | [],_,_,_,_,h=>h
 | _::_,[],_,_,_,h=>h
 | j::is,a::as,ρ,hn,hj,h=>by
  show ((is.zip as).foldl _ (ρ.set j (some a)))[i]? =_;have step:∀ (is:List Nat) (as:List AV) (ρ:Frame),(∀ j∈is,j≠i)->ρ[i]? =some (some b)->((is.zip as).foldl (fun r p=>r.set p.1 (some p.2)) ρ)[i]? =some (some b):=by
   intro is;induction is with
   | nil=>intro as ρ _ h;exact h
   | cons j is ih=>
    intro as ρ hj h;cases as with
    | nil=>exact h
    | cons a as=>
     exact ih as _ (fun k m=>hj k (.tail _ m)) (by rw[List.getElem?_set_ne (hj j (.head _))];exact h)
  exact step is as _ (fun k m=>hj k (.tail _ m)) (by rw[List.getElem?_set_ne (hj j (.head _))];exact h)
theorem bindT_tup {is:List Nat} {as:List AV} (hb:∀ i,is≠[i]):bindT ρ is (.tup as)=if is.length=as.length then some ((is.zip as).foldl (fun r p=>r.set p.1 (some p.2)) ρ) else none:=by
 match is,hb with
 | [],_=>rfl
 | [i],hb=>exact absurd rfl (hb i)
 | _::_::_,_=>rfl
theorem bindT_non {is:List Nat} {b:AV} (hb:∀ i,is≠[i]) (hnb:∀ as,b≠.tup as):bindT ρ is b=none:=by
 match is,hb with
 | [],_=>cases b<;>first | rfl | exact absurd rfl (hnb _)
 | [i],hb=>exact absurd rfl (hb i)
 | _::_::_,_=>cases b<;>first | rfl | exact absurd rfl (hnb _)
theorem bindT_keep {ρ ρ':Frame} {is:List Nat} {a:AV} (hn:∀ j∈is,∀ a,ρ[j]? ≠some (some a)) (h:bindT ρ is a=some ρ'):∀ (i:Nat) (b:AV),ρ[i]? =some (some b)->ρ'[i]? =some (some b):=by
 intro i b hb;have hne:∀ j∈is,j≠i:=fun j m q=>hn j m b (q ▸ hb);by_cases one:∃ j,is=[j]
 ·obtain⟨j,rfl⟩:=one;have:ρ'=ρ.set j (some a):=by cases h;rfl
  rw[this,List.getElem?_set_ne (hne j (.head _))];exact hb
 ·by_cases tp:∃ as,a=.tup as
  ·obtain⟨as,rfl⟩:=tp;rw[bindT_tup fun i q=>one ⟨i,q⟩] at h;split at h
   ·cases h;exact setMany (is:=is) hn hne hb
   ·cases h
  ·rw[bindT_non (fun i q=>one ⟨i,q⟩) fun as q=>tp ⟨as,q⟩] at h;cases h
theorem Rel.lost {s₂:Shared} {d:Addr->Prop} (r:Rel c X Y D σ s D₁ σ₁ s₁) (hd:∀ a,d a->s.heap.get? a=none/\σ₁ a=none/\¬ D₁ a) (hs:∀ a ob,¬ d a->s₁.heap.get? a=some ob->s₂.heap.get? a=some ob) (gens:s₂.gens=s₁.gens) (os:s₂.os=s₁.os):Rel c X Y D σ s D₁ σ₁ s₂:=by
 have C:=r.conc;have fz:Fz D₁ D₁ s₁.heap s₂.heap:=⟨fun _ x=>x,fun a x=>by
  obtain⟨ob,e⟩:=Option.isSome_iff_exists.mp (C.froz a x).2;rw[e];exact hs a ob (fun q=>(hd a q).2.2 x) e⟩
 have ne:∀ {a ob},s.heap.get? a=some ob->¬ d a:=fun e q=>by rw[(hd _ q).1] at e;cases e
 refine⟨⟨fun a ob e=>?_,fun a x=>?_,fun a ob e=>(fz.get a (C.kD a ob e)).trans (C.kin a ob e),C.kD,noLimit_keep fz C.limD C.lim,C.limD,C.sys,C.mgD,C.btD,C.top.of_eq (fz.get _ C.mgD) (fz.get _ C.btD)⟩,
  r.fz.trans fz,fun a ob e q n=>?_,fun a e=>?_,r.live,r.fresh,r.dfresh,fun a ob y e n=>?_,gens.trans r.gens,os.trans r.os⟩
 ·have nd:¬ d a:=fun q=>by rw[(hd a q).2.1] at e;cases e
  refine (C.obj a ob e).keep fz (fun o' e'=>hs a o' nd e') fun k dx fs eo ow=>?_;have:¬ d dx:=fun z=>by rw[(hd dx z).2.1] at ow;cases ow
  exact⟨ow,fun o' e'=>hs dx o' this e'⟩
 ·obtain⟨h1,h2⟩:=C.froz a x;refine⟨h1,?_⟩;rw[fz.get a x];exact h2
 ·obtain⟨k1,sl,k2⟩:=r.keep a ob e q n;exact⟨fun m=>hs a _ (ne e) (k1 m),sl,hs a _ (ne e) k2⟩
 ·obtain⟨ob,q⟩:=Option.isSome_iff_exists.mp e;obtain⟨ob',q'⟩:=Option.isSome_iff_exists.mp (r.there a e);rw[hs a ob' (ne q) q'];rfl
 ·obtain⟨o',q,m⟩:=r.frm a ob y e n;exact⟨o',hs a o' (ne e) q,m⟩
structure InComp (c:Cfg) (Z:Addr->Prop) (l:List Env) (sc:Scope) (sm:SM) (env:Env) (ρ:Frame) (acc:Addr) (D₀:Addr->Prop) (σ₀:St) (s₀:Shared) (D:Addr->Prop) (σ:St) (s:Shared) (as:List AV):Prop where
 r:Rel c Z (Yof l) D₀ σ₀ s₀ D σ s
 e:EnvS sc sm env D σ s.heap
 v:EnvV c sc sm env ρ D s.heap
 held:Held l D σ acc
 at_:∃ vs n,s.heap.get? acc=some (listO vs n)/\RvL c D s.heap vs.toList as
theorem InComp.step {Z:Addr->Prop} {acc:Addr} {D₀:Addr->Prop} {σ₀:St} {s₀:Shared} {as:List AV} {X:Addr->Prop} (W₀:Wd c A l D₀ σ₀ s₀) (x:InComp c Z l sc sm env ρ acc D₀ σ₀ s₀ D σ s as) (r:Rel c X (Yof l) D σ s D₁ σ₁ s₁)
  (hX:∀ a o,s.heap.get? a=some o->X a->Z a) (hna:¬ X acc) (v:EnvV c sc sm env ρ D₁ s₁.heap):InComp c Z l sc sm env ρ acc D₀ σ₀ s₀ D₁ σ₁ s₁ as:=by
 obtain⟨vs,n,e1,r1⟩:=x.at_;obtain⟨h1,h2⟩:=x.held.stay e1 hna r;exact⟨x.r.trans W₀.conc (r.weaken hX),x.e.rel r,v,h1,vs,n,h2,r1.mono r.fz⟩
theorem append_new {acc:Addr} {vs:Array Value} {n:Nat} {as:List AV} {v:Value} {a:AV} {Q:Value->Shared->Prop} {E:Value->Shared->Prop} (C:Conc c D σ s.heap) (H:Held l D σ acc) (e1:s.heap.get? acc=some (listO vs n)) (r1:RvL c D s.heap vs.toList as) (hv:Rv c D s.heap v a) (hsz:as.length<=1000000)
  (h:∀ s' vs' n',Rel c (· =acc) (Yof l) D σ s D σ s'->s'.heap.get? acc=some (listO vs' n')->RvL c D s'.heap vs'.toList (as++[a])->Q .none s'):wpAny (model c.prog c.w) A (call (.builtin "list.append") [.ref acc,v]) Q E s:=by
 have l1:=r1.length;rw[Array.length_toList] at l1;refine call_meets PySem.F.slot_list_append ⟨_,e1,rfl⟩ PySem.F.entry_list_append (PySem.F.args_list_append_2 _ _) (PySem.list_append acc vs n _ (by rw[sizeLine_eq];omega)) ⟨e1,?_⟩;obtain⟨n',e2⟩:=mapSeq_listO (fun x=>x.push v) vs n;have e3:(s.heap.update acc (Obj.mapSeq (fun x=>x.push v))).get? acc=some (listO (vs.push v) n'):=by rw[<- e2];exact Heap.get?_update_self _ e1 (by rw[e2];rfl)
 have r:Rel c (· =acc) (Yof l) D σ s D σ {s with heap:=s.heap.update acc (Obj.mapSeq (fun x=>x.push v)),toks:=s.toks}:=H.turn C rfl (Heap.SameBut.update ..) (by rw[e3];rfl);exact h _ _ n' r e3 (by rw[Array.toList_push];exact (r1.mono r.fz).append (.cons (hv.mono r.fz) .nil))
end
abbrev NoE:St->Prop:=fun _=>False
section
variable {c:Cfg} {A:Around} {l:List Env} {X Y Z D D' D₁ D₀:Addr->Prop} {σ σ' σ₁ σ₀:St} {s s' s₁ s₀:Shared} {sc:Scope} {sm:SM} {env:Env} {ρ:Frame}
theorem InComp.lost {acc:Addr} {O:Addr->Prop} {as:List AV} (x:InComp c Z l sc sm env ρ acc D₀ σ₀ s₀ D σ s as) (hO:∀ a,O a->Newer s₀.heap a/\Held l D σ a) (hacc:¬ O acc) (hown:∀ a,own env a->¬ O a)
  (gens:s'.gens=s.gens) (os:s'.os=s.os) (hs:∀ a ob,¬ O a->s.heap.get? a=some ob->s'.heap.get? a=some ob):InComp c Z l sc sm env ρ acc D₀ σ₀ s₀ D σ s' as:=by
 have r:=x.r.lost (s₂:=s') (d:=O) (fun a o=>⟨(hO a o).1,(hO a o).2.free,(hO a o).2.nD⟩) hs gens os;have fz:Fz D D s.heap s'.heap:=⟨fun _ d=>d,fun a d=>by
  obtain⟨ob,e⟩:=Option.isSome_iff_exists.mp (x.r.conc.froz a d).2;rw[e];exact hs a ob (fun q=>(hO a q).2.nD d) e⟩
 obtain⟨vs,n,e1,r1⟩:=x.at_;refine⟨r,⟨x.e.scope,x.e.kind,x.e.glob,x.e.blt,x.e.fr,x.e.nd,x.e.injC,x.e.celN,fun a o=>?_⟩,?_,x.held,vs,n,hs _ _ hacc e1,r1.mono fz⟩
 ·obtain⟨h1,h2,h3⟩:=x.e.free a o;obtain⟨ob,q⟩:=Option.isSome_iff_exists.mp h3;exact⟨h1,h2,by rw[hs a ob (hown a o) q];rfl⟩
 ·obtain⟨m,hm,hl⟩:=x.v.loc;refine⟨⟨m,?_,fun y i a h1 h2 h3=>?_⟩,fun y hk=>?_,x.v.set⟩
  ·obtain⟨o,es,ep,q,d⟩:=hm;exact⟨o,es,ep,hs _ _ (hown _ (.inl rfl)) q,d⟩
  ·obtain⟨w,g1,g2⟩:=hl y i a h1 h2 h3;exact⟨w,g1,g2.mono fz⟩
  ·obtain⟨cc,ov,h1,⟨o,q,d⟩,h3⟩:=x.v.cel y hk;refine⟨cc,ov,h1,⟨o,hs _ _ (hown _ (.inr ⟨y,h1⟩)) q,d⟩,fun i a g1 g2=>?_⟩;obtain⟨w,k1,k2⟩:=h3 i a g1 g2;exact⟨w,k1,k2.mono fz⟩
theorem InComp.wd {acc:Addr} {as:List AV} (W₀:Wd c A l D₀ σ₀ s₀) (x:InComp c Z l sc sm env ρ acc D₀ σ₀ s₀ D σ s as):Wd c A l D σ s:=W₀.rel (x.r.weaken fun a o e z=>z)
structure CompFix (c:Cfg) (A:Around) (Z:Addr->Prop) (l:List Env) (env:Env) (acc:Addr) (O:Addr->Prop) (D₀:Addr->Prop) (σ₀:St) (s₀:Shared):Prop where
 W:Wd c A l D₀ σ₀ s₀
 Onew:∀ a,O a->Newer s₀.heap a/\Z a
 Oacc:¬ O acc
 accN:Z acc
 locN:Z env.locals
 ownO:∀ a,own env a->¬ O a
 ownA:¬ own env acc
theorem comp_loop {elt target:Expr} {gens:List Comprehension} {scope:Scope} {pos ip:Pos} {d:Nat} {ifs:List Expr} {tg:List Nat} {ps:List (Frame->MB)} {p:Frame->MB} {I acc:Addr} {O:Addr->Prop} {J:It} {S:Nat->(Addr->Prop)->St->Heap->Prop} {as:List AV}
  {Q:List AV->St->Prop} {R:Result->Shared->Prop} (F:CompFix c A Z l env acc O D₀ σ₀ s₀)
  (hturn:∀ it acc,compTurn (.ListComp elt gens scope pos) d it acc env=lastTurn target ip ifs elt it acc env (again (.compLoop (.ListComp elt gens scope pos) d it acc env)))
  (htg:tgtOk sc sm target tg=true) (hloc:∀ x∈tgtNames target,sc.names.lookup x=some .local) (hnew:∀ j∈tg,∀ a:AV,ρ[j]? ≠some (some a)) (hifs:AllEv c A l sc sm env ifs ps) (helt:EvOk c A l sc sm env elt p)
  (IT:ItOk c A l target I O J S) (X:InComp c Z l sc sm env ρ acc D₀ σ₀ s₀ D σ s as) (hS:S 0 D σ s.heap)
  (hp:forM J.ok (fun _=>ret false) (compF tg ρ (tsL true ps) fun ρ'=>(p ρ').1) J.items as Q NoE σ)
  (hR:∀ s' D' σ' as',InComp c Z l sc sm env ρ acc D₀ σ₀ s₀ D' σ' s' as'->Q as' σ'->R (.ok .next) s'):
  codeAny (model c.prog c.w) A (.compLoop (.ListComp elt gens scope pos) d (.ref I) (.ref acc) env) R s:=by
 refine codeAny_loop rfl (fun n s=>∃ i D σ as,n=J.items.length - i/\i<=J.items.length/\InComp c Z l sc sm env ρ acc D₀ σ₀ s₀ D σ s as/\S i D σ s.heap/\forM J.ok (fun _=>ret false) (compF tg ρ (tsL true ps) fun ρ'=>(p ρ').1) (J.items.drop i) as Q NoE σ) ?_ _ ⟨0,D,σ,as,rfl,Nat.zero_le _,X,hS,hp⟩;rintro n s ⟨i,D,σ,as,rfl,hi,X,hS,hp⟩;show wpAny _ A ((compTurn (.ListComp elt gens scope pos) d (.ref I) (.ref acc) env).onRaise (fun x=>do noteFrame x env;theTreesLotGoes x)) _ _ s;refine wpAny_noted ?_;rw[hturn];unfold lastTurn;have W:=X.wd F.W;have bad:∀ {Z' D₂ σ₂ s₂ v s₃},Flies c l Z' D₂ σ₂ s₂ NoE v s₃->notedBy (model c.prog c.w) A env (fun e s'=>R (.error e) s') v s₃:=fun ⟨_,_,_,_,z⟩=>z.elim;refine wpAny_bind (wpAny_standAt (wpAny_bind ?_));rcases Nat.lt_or_ge i J.items.length with hlt | hge
 ·obtain⟨x,hx⟩:∃ x,J.items[i]? =some x:=⟨_,List.getElem?_eq_getElem hlt⟩;have hd:J.items.drop i=x::J.items.drop (i+1):=by
   rw[List.drop_eq_getElem_cons hlt];congr 1;rw[List.getElem?_eq_getElem hlt] at hx;exact Option.some.inj hx
  rw[hd] at hp;obtain⟨hok,hp⟩:=hp;have hp0:tgtM ρ tg x (fun ρ' σ'=>bnd (tsL true ps ρ') (fun ok=>if ok then bnd (p ρ').1 (pushM as) else ret as) (fun b σ''=>forM J.ok (fun _=>ret false) (compF tg ρ (tsL true ps) fun ρ'=>(p ρ').1) (J.items.drop (i+1)) b Q NoE σ'') NoE σ') NoE σ:=hp;obtain⟨ρ',hb,hp1⟩:∃ ρ',bindT ρ tg x=some ρ'/\bnd (tsL true ps ρ') (fun ok=>if ok then bnd (p ρ').1 (pushM as) else ret as) (fun b σ''=>forM J.ok (fun _=>ret false) (compF tg ρ (tsL true ps) fun ρ'=>(p ρ').1) (J.items.drop (i+1)) b Q NoE σ'') NoE σ:=by
   unfold tgtM at hp0;cases hb:bindT ρ tg x with
   | none=>rw[hb] at hp0;exact hp0.elim
   | some ρ'=>rw[hb] at hp0;exact⟨ρ',rfl,hp0⟩
  have keep:=bindT_keep hnew hb;have htm:tgtM ρ tg x (fun r σ'=>r=ρ'/\σ'=σ) NoE σ:=by unfold tgtM;rw[hb];exact⟨rfl,rfl⟩
  refine wpAny_mono (IT.item i D σ s x (fun v s'=>∃ D',Rel c O (Yof l) D σ s D' σ s'/\S (i+1) D' σ s'.heap/\Rv c D' s'.heap v x) _ W hS hok hx fun v D1 s1 r1 hS1 hv=>⟨D1,r1,hS1,hv⟩) ?_ (fun _ _ z=>z);rintro r s1 ⟨v,rfl,h⟩;refine wpAny_bind (wpAny_mono h ?_ fun _ _ z=>z);rintro _ s1 ⟨D1,r1,hS1,hv⟩;have V1:EnvV c sc sm env ρ D1 s1.heap:=X.v.rel X.e r1 F.ownO;have X1:InComp c Z l sc sm env ρ acc D₀ σ₀ s₀ D1 σ s1 as:=X.step F.W r1 (fun a o e z=>(F.Onew a z).2) F.Oacc V1;have W1:=X1.wd F.W;have ownne:∀ a,a=env.locals->¬ O a:=fun a e=>F.ownO a (.inl e);refine wpAny_bind (wpAny_mono (tgt_ok (X:=(· =env.locals)) htg (fun y m=>mayBind_local (hloc y m)) W1 X1.e V1 hv _ _ htm) ?_ fun _ _ z=>bad z);rintro _ s2 ⟨D2,σ2,_,r2,hV2,rfl,rfl⟩;have V2':EnvV c sc sm env _ D2 s2.heap:=hV2;have X2:InComp c Z l sc sm env ρ acc D₀ σ₀ s₀ D2 _ s2 as:=X1.step F.W r2 (fun a o e z=>by rw[show a=_ from z];exact F.locN) (fun z=>F.ownA (.inl z)) (V2'.shrink keep);have hS2:=IT.stay _ (· =env.locals) _ _ _ _ _ _ (fun a o z=>ownne a z o) r2 hS1;have W2:=X2.wd F.W;refine wpAny_bind (wpAny_mono (tests_ok hifs D2 _ s2 _ W2 X2.e V2' _ _ hp1) ?_ fun _ _ z=>bad z);rintro ok s3 ⟨D3,σ3,_,r3,rfl,hq3⟩;have V3':=V2'.relN X2.e r3;have X3:InComp c Z l sc sm env ρ acc D₀ σ₀ s₀ D3 σ3 s3 as:=X2.step F.W r3 (fun a o e z=>z.elim) (fun z=>z) (V3'.shrink keep);have hS3:=IT.stay _ NX _ _ _ _ _ _ (fun a o z=>z) r3 hS2;have W3:=X3.wd F.W;cases ok with
  | false=>
   rw[if_neg Bool.false_ne_true];refine wpAny_pure ⟨rfl,J.items.length - (i+1),by omega,i+1,D3,σ3,as,rfl,hlt,X3,hS3,hq3⟩
  | true=>
   rw[if_pos rfl];have hq3':(p _).1 (fun v σ'=>pushM as v (fun b σ''=>forM J.ok (fun _=>ret false) (compF tg ρ (tsL true ps) fun ρ'=>(p ρ').1) (J.items.drop (i+1)) b Q NoE σ'') NoE σ') NoE σ3:=hq3;refine wpAny_bind (wpAny_mono ((helt D3 σ3 s3 _ W3 X3.e V3').1 _ _ hq3') ?_ fun _ _ z=>bad z);rintro w s4 ⟨D4,σ4,b,r4,hw,hsz,hq4⟩;have V4':=V3'.relN X3.e r4;have X4:InComp c Z l sc sm env ρ acc D₀ σ₀ s₀ D4 σ4 s4 as:=X3.step F.W r4 (fun a o e z=>z.elim) (fun z=>z) (V4'.shrink keep);have hS4:=IT.stay _ NX _ _ _ _ _ _ (fun a o z=>z) r4 hS3;obtain⟨vs,n',e5,r5⟩:=X4.at_;refine wpAny_bind (append_new (l:=l) (X4.wd F.W).conc X4.held e5 r5 hw hsz fun s5 vs' n'' r6 e6 r7=>?_);have V5:=X4.v.rel X4.e r6 fun a o z=>F.ownA (by rw[<- show a=acc from z];exact o);have hS5:=IT.stay _ (· =acc) _ _ _ _ _ _ (fun a o z=>F.Oacc (by rw[<- show a=acc from z];exact o)) r6 hS4;exact wpAny_pure ⟨rfl,J.items.length - (i+1),by omega,i+1,D4,σ4,as++[b],rfl,hlt,
    ⟨X4.r.trans F.W.conc (r6.weaken fun a o e z=>by rw[show a=_ from z];exact F.accN),X4.e.rel r6,V5,X4.held,vs',n'',e6,r7⟩,hS5,hq4⟩
 ·have hl:J.items.length=i:=by omega
  have hd:J.items.drop i=[]:=List.drop_eq_nil_of_le hge;rw[hd] at hp;obtain⟨hok,hp⟩:=hp;refine IT.done i D σ s _ _ W hS hok hl fun s' g1 g2 g3=>wpAny_pure (hR s' D σ as ?_ hp);exact X.lost (fun a o=>⟨(F.Onew a o).1,(IT.held i D σ _ hS a o).1⟩) F.Oacc F.ownO g1 g2 g3
end
def relab (sc scope:Scope):Scope:={scope with names:=scope.names.map fun (n,k)=>if (k==.free&&sc.kind==.function&&sc.names.lookup n==some .cell) then (n,.cell) else (n,k)}
structure CompSt (sc:Scope) (sm:SM) (scope:Scope) (sm':SM) (tg:List Nat):Prop where
 kind:scope.kind=.function
 fkind:sc.kind=.function
 noCell:∀ x∈scope.names,x.2≠.cell
 hloc:∀ x∈scope.names,x.2=.local->scope.names.lookup x.1=some .local
 hfree:∀ x∈scope.names,x.2=.free->sc.names.lookup x.1=some .cell/\sm'.lookup x.1=sm.lookup x.1
 locs:∀ x∈scope.names,x.2=.local->∀ i,sm'.lookup x.1=some i->i∈tg
 nd:(sm'.map (·.2)).Nodup
 more:∀ i∈sm.map (·.2),i∈sm'.map (·.2)
 new:∀ i∈tg,i∉sm.map (·.2)
theorem relab_lookup {sc:Scope} {x:Str} {k:NameKind}:∀ {names:List (Str×NameKind)},(names.map fun (n,k)=>if (k==NameKind.free&&sc.kind==.function&&sc.names.lookup n==some .cell) then (n,NameKind.cell) else (n,k)).lookup x=some k->∃ k',(x,k')∈names/\(k=k'\/(k'=.free/\k=.cell))
 | [],h=>by cases h
 | (n,k')::r,h=>by
  rw[List.map_cons] at h;dsimp only at h;split at h
  ·rename_i q;rw[List.lookup_cons] at h;cases z:x==n<;>rw[z] at h<;>dsimp only at h
   ·obtain⟨k2,m,q⟩:=relab_lookup h;exact⟨k2,.tail _ m,q⟩
   ·cases h;rw[Bool.and_eq_true,Bool.and_eq_true,beq_iff_eq] at q;exact⟨k',by rw[beq_iff_eq.mp z];exact .head _,.inr ⟨q.1.1,rfl⟩⟩
  ·rw[List.lookup_cons] at h;cases z:x==n<;>rw[z] at h<;>dsimp only at h
   ·obtain⟨k2,m,q⟩:=relab_lookup h;exact⟨k2,.tail _ m,q⟩
   ·cases h;exact⟨k,by rw[beq_iff_eq.mp z];exact .head _,.inl rfl⟩
section
variable {c:Cfg} {A:Around} {l:List Env} {X Y D D' D₁ D₀:Addr->Prop} {σ σ' σ₁ σ₀:St} {s s' s₁ s₀:Shared} {sc:Scope} {sm sm':SM} {env:Env} {ρ:Frame}
theorem relab_is (e:EnvS sc sm env D σ s.heap) (scope:Scope):relabel scope env=relab sc scope:=by
 unfold relabel relab;rw[e.scope];have:∀ n,env.kindOf n=sc.names.lookup n:=kindOf_is e;simp only[this]
theorem comp_env {scope:Scope} {tg:List Nat} {C:Addr} (hst:CompSt sc sm scope sm' tg) (e:EnvS sc sm env D σ s.heap) (V:EnvV c sc sm env ρ D s.heap) (r:Rel c NX (Yof l) D σ s D₁ σ₁ s₁) (hC:s.heap.get? C=none) (hn:∃ m,s₁.heap.Ns C m) (H:Held l D₁ σ₁ C):
  EnvS (relab sc scope) sm' (compEnvC scope (closL env.cells scope.names []) C env) D₁ σ₁ s₁.heap/\EnvV c (relab sc scope) sm' (compEnvC scope (closL env.cells scope.names []) C env) ρ D₁ s₁.heap:=by
 have e1:=e.rel r;have V1:=V.relN e r;have hfr:∀ x,(x,NameKind.free)∈scope.names->(env.cells.lookup x).isSome=true:=fun x m=>by
  obtain⟨cc,ov,h1,_⟩:=V.cel x (hst.hfree _ m rfl).1;rw[h1];rfl
 have back:∀ {x cc},(closL env.cells scope.names []).lookup x=some cc->env.cells.lookup x=some cc:=fun h=>closL_some hfr (fun _ _ h=>by cases h) h;have neC:∀ {x cc},env.cells.lookup x=some cc->cc≠C:=fun h q=>by
  have:=(e.free _ (.inr ⟨_,h⟩)).2.2;rw[q,hC] at this;cases this
 refine⟨⟨relab_is e scope,hst.kind,e.glob,e.blt,e.fr,hst.nd,fun x y cc h1 h2=>e.injC x y cc (back h1) (back h2),fun x cc h=>neC (back h),fun a o=>?_⟩,⟨?_,fun x hk=>?_,fun i a h=>hst.more i (V.set i a h)⟩⟩
 ·rcases o with o | ⟨x,o⟩
  ·rw[o];obtain⟨m,o,es,ep,q,_⟩:=hn;exact⟨H.free,H.nD,by show (s₁.heap.get? C).isSome=true;rw[show s₁.heap.get? C=some o from q];rfl⟩
  ·exact e1.free a (.inr ⟨x,back o⟩)
 ·obtain⟨m,hm⟩:=hn;refine⟨m,hm,fun x i a h1 h2 h3=>?_⟩;exfalso;obtain⟨k',m',q⟩:=relab_lookup h2;rcases q with rfl | ⟨_,q⟩
  ·exact hst.new i (hst.locs _ m' rfl i h1) (V.set i a h3)
  ·cases q
 ·obtain⟨k',m',q⟩:=relab_lookup hk;rcases q with rfl | ⟨rfl,_⟩
  ·exact absurd rfl (hst.noCell _ m')
  ·obtain⟨g1,g2⟩:=hst.hfree _ m' rfl;obtain⟨cc,ov,h1,h2,h3⟩:=V1.cel x g1;obtain⟨b,hb⟩:=Option.isSome_iff_exists.mp (closL_has (cells:=env.cells) (acc:=[]) (.inl m'));have:b=cc:=by have:=back hb;rw[h1] at this;exact (Option.some.inj this).symm
   subst this;exact⟨b,ov,hb,h2,fun i a h4 h5=>h3 i a (by rw[<- g2];exact h4) h5⟩
theorem comp_core {elt target iter:Expr} {ifs:List Expr} {gs:List Comprehension} {scope:Scope} {pos cp:Pos} {tg:List Nat} {q:Frame->M It} {LM:It->M (List AV)} {use:Option (Value->Sem Unit)} {Qv:Value->Shared->Prop} {Q:AV->St->Prop} {E:St->Prop}
  (W:Wd c A l D σ s) (e:EnvS sc sm env D σ s.heap) (V:EnvV c sc sm env ρ D s.heap) (hst:CompSt sc sm scope sm' tg) (hset:notSet iter=true) (hit:EvIt c A l sc sm env target iter q)
  (hloop:∀ (cenv:Env) acc I O J S (R:Result->Shared->Prop) D1 σ1 s1 (Q':List AV->St->Prop),CompFix c A (Newer s.heap) l cenv acc O D σ s->ItOk c A l target I O J S->InComp c (Newer s.heap) l (relab sc scope) sm' cenv ρ acc D σ s D1 σ1 s1 []->S 0 D1 σ1 s1.heap->LM J Q' NoE σ1->
   (∀ s' D' σ' as,InComp c (Newer s.heap) l (relab sc scope) sm' cenv ρ acc D σ s D' σ' s' as->Q' as σ'->R (.ok .next) s')->codeAny (model c.prog c.w) A (.compLoop (.ListComp elt (⟨target,iter,ifs,0⟩::gs) scope pos) 0 (.ref I) (.ref acc) cenv) R s1)
  (hp:(bnd (q ρ) fun I=>bnd (calm (LM I)) fun vs=>mk (.list vs)) Q E σ)
  (hK:∀ acc C D' σ' s',Rel c NX (Yof l) D σ s D' σ' s'->s.heap.get? C=none->Held l D' σ' C->(∃ m,s'.heap.Ns C m)->Q (.ref acc) σ'->compPost (model c.prog c.w) A (Flies c l NX D σ s E) use Qv (.ref acc) C (.ok .next) s'):
  wpAny (model c.prog c.w) A (comprehension (.ListComp elt (⟨target,iter,ifs,0⟩::gs) scope pos) scope env cp (newList []) false (eval iter env) use) Qv (Flies c l NX D σ s E) s:=by
 have hfr:∀ x,(x,NameKind.free)∈scope.names->(env.cells.lookup x).isSome=true:=fun x m=>by
  obtain⟨cc,ov,h1,_⟩:=V.cel x (hst.hfree _ m rfl).1;rw[h1];rfl
 refine wpAny_comprehension_free (g:=⟨target,iter,ifs,0⟩) (gs:=gs) rfl (fun x=>by cases iter<;>first | rfl | cases hset) (closure_eq hfr) hst.kind hst.hloc ?_;refine hit D σ s ρ W e V _ E _ hp fun I s1 D1 σ1 O J S r1 hO hOI hH IT hS hq=>?_;have W1:=W.rel r1;refine wpAny_newList ?_ (by simp [sizeLine_eq]);refine wpAny_newFunctionEnv hst.noCell (by intro y hy;cases hy) (fun h₁ hns₁ hsb₁=>?_) hst.kind;dsimp only at hns₁ hsb₁ ⊢;have n1:s1.heap.get? s1.heap.objs.size=none:=fresh_at _;have n2:s1.heap.get? (s1.heap.objs.size+1)=none:=fresh_above _ 1;have hsz:(s1.heap.push {cls:=.type "list",data:=.seq ([]:List Value).toArray}).objs.size=s1.heap.objs.size+1:=Heap.size_push ..;rw[hsz] at hns₁ hsb₁ ⊢;have old:∀ b o,s1.heap.get? b=some o->h₁.get? b=some o:=fun b o q=>by
  have nb:b≠s1.heap.objs.size+1:=fun z=>by rw[z,n2] at q;cases q
  exact (hsb₁.2 b nb).trans (Heap.get?_push_of_some _ (Heap.get?_push_of_some _ q))
 have hacc:h₁.get? s1.heap.objs.size=some (listO #[] 0):=(hsb₁.2 _ (Nat.ne_of_lt (Nat.lt_succ_self _))).trans (Heap.get?_push_of_some _ (Heap.get?_push_size _ rfl));generalize ht:s1.toks+([]:List (Str×Value)).length=tk;have r2:Rel c NX (Yof l) D1 σ1 s1 D1 σ1 {s1 with heap:=h₁,toks:=tk}:=.grow W1.conc old rfl rfl;have r12:=r1.trans W.conc r2;have Hacc:=Held.new W1 n1;have HC:=Held.new W1 n2;obtain⟨eC,VC⟩:=comp_env (s₁:={s1 with heap:=h₁,toks:=tk}) hst e V r12 (gone r1.there n2) ⟨_,hns₁⟩ HC;have hS2:=IT.stay _ NX _ _ _ _ _ _ (fun a o z=>z) r2 hS;have Oin:∀ a,O a->a≠s1.heap.objs.size/\a≠s1.heap.objs.size+1:=fun a o=>by
  have:=(IT.held _ _ _ _ hS a o).2;exact⟨fun z=>(by rw[z,n1] at this;cases this),fun z=>(by rw[z,n2] at this;cases this)⟩
 have ownIs:∀ a,own (compEnvC scope (closL env.cells scope.names []) (s1.heap.objs.size+1) env) a->a=s1.heap.objs.size+1\/(s.heap.get? a).isSome=true:=fun a o=>by
  rcases o with o | ⟨x,o⟩
  ·exact .inl o
  ·exact .inr (e.free a (.inr ⟨x,closL_some hfr (fun _ _ h=>by cases h) o⟩)).2.2
 have F:CompFix c A (Newer s.heap) l (compEnvC scope (closL env.cells scope.names []) (s1.heap.objs.size+1) env) s1.heap.objs.size O D σ s:={
  W:=W
  Onew:=fun a o=>⟨hO a o,hO a o⟩
  Oacc:=fun o=>(Oin _ o).1 rfl
  accN:=gone r1.there n1
  locN:=gone r1.there n2
  ownO:=fun a o z=>(ownIs a o).elim (fun q=>(Oin a z).2 q) fun q=>by rw[hO a z] at q;cases q
  ownA:=fun o=>(ownIs _ o).elim (fun q=>absurd q (Nat.ne_of_lt (Nat.lt_succ_self _))) fun q=>by rw[gone r1.there n1] at q;cases q}
 have XI:InComp c (Newer s.heap) l (relab sc scope) sm' (compEnvC scope (closL env.cells scope.names []) (s1.heap.objs.size+1) env) ρ s1.heap.objs.size D σ s D1 σ1 {s1 with heap:=h₁,toks:=tk} []:=
  ⟨r12.weaken fun a o _ z=>z.elim,eC,VC,Hacc,#[],0,hacc,.nil⟩
 have run:codeAny (model c.prog c.w) A (.compLoop (.ListComp elt (⟨target,iter,ifs,0⟩::gs) scope pos) 0 (.ref I) (.ref s1.heap.objs.size) (compEnvC scope (closL env.cells scope.names []) (s1.heap.objs.size+1) env))
   (compPost (model c.prog c.w) A (Flies c l NX D σ s E) use Qv (.ref s1.heap.objs.size) (s1.heap.objs.size+1)) {s1 with heap:=h₁,toks:=tk}:=by
  refine hloop _ _ I O J S _ D1 σ1 _ _ F IT XI hS2 hq fun s' D' σ' as XE hq'=>?_;obtain⟨vs,n,g1,g2⟩:=XE.at_;have rX:Rel c NX (Yof l) D σ s D' σ' s':=XE.r.weaken fun a o q z=>by rw[show s.heap.get? a=none from z] at q;cases q
  have rF:Rel c NX (Yof l) D σ s D' (put σ' s1.heap.objs.size (.list as)) s':=rX.filled F.accN XE.held.free XE.held.nD (fun a ob _ q=>q) (by rw[g1];rfl) (fun z=>⟨vs,n,g1,g2.mono z⟩) rfl rfl;have hC:=XE.e.free _ (.inl rfl);have nC:(compEnvC scope (closL env.cells scope.names []) (s1.heap.objs.size+1) env).locals=s1.heap.objs.size+1:=rfl;have ne:s1.heap.objs.size+1≠s1.heap.objs.size:=Nat.succ_ne_self _;refine hK _ _ D' _ s' rF F.locN ⟨?_,hC.2.1,HC.nY⟩ ?_ (hq' _ XE.held.free)
  ·have:put σ' s1.heap.objs.size (.list as) (s1.heap.objs.size+1)=σ' (s1.heap.objs.size+1):=if_neg ne;exact this.trans hC.1
  ·obtain⟨m,hm,_⟩:=XE.v.loc;exact⟨m,hm⟩
 exact codeAny_compStart_list run (IT.self 0 _ _ _ _ _ hS2 run)
theorem comp_ok {elt target iter:Expr} {ifs:List Expr} {gs:List Comprehension} {scope:Scope} {pos:Pos} {tg:List Nat} {q:Frame->M It} {LM:Frame->It->M (List AV)} (hst:CompSt sc sm scope sm' tg) (hset:notSet iter=true) (hasy:firstAsync (⟨target,iter,ifs,0⟩::gs)=false) (hit:EvIt c A l sc sm env target iter q)
  (hloop:∀ (D:Addr->Prop) σ s ρ (cenv:Env) acc I O J S (R:Result->Shared->Prop) D1 σ1 s1 (Q':List AV->St->Prop),(∀ i∈tg,∀ a:AV,ρ[i]? ≠some (some a))->CompFix c A (Newer s.heap) l cenv acc O D σ s->ItOk c A l target I O J S->InComp c (Newer s.heap) l (relab sc scope) sm' cenv ρ acc D σ s D1 σ1 s1 []->S 0 D1 σ1 s1.heap->LM ρ J Q' NoE σ1->
   (∀ s' D' σ' as,InComp c (Newer s.heap) l (relab sc scope) sm' cenv ρ acc D σ s D' σ' s' as->Q' as σ'->R (.ok .next) s')->codeAny (model c.prog c.w) A (.compLoop (.ListComp elt (⟨target,iter,ifs,0⟩::gs) scope pos) 0 (.ref I) (.ref acc) cenv) R s1):
  EvOk c A l sc sm env (.ListComp elt (⟨target,iter,ifs,0⟩::gs) scope pos) fun ρ=>both (bnd (q ρ) fun I=>bnd (calm (LM ρ I)) fun vs=>mk (.list vs)):=fun D σ s ρ W e V=>by
 refine both_ok W ?_;intro Q E hp;rw[eval_ListComp,hasy];have hnew:∀ i∈tg,∀ a:AV,ρ[i]? ≠some (some a):=fun i m a h=>hst.new i m (V.set i a h);refine comp_core (LM:=LM ρ) W e V hst hset hit (fun cenv acc I O J S R D1 σ1 s1 Q' F IT X hS hl hR=>hloop D σ s ρ cenv acc I O J S R D1 σ1 s1 Q' hnew F IT X hS hl hR) hp ?_;intro acc C D' σ' s' r hC H hn hq;obtain⟨m,hm⟩:=hn;refine⟨m,hm,fun h' hs=>⟨D',σ',.ref acc,?_,.ref _,hq⟩⟩;exact r.lost (d:=(· =C)) (fun a z=>by rw[show a=C from z];exact⟨hC,H.free,H.nD⟩) (fun a ob n q=>(hs.2 a n).trans q) rfl rfl
theorem comp1_ok {elt target iter:Expr} {ifs:List Expr} {scope:Scope} {pos:Pos} {tg:List Nat} {q:Frame->M It} {ps:List (Frame->MB)} {p:Frame->MB} (hst:CompSt sc sm scope sm' tg) (hset:notSet iter=true) (hit:EvIt c A l sc sm env target iter q)
  (htg:tgtOk (relab sc scope) sm' target tg=true) (hloc:∀ x∈tgtNames target,(relab sc scope).names.lookup x=some .local) (hifs:∀ env,AllEv c A l (relab sc scope) sm' env ifs ps) (helt:∀ env,EvOk c A l (relab sc scope) sm' env elt p):
  EvOk c A l sc sm env (.ListComp elt [⟨target,iter,ifs,0⟩] scope pos) fun ρ=>both (bnd (q ρ) fun I=>bnd (calm (forM I.ok (fun _=>ret false) (compF tg ρ (tsL true ps) fun ρ'=>(p ρ').1) I.items [])) fun vs=>mk (.list vs)):=
 comp_ok (LM:=fun ρ I=>forM I.ok (fun _=>ret false) (compF tg ρ (tsL true ps) fun ρ'=>(p ρ').1) I.items []) hst hset rfl hit fun D σ s ρ cenv acc I O J S R D1 σ1 s1 Q' hnew F IT X hS hl hR=>
  comp_loop F (fun it acc=>turn_one ..) htg hloc hnew (hifs cenv) (helt cenv) IT X hS hl hR
end
theorem turn_outer (elt t0 i0 t1 i1:Expr) (f1:List Expr) (scope:Scope) (pos:Pos) (it acc:Value) (env:Env):
  compTurn (.ListComp elt [⟨t0,i0,[],0⟩,⟨t1,i1,f1,0⟩] scope pos) 0 it acc env=(do
   standAt i0.pos
   match <- pyNext it with
   | none=>pure (.done .next)
   | some v=>
    letOwnedTupleGo t0 it v
    assign t0 env v
    let x <- eval i1 env
    standAt i1.pos
    let x <- foldedSetIterable i1 env x
    let it2 <- holding [x] (pyIter x)
    let _ <- runOwn (.compStart (.ListComp elt [⟨t0,i0,[],0⟩,⟨t1,i1,f1,0⟩] scope pos) 1 it2 acc env) env
    again (.compLoop (.ListComp elt [⟨t0,i0,[],0⟩,⟨t1,i1,f1,0⟩] scope pos) 0 it acc env)):=by
 have h:compTurn (.ListComp elt [⟨t0,i0,[],0⟩,⟨t1,i1,f1,0⟩] scope pos) 0 it acc env=(do
   standAt i0.pos
   match <- pyNext it with
   | none=>pure (.done .next)
   | some v=>
    letOwnedTupleGo t0 it v
    assign t0 env v
    let mut ok:=true
    for c in ([]:List Expr) do
     if ok then ok <- isTrue c env (eval c env)
    if ok then
     let x <- eval i1 env
     standAt i1.pos
     let x <- foldedSetIterable i1 env x
     let _ <- runOwn (.compStart (.ListComp elt [⟨t0,i0,[],0⟩,⟨t1,i1,f1,0⟩] scope pos) 1 (<- holding [x] (pyIter x)) acc env) env
    again (.compLoop (.ListComp elt [⟨t0,i0,[],0⟩,⟨t1,i1,f1,0⟩] scope pos) 0 it acc env)):=by rfl
 rw[h];congr 1
section
variable {c:Cfg} {A:Around} {l:List Env} {X Y Z D D' D₁ D₀:Addr->Prop} {σ σ' σ₁ σ₀:St} {s s' s₁ s₀:Shared} {sc:Scope} {sm sm':SM} {env:Env} {ρ:Frame}
theorem bindT_else {ρ ρ':Frame} {is js:List Nat} {a:AV} (h:bindT ρ is a=some ρ') (hn:∀ j∈js,∀ a:AV,ρ[j]? ≠some (some a)) (hd:∀ j∈js,j∉is):∀ j∈js,∀ a:AV,ρ'[j]? ≠some (some a):=by
 intro j hj b hb;have nj:j∉is:=hd j hj;have step:∀ (is:List Nat) (as:List AV) (ρ:Frame),j∉is->((is.zip as).foldl (fun r p=>r.set p.1 (some p.2)) ρ)[j]? =ρ[j]? :=by
  intro is;induction is with
  | nil=>intro as ρ _;rfl
  | cons k is ih=>
   intro as ρ h;cases as with
   | nil=>rfl
   | cons a as=>
    have hk:k≠j:=fun q=>h (by rw[q];exact .head _);show ((is.zip as).foldl _ (ρ.set k (some a)))[j]? =_;exact (ih as _ fun m=>h (.tail _ m)).trans (List.getElem?_set_ne hk)
 by_cases one:∃ k,is=[k]
 ·obtain⟨k,rfl⟩:=one;have:ρ'=ρ.set k (some a):=by cases h;rfl
  have hk:k≠j:=fun q=>nj (by rw[q];exact .head _);rw[this,List.getElem?_set_ne hk] at hb;exact hn j hj b hb
 ·by_cases tp:∃ as,a=.tup as
  ·obtain⟨as,rfl⟩:=tp;rw[bindT_tup fun i q=>one ⟨i,q⟩] at h;split at h
   ·cases h;rw[step is as ρ nj] at hb;exact hn j hj b hb
   ·cases h
  ·rw[bindT_non (fun i q=>one ⟨i,q⟩) fun as q=>tp ⟨as,q⟩] at h;cases h
theorem codeAny_compStart_in {elt:Expr} {g0 g1:Comprehension} {scope:Scope} {pos:Pos} {it acc:Value} {R:Result->Shared->Prop} (ha:g1.is_async=0)
  (h0:codeAny (model c.prog c.w) A (.compLoop (.ListComp elt [g0,g1] scope pos) 1 it acc env) R s)
  (h:wpAny (model c.prog c.w) A (pyIter it) (fun it' s'=>codeAny (model c.prog c.w) A (.compLoop (.ListComp elt [g0,g1] scope pos) 1 it' acc env) R s') (notedBy (model c.prog c.w) A env fun x s'=>R (.error x) s') s):
  codeAny (model c.prog c.w) A (.compStart (.ListComp elt [g0,g1] scope pos) 1 it acc env) R s:=by
 refine codeAny_of_tree ?_;show wpAny _ A ((compStart (.ListComp elt [g0,g1] scope pos) 1 it acc env).onRaise (fun x=>do noteFrame x env;standAt theWindowsPlace)) _ _ s;refine wpAny_notedAt ?_;unfold compStart;have:(((clausesOf (.ListComp elt [g0,g1] scope pos))[1]?).elim false (·.is_async != 0))=false:=by
  show (g1.is_async != 0)=false;rw[ha];rfl
 rw[this];show wpAny _ _ (ask >>=_) _ _ s;refine wpAny_bind (wpAny_askSetting (wpAny_ite ?_));split
 ·first
   | exact wpAny_bind (wpAny_pure (wpAny_pure (And.intro rfl h0)))
   | exact wpAny_pure (And.intro rfl h0)
 ·refine wpAny_bind (wpAny_rule ?_);show wpAny _ _ (standAt g1.iter.pos >>=_) _ _ s;exact wpAny_bind (wpAny_standAt (wpAny_bind (wpAny_mono h (fun it' s' h'=>wpAny_pure (And.intro rfl h')) fun _ _ x=>x)))
theorem comp2_loop {elt t0 i0 t1 i1:Expr} {f1:List Expr} {scope:Scope} {pos:Pos} {tg tg2:List Nat} {ps:List (Frame->MB)} {p:Frame->MB} {q2:Frame->M It} {I acc:Addr} {O:Addr->Prop} {J:It} {S:Nat->(Addr->Prop)->St->Heap->Prop} {as:List AV}
  {Q:List AV->St->Prop} {R:Result->Shared->Prop} (F:CompFix c A Z l env acc O D₀ σ₀ s₀) (hset:notSet i1=true)
  (htg:tgtOk sc sm t0 tg=true) (hloc:∀ x∈tgtNames t0,sc.names.lookup x=some .local) (hnew:∀ j∈tg,∀ a:AV,ρ[j]? ≠some (some a)) (hit2:EvIt c A l sc sm env t1 i1 q2)
  (htg2:tgtOk sc sm t1 tg2=true) (hloc2:∀ x∈tgtNames t1,sc.names.lookup x=some .local) (hnew2:∀ j∈tg2,∀ a:AV,ρ[j]? ≠some (some a)) (hdis:∀ j∈tg2,j∉tg) (hifs:AllEv c A l sc sm env f1 ps) (helt:EvOk c A l sc sm env elt p)
  (IT:ItOk c A l t0 I O J S) (X:InComp c Z l sc sm env ρ acc D₀ σ₀ s₀ D σ s as) (hS:S 0 D σ s.heap)
  (hp:forM J.ok (fun _=>ret false) (comp2F tg ρ q2 tg2 (tsL true ps) fun ρ'=>(p ρ').1) J.items as Q NoE σ)
  (hR:∀ s' D' σ' as',InComp c Z l sc sm env ρ acc D₀ σ₀ s₀ D' σ' s' as'->Q as' σ'->R (.ok .next) s'):
  codeAny (model c.prog c.w) A (.compLoop (.ListComp elt [⟨t0,i0,[],0⟩,⟨t1,i1,f1,0⟩] scope pos) 0 (.ref I) (.ref acc) env) R s:=by
 refine codeAny_loop rfl (fun n s=>∃ i D σ as,n=J.items.length - i/\i<=J.items.length/\InComp c Z l sc sm env ρ acc D₀ σ₀ s₀ D σ s as/\S i D σ s.heap/\forM J.ok (fun _=>ret false) (comp2F tg ρ q2 tg2 (tsL true ps) fun ρ'=>(p ρ').1) (J.items.drop i) as Q NoE σ) ?_ _ ⟨0,D,σ,as,rfl,Nat.zero_le _,X,hS,hp⟩;rintro n s ⟨i,D,σ,as,rfl,hi,X,hS,hp⟩;show wpAny _ A ((compTurn (.ListComp elt [⟨t0,i0,[],0⟩,⟨t1,i1,f1,0⟩] scope pos) 0 (.ref I) (.ref acc) env).onRaise (fun x=>do noteFrame x env;theTreesLotGoes x)) _ _ s;refine wpAny_noted ?_;rw[turn_outer];have W:=X.wd F.W;have bad:∀ {Z' D₂ σ₂ s₂ v s₃},Flies c l Z' D₂ σ₂ s₂ NoE v s₃->notedBy (model c.prog c.w) A env (fun e s'=>R (.error e) s') v s₃:=fun ⟨_,_,_,_,z⟩=>z.elim;refine wpAny_bind (wpAny_standAt (wpAny_bind ?_));rcases Nat.lt_or_ge i J.items.length with hlt | hge
 ·obtain⟨x,hx⟩:∃ x,J.items[i]? =some x:=⟨_,List.getElem?_eq_getElem hlt⟩;have hd:J.items.drop i=x::J.items.drop (i+1):=by
   rw[List.drop_eq_getElem_cons hlt];congr 1;rw[List.getElem?_eq_getElem hlt] at hx;exact Option.some.inj hx
  rw[hd] at hp;obtain⟨hok,hp⟩:=hp;have hp0:tgtM ρ tg x (fun ρ' σ'=>q2 ρ' (fun I' σ''=>forM I'.ok (fun _=>ret false) (compF tg2 ρ' (tsL true ps) fun ρ'=>(p ρ').1) I'.items as (fun b σ'''=>forM J.ok (fun _=>ret false) (comp2F tg ρ q2 tg2 (tsL true ps) fun ρ'=>(p ρ').1) (J.items.drop (i+1)) b Q NoE σ''') NoE σ'') NoE σ') NoE σ:=hp;obtain⟨ρ',hb,hp1⟩:∃ ρ',bindT ρ tg x=some ρ'/\q2 ρ' (fun I' σ''=>forM I'.ok (fun _=>ret false) (compF tg2 ρ' (tsL true ps) fun ρ'=>(p ρ').1) I'.items as (fun b σ'''=>forM J.ok (fun _=>ret false) (comp2F tg ρ q2 tg2 (tsL true ps) fun ρ'=>(p ρ').1) (J.items.drop (i+1)) b Q NoE σ''') NoE σ'') NoE σ:=by
   unfold tgtM at hp0;cases hb:bindT ρ tg x with
   | none=>rw[hb] at hp0;exact hp0.elim
   | some ρ'=>rw[hb] at hp0;exact⟨ρ',rfl,hp0⟩
  have keep:=bindT_keep hnew hb;have htm:tgtM ρ tg x (fun r σ'=>r=ρ'/\σ'=σ) NoE σ:=by unfold tgtM;rw[hb];exact⟨rfl,rfl⟩
  refine wpAny_mono (IT.item i D σ s x (fun v s'=>∃ D',Rel c O (Yof l) D σ s D' σ s'/\S (i+1) D' σ s'.heap/\Rv c D' s'.heap v x) _ W hS hok hx fun v D1 s1 r1 hS1 hv=>⟨D1,r1,hS1,hv⟩) ?_ (fun _ _ z=>z);rintro r s1 ⟨v,rfl,h⟩;refine wpAny_bind (wpAny_mono h ?_ fun _ _ z=>z);rintro _ s1 ⟨D1,r1,hS1,hv⟩;have V1:EnvV c sc sm env ρ D1 s1.heap:=X.v.rel X.e r1 F.ownO;have X1:InComp c Z l sc sm env ρ acc D₀ σ₀ s₀ D1 σ s1 as:=X.step F.W r1 (fun a o e z=>(F.Onew a z).2) F.Oacc V1;have W1:=X1.wd F.W;have ownne:∀ a,a=env.locals->¬ O a:=fun a e=>F.ownO a (.inl e);refine wpAny_bind (wpAny_mono (tgt_ok (X:=(· =env.locals)) htg (fun y m=>mayBind_local (hloc y m)) W1 X1.e V1 hv _ _ htm) ?_ fun _ _ z=>bad z);rintro _ s2 ⟨D2,σ2,ρ2,r2,hV2,hρ,hσ⟩;subst hρ;subst hσ;have V2':EnvV c sc sm env ρ2 D2 s2.heap:=hV2;have X2:InComp c Z l sc sm env ρ2 acc D₀ σ₀ s₀ D2 σ2 s2 as:=by
   have z:=X1.step F.W r2 (fun a o e z=>by rw[show a=_ from z];exact F.locN) (fun z=>F.ownA (.inl z)) (V2'.shrink keep);exact⟨z.r,z.e,V2',z.held,z.at_⟩
  have hS2:=IT.stay _ (· =env.locals) _ _ _ _ _ _ (fun a o z=>ownne a z o) r2 hS1;have W2:=X2.wd F.W;refine wpAny_bind ?_;have hnew2':∀ j∈tg2,∀ a:AV,ρ2[j]? ≠some (some a):=bindT_else hb hnew2 hdis;refine wpAny_mono (hit2 D2 σ2 s2 ρ2 W2 X2.e V2' _ NoE (fun itv s'=>∃ I2 D3 σ3 O2 J2 S2,itv=.ref I2/\Rel c NX (Yof l) D2 σ2 s2 D3 σ3 s'/\(∀ a,O2 a->s2.heap.get? a=none)/\ItOk c A l t1 I2 O2 J2 S2/\S2 0 D3 σ3 s'.heap/\forM J2.ok (fun _=>ret false) (compF tg2 ρ2 (tsL true ps) fun ρ'=>(p ρ').1) J2.items as (fun b σ'''=>forM J.ok (fun _=>ret false) (comp2F tg ρ q2 tg2 (tsL true ps) fun ρ'=>(p ρ').1) (J.items.drop (i+1)) b Q NoE σ''') NoE σ3) hp1 fun I2 s3 D3 σ3 O2 J2 S2 g1 g2 g3 g4 g5 g6 g7=>⟨I2,D3,σ3,O2,J2,S2,rfl,g1,g2,g5,g6,g7⟩) ?_ fun _ _ z=>bad z;intro xv s2' hxv;refine wpAny_bind (wpAny_standAt ?_);have hfold:foldedSetIterable i1 env xv=pure xv:=by cases i1<;>first | rfl | cases hset
  rw[hfold];refine wpAny_bind (wpAny_pure (wpAny_bind (wpAny_holding (wpAny_mono hxv ?_ fun _ _ z=>bad z))));rintro _ s3 ⟨I2,D3,σ3,O2,J2,S2,rfl,r3,hO2,IT2,hS20,hq3⟩;have V3':=V2'.relN X2.e r3;have exO:∀ a,O a->(s2.heap.get? a).isSome=true:=fun a o=>(IT.held _ _ _ _ hS2 a o).2;have exOwn:∀ a,own env a->(s2.heap.get? a).isSome=true:=fun a o=>(X2.e.free a o).2.2;have exAcc:(s2.heap.get? acc).isSome=true:=by obtain⟨vs,n,q,_⟩:=X2.at_;rw[q];rfl
  have XB:InComp c (fun a=>a=acc\/a=env.locals\/Newer s2.heap a) l sc sm env ρ2 acc D2 σ2 s2 D3 σ3 s3 as:=by
   obtain⟨vs,n,q1,q2⟩:=X2.at_;obtain⟨k1,k2⟩:=X2.held.stay q1 (fun z=>z) r3;exact⟨r3.weaken fun a o _ z=>z.elim,X2.e.rel r3,V3',k1,vs,n,k2,q2.mono r3.fz⟩
  have F2:CompFix c A (fun a=>a=acc\/a=env.locals\/Newer s2.heap a) l env acc O2 D2 σ2 s2:={
   W:=W2
   Onew:=fun a o=>⟨hO2 a o,.inr (.inr (hO2 a o))⟩
   Oacc:=fun o=>by have:=hO2 _ o;rw[this] at exAcc;cases exAcc
   accN:=.inl rfl
   locN:=.inr (.inl rfl)
   ownO:=fun a o z=>by have:=exOwn a o;rw[hO2 a z] at this;cases this
   ownA:=F.ownA}
  have run:codeAny (model c.prog c.w) A (.compLoop (.ListComp elt [⟨t0,i0,[],0⟩,⟨t1,i1,f1,0⟩] scope pos) 1 (.ref I2) (.ref acc) env) (fun r s'=>match r with
    | .ok f=>∃ D' σ' as',InComp c Z l sc sm env ρ2 acc D₀ σ₀ s₀ D' σ' s' as'/\S (i+1) D' σ' s'.heap/\forM J.ok (fun _=>ret false) (comp2F tg ρ q2 tg2 (tsL true ps) fun ρ'=>(p ρ').1) (J.items.drop (i+1)) as' Q NoE σ'
    | .error e=>cameBackBy (model c.prog c.w) A env (notedBy (model c.prog c.w) A env fun e s'=>R (.error e) s') e s') s3:=by
   refine comp_loop F2 (fun it acc=>turn_two ..) htg2 hloc2 hnew2' hifs helt IT2 XB hS20 hq3 fun s' D' σ' as' XE hq'=>⟨D',σ',as',⟨X2.r.trans F.W.conc (XE.r.weaken fun a o e z=>?_),XE.e,XE.v,XE.held,XE.at_⟩,?_,hq'⟩
   ·rcases z with rfl | rfl | z
    ·exact F.accN
    ·exact F.locN
    ·rw[show s2.heap.get? a=none from z] at e;cases e
   ·refine IT.stay _ _ _ _ _ _ _ _ (fun a o z=>?_) XE.r hS2;rcases z with rfl | rfl | z
    ·exact F.Oacc o
    ·exact ownne _ rfl o
    ·have:=exO a o;rw[show s2.heap.get? a=none from z] at this;cases this
  refine wpAny_bind (wpAny_runOwn (codeAny_mono (codeAny_compStart_in rfl run (IT2.self 0 _ _ _ _ _ hS20 run)) ?_));intro r s4 hr;cases r with
  | error e=>exact hr
  | ok f=>
   obtain⟨D4,σ4,as4,X4,hS4,hq4⟩:=hr;exact wpAny_pure ⟨rfl,J.items.length - (i+1),by omega,i+1,D4,σ4,as4,rfl,hlt,⟨X4.r,X4.e,X4.v.shrink keep,X4.held,X4.at_⟩,hS4,hq4⟩
 ·have hl:J.items.length=i:=by omega
  have hd:J.items.drop i=[]:=List.drop_eq_nil_of_le hge;rw[hd] at hp;obtain⟨hok,hp⟩:=hp;refine IT.done i D σ s _ _ W hS hok hl fun s' g1 g2 g3=>wpAny_pure (hR s' D σ as ?_ hp);exact X.lost (fun a o=>⟨(F.Onew a o).1,(IT.held i D σ _ hS a o).1⟩) F.Oacc F.ownO g1 g2 g3
theorem compd_ok {elt t0 i0 t1 i1:Expr} {f1:List Expr} {scope:Scope} {pos:Pos} {tg tg2:List Nat} {q q2:Frame->M It} {ps:List (Frame->MB)} {p:Frame->MB} (hst:CompSt sc sm scope sm' (tg++tg2)) (hset:notSet i0=true) (hset2:notSet i1=true) (hit:EvIt c A l sc sm env t0 i0 q) (hdis:∀ j∈tg2,j∉tg)
  (htg:tgtOk (relab sc scope) sm' t0 tg=true) (hloc:∀ x∈tgtNames t0,(relab sc scope).names.lookup x=some .local) (htg2:tgtOk (relab sc scope) sm' t1 tg2=true) (hloc2:∀ x∈tgtNames t1,(relab sc scope).names.lookup x=some .local)
  (hit2:∀ env,EvIt c A l (relab sc scope) sm' env t1 i1 q2) (hifs:∀ env,AllEv c A l (relab sc scope) sm' env f1 ps) (helt:∀ env,EvOk c A l (relab sc scope) sm' env elt p):
  EvOk c A l sc sm env (.ListComp elt [⟨t0,i0,[],0⟩,⟨t1,i1,f1,0⟩] scope pos) fun ρ=>both (bnd (q ρ) fun I=>bnd (calm (forM I.ok (fun _=>ret false) (comp2F tg ρ q2 tg2 (tsL true ps) fun ρ'=>(p ρ').1) I.items [])) fun vs=>mk (.list vs)):=
 comp_ok (LM:=fun ρ I=>forM I.ok (fun _=>ret false) (comp2F tg ρ q2 tg2 (tsL true ps) fun ρ'=>(p ρ').1) I.items []) hst hset rfl hit fun D σ s ρ cenv acc I O J S R D1 σ1 s1 Q' hnew F IT X hS hl hR=>
  comp2_loop F hset2 htg hloc (fun j m=>hnew j (List.mem_append_left _ m)) (hit2 cenv) htg2 hloc2 (fun j m=>hnew j (List.mem_append_right _ m)) hdis (hifs cenv) (helt cenv) IT X hS hl hR
end
section
variable {prog:Program} {w:World} {A:Around} {E:Value->Shared->Prop} {s:Shared}
theorem list_no_keys:typeLookup (.type "list") "keys"=pure none:=by rw[typeLookup_type,builtinLookup_eq_fast];kernel_rfl
set_option maxRecDepth 100000 in
theorem keysMiss {a:Addr} {xs:Array Value} {k:Nat} {Q:Option Value->Shared->Prop} (hx:s.heap.get? a=some (listO xs k)) (hA:A.handled=none)
  (h:∀ h' tk,(∀ b o,s.heap.get? b=some o->h'.get? b=some o)->Q none {s with heap:=h',toks:=tk}):wpAny (model prog w) A (getAttr? (.ref a) "keys") Q E s:=by
 have hx:s.heap.get? a=some {cls:=.type "list",dict:=none,data:=.seq xs k,slots:=#[]}:=hx;obtain⟨hp,g,d,tk,os⟩:=s;have hT:∀ tk',(⟨hp,g,d,tk',os⟩:Shared).TypeIs (.ref a) "list":=fun _=>⟨_,hx,rfl⟩;have f1:=sub_AttributeError;have f3:=F.slot_list_getattribute.lookup;have f4:=F.slot_list_getattribute.bind (.ref a);have f5:=am_list_getattr_none;unfold getAttr? getAttrBy? getAttrBy;repeat (any_goals (first | assumption | exact hT _ | ((with_reducible show wpAny _ _ (call (Value.builtin "list.__getattribute__") _ _) _ _ _);refine call_meets F.slot_list_getattribute (hT _) am_entry_list_getattribute (F.args_list_getattribute_2 _ _) (meets_getattribute_miss_list a xs k #[] _ _ list_no_keys (by decide) (by decide+kernel)) ⟨hx,hA,fun h' tk' e hx'=>?_⟩) | wp_step))
 obtain⟨t',u',he⟩:=hx'.there;show wpAny _ _ (getattributeRaised _ _ _ _ _ _ _) _ _ _;unfold getattributeRaised;repeat (any_goals (first | assumption | wp_step))
 exact h h' tk' hx'.keeps
end
section
variable {prog:Program} {w:World} {A:Around} {E:Value->Shared->Prop} {s:Shared}
theorem entry_upd:entryFor table "dict.update.loop"=some Builtin.«dict.update.loop»:=entryFor_of_tree (by kernel_rfl)
theorem plain_upd:plainId "dict.update.loop"=true:=by decide+kernel
def PairsAt (h₀:Heap) (vs:Array Value):Prop:=∀ i,i < vs.size->∃ t k v n,vs[i]? =some (.ref t)/\h₀.get? t=some (tupO #[k,v] n)
theorem upd_loop {h₀:Heap} {d I l:Addr} {vs:Array Value} {n:Nat} {p:Nat->Obj->Prop} {R:Result->Shared->Prop} (hh:A.handled=none) (hl:h₀.get? l=some (listO vs n)) (hv:PairsAt h₀ vs) (hd:h₀.get? d=none) (hI:h₀.get? I=none) (hdI:d≠I)
  (step:∀ i t k v n (s:Shared) (Q:Unit->Shared->Prop) (E:Value->Shared->Prop),vs[i]? =some (.ref t)->h₀.get? t=some (tupO #[k,v] n)->(∀ b o,h₀.get? b=some o->s.heap.get? b=some o)->(∃ o,s.heap.get? d=some o/\p i o)->
   (∀ h' tk,Heap.SameBut d s.heap h'->(∃ o,h'.get? d=some o/\p (i+1) o)->Q () {s with heap:=h',toks:=tk})->wpAny (model prog w) A.in1 (dictSet d k v) Q E s)
  (hR:∀ s',s'.gens=s.gens->s'.os=s.os->(∀ b o,h₀.get? b=some o->s'.heap.get? b=some o)->(∃ o,s'.heap.get? d=some o/\p vs.size o)->R (.ok (.ret .none)) s'):
  ∀ (m i:Nat) (s₁:Shared),vs.size - i=m->i<=vs.size->s₁.gens=s.gens->s₁.os=s.os->(∀ b o,h₀.get? b=some o->s₁.heap.get? b=some o)->s₁.heap.IsListIter I l i->(∃ o,s₁.heap.get? d=some o/\p i o)->
   codeAny (model prog w) A (.builtin "dict.update.loop" ⟨[.ref d,.ref I,rawInt i,.none],[]⟩) R s₁:=by
 have nI:∀ b o,h₀.get? b=some o->b≠I:=fun b o e q=>by rw[q,hI] at e;cases e
 have nd:∀ b o,h₀.get? b=some o->b≠d:=fun b o e q=>by rw[q,hd] at e;cases e
 intro m;induction m with
 | zero=>
  intro i s₁ hm hi g1 g2 hk hit hp;have hin:i=vs.size:=by omega
  subst hin;refine codeAny_builtin entry_upd ?_;rw[Around.under_plainId plain_upd _];show wpAny _ A.in1 (pyNext (.ref I) >>=_) _ _ s₁;refine wpAny_bind (wpAny_pyNext_list_end hh hit ⟨_,hk _ _ hl,rfl,n,rfl⟩ (by simp) fun h' he=>?_);show wpAny _ A.in1 (Builtin.Dict.addKeywords d [] >>=fun _=>PySem.ret Value.none) _ _ _;refine wpAny_bind ?_;unfold Builtin.Dict.addKeywords;rw[List.forIn_nil];refine wpAny_pure (wpAny_pure (hR _ g1 g2 (fun b o e=>he b o (nI b o e) (hk b o e)) ?_));obtain⟨o,e,q⟩:=hp;exact⟨o,he d o hdI e,q⟩
 | succ m ih=>
  intro i s₁ hm hi g1 g2 hk hit hp;have hlt:i < vs.size:=by omega
  obtain⟨t,k,v,n',e1,e2⟩:=hv i hlt;refine codeAny_builtin entry_upd ?_;rw[Around.under_plainId plain_upd _];show wpAny _ A.in1 (pyNext (.ref I) >>=_) _ _ s₁;refine wpAny_bind (wpAny_pyNext_list_item hit ⟨_,hk _ _ hl,rfl,n,rfl⟩ e1 fun h' hit' hs=>?_);have hk':∀ b o,h₀.get? b=some o->h'.get? b=some o:=fun b o e=>(hs.2 b (nI b o e)).trans (hk b o e);have hp':∃ o,h'.get? d=some o/\p i o:=by obtain⟨o,e,q⟩:=hp;exact⟨o,(hs.2 d hdI).trans e,q⟩
  have ht:=hk' _ _ e2;show wpAny _ A.in1 (holding [Value.ref t] ((Builtin.Dict.pairItems (.ref t)).tryCatch _ >>=_) >>=_) _ _ _;refine wpAny_bind (wpAny_holding (wpAny_bind ?_));refine wpAny_tryCatch ?_;unfold Builtin.Dict.pairItems;refine wpAny_bind (wpAny_typeOf (T:="tuple") ⟨_,ht,rfl⟩ ?_);rw[if_pos (by decide)];refine wpAny_bind (wpAny_seqItems ht rfl (wpAny_pure ?_));show wpAny _ A.in1 (holding [k,v] (dictSet d k v)) _ _ _;refine wpAny_holding (step i t k v n' _ _ _ e1 e2 hk' hp' fun h2 tk hs2 hp2=>?_);have e3:rawInt (i:Int)=.int i 0:=rfl;show wpAny _ A.in1 (again (.builtin "dict.update.loop" ⟨[.ref d,.ref I,rawInt ((i:Int)+1),.none],[]⟩)) _ _ _;refine wpAny_pure ⟨plainId_quiet plain_upd _,?_⟩;have:=ih (i+1) {s₁ with heap:=h2,toks:=tk} (by omega) hlt g1 g2 (fun b o e=>(hs2.2 b (nd b o e)).trans (hk' b o e)) ?_ hp2
  ·have e4:((i+1:Nat):Int)=(i:Int)+1:=by omega
   rw[e4] at this;exact this
  ·obtain⟨o,q1,q2⟩:=hit';exact⟨o,(hs2.2 I (Ne.symm hdI)).trans q1,q2⟩
theorem call_dict_pairs {l:Addr} {vs:Array Value} {n:Nat} {p:Nat->Obj->Prop} {Q:Value->Shared->Prop} (hh:A.handled=none) (hl:s.heap.get? l=some (listO vs n)) (hv:PairsAt s.heap vs) (p0:p 0 {cls:=.type "dict",data:=.dict #[]})
  (step:∀ i t k v n (s':Shared) (Q:Unit->Shared->Prop) (E:Value->Shared->Prop),vs[i]? =some (.ref t)->s.heap.get? t=some (tupO #[k,v] n)->(∀ b o,s.heap.get? b=some o->s'.heap.get? b=some o)->(∃ o,s'.heap.get? s.heap.objs.size=some o/\p i o)->
   (∀ h' tk,Heap.SameBut s.heap.objs.size s'.heap h'->(∃ o,h'.get? s.heap.objs.size=some o/\p (i+1) o)->Q () {s' with heap:=h',toks:=tk})->wpAny (model prog w) A.in1.in1 (dictSet s.heap.objs.size k v) Q E s')
  (h:∀ s',s'.gens=s.gens->s'.os=s.os->(∀ b o,s.heap.get? b=some o->s'.heap.get? b=some o)->(∃ o,s'.heap.get? s.heap.objs.size=some o/\p vs.size o)->Q (.ref s.heap.objs.size) s'):
  wpAny (model prog w) A (call (.type "dict") [.ref l]) Q E s:=by
 refine callType_codes (Q₁:=fun obj s₁=>obj=.ref s.heap.objs.size/\s₁={s with heap:=s.heap.push {cls:=.type "dict",data:=.dict #[]}}) F.kt_called_dict (F.kt_typeCall_dict_1 _) F.entry_dict_init (kt_code_dict_new _ ⟨rfl,rfl⟩) ?_;rintro obj s₁ ⟨rfl,rfl⟩;have fr:=fresh_at s.heap;have hnew:(s.heap.push {cls:=.type "dict",data:=.dict #[]}).get? s.heap.objs.size=some {cls:=.type "dict",data:=.dict #[]}:=Heap.get?_push_size _ rfl;have old:∀ b o,s.heap.get? b=some o->(s.heap.push {cls:=.type "dict",data:=.dict #[]}).get? b=some o:=fun b o e=>Heap.get?_push_of_some _ e;refine⟨⟨_,hnew,rfl⟩,F.args_dict_init_2 _ _,?_⟩;unfold Builtin.«dict.__init__»;refine wpAny_bind ?_;unfold Builtin.Dict.selfAndRest;refine wpAny_bind (wpAny_notOrdered_dict ⟨_,hnew,rfl⟩ ?_);show wpAny _ _ (pure (s.heap.objs.size,[Value.ref l])) _ _ _;refine wpAny_pure ?_;show wpAny _ _ (Builtin.Dict.updateFrom "dict.__init__" s.heap.objs.size (.ref l) [] .none) _ _ _;unfold Builtin.Dict.updateFrom;refine wpAny_bind (wpAny_typeOf (T:="list") ⟨_,old _ _ hl,rfl⟩ ?_);rw[if_pos (by decide)];refine wpAny_bind (keysMiss (old _ _ hl) hh fun h' tk hk=>?_);show wpAny _ _ (do rule _;again (.builtin "dict.update.loop" ⟨[.ref s.heap.objs.size,<- pyIter (.ref l),rawInt 0,.none],[]⟩)) _ _ _;refine wpAny_bind (wpAny_rule ?_);refine wpAny_bind (wpAny_pyIter_list ⟨_,hk _ _ (old _ _ hl),rfl,n,rfl⟩ ?_);have old2:∀ b o,s.heap.get? b=some o->(h'.push {cls:=.type "list_iterator",data:=.fields #[.ref l,.int 0 0]}).get? b=some o:=fun b o e=>Heap.get?_push_of_some _ (hk _ _ (old _ _ e));have fr2:=fresh_at h';have hI:s.heap.get? h'.objs.size=none:=by
  cases q:s.heap.get? h'.objs.size with
  | none=>rfl
  | some o=>have:=hk _ _ (old _ _ q);rw[fr2] at this;cases this
 have hdI:s.heap.objs.size≠h'.objs.size:=fun q=>by have:=hk _ _ hnew;rw[q,fr2] at this;cases this
 refine wpAny_pure ⟨plainId_quiet plain_upd _,?_⟩;refine upd_loop (A:=A.in1) (h₀:=s.heap) (s:=s) (p:=p) hh hl hv fr hI hdI step (fun s' g1 g2 hk' hp=>⟨rfl,h s' g1 g2 hk' hp⟩) _ 0 _ rfl (Nat.zero_le _) rfl rfl old2 ?_ ?_
 ·exact⟨_,Heap.get?_push_size _ rfl,rfl,rfl⟩
 ·exact⟨_,Heap.get?_push_of_some _ (hk _ _ hnew),p0⟩
end
theorem noDup_spec {κ:Type} [DecidableEq κ]:∀ {l:List κ},noDup l=true->l.Nodup
 | [],_=>List.nodup_nil
 | k::r,h=>by
  unfold noDup at h;rw[Bool.and_eq_true] at h;refine List.nodup_cons.mpr ⟨fun m=>?_,noDup_spec h.2⟩;have:r.any (fun x=>decide (x=k))=true:=List.any_eq_true.mpr ⟨k,m,by simp⟩;rw[this] at h;cases h.1
section
variable {c:Cfg} {A:Around} {l:List Env} {X D:Addr->Prop} {σ:St} {s:Shared}
theorem pairsI_are {h:Heap}:∀ {vs:List Value} {as:List AV} {es:List (Int×AV)},RvL c D h vs as->pairsI as=some es->
  ∃ kvs:List (Int×Value),kvs.length=vs.length/\RvP D h c kvs es/\∀ i,i < vs.length->∃ t k tk v n,vs[i]? =some (.ref t)/\h.get? t=some (tupO #[.int k tk,v] n)/\kvs[i]? =some (k,v)
 | _,_,_,.nil,e=>by cases e;exact⟨[],rfl,trivial,fun i hi=>by cases hi⟩
 | _,_,es,.cons (a:=a) h1 h2,e=>by
  unfold pairsI at e;split at e
  ·rename_i e1;cases e1
  ·rename_i k b r e1;cases e1;rw[Option.map_eq_some_iff] at e;obtain⟨es',e,rfl⟩:=e;obtain⟨kvs,g1,g2,g3⟩:=pairsI_are h2 e;cases h1 with
   | tup d q r=>
    rename_i t ws n;obtain⟨ws⟩:=ws
    match ws,r with
    | [_,w],.cons (.int _ tk) (.cons r1 .nil)=>
     refine⟨(k,w)::kvs,congrArg (· +1) g1,⟨rfl,r1,g2⟩,fun i hi=>?_⟩;cases i with
     | zero=>exact⟨t,k,tk,w,n,rfl,q,rfl⟩
     | succ i=>exact g3 i (by simpa using hi)
  ·cases e
theorem pairsT_are {h:Heap}:∀ {vs:List Value} {as:List AV} {es:List (List Int×AV)},RvL c D h vs as->pairsT as=some es->
  ∃ xs:List (List Int×Addr×Value),xs.length=vs.length/\RvT D h c xs es/\∀ i,i < vs.length->∃ t k a v n,vs[i]? =some (.ref t)/\h.get? t=some (tupO #[.ref a,v] n)/\xs[i]? =some (k,a,v)/\(tupK c).is h k a/\D a
 | _,_,_,.nil,e=>by cases e;exact⟨[],rfl,trivial,fun i hi=>by cases hi⟩
 | _,_,es,.cons (a:=a) h1 h2,e=>by
  unfold pairsT at e;split at e
  ·rename_i e1;cases e1
  ·rename_i kk b r e1;cases e1;cases hk:allInt kk with
   | none=>rw[hk] at e;cases e
   | some k=>
    rw[hk] at e;dsimp only at e;rw[Option.map_eq_some_iff] at e;obtain⟨es',e,rfl⟩:=e;obtain⟨xs,g1,g2,g3⟩:=pairsT_are h2 e;cases h1 with
    | tup d q r=>
     rename_i t ws n;obtain⟨ws⟩:=ws
     match ws,r with
     | [_,w],.cons (.tup (a:=a) (vs:=us) (n:=m) d2 q2 r2) (.cons r1 .nil)=>
      refine⟨(k,a,w)::xs,congrArg (· +1) g1,⟨rfl,d2,r1,g2⟩,fun i hi=>?_⟩;cases i with
      | zero=>exact⟨t,k,a,w,n,rfl,q,rfl,⟨_,us,m,q2,rfl,rfl,ints_are r2 hk⟩,d2⟩
      | succ i=>exact g3 i (by simpa using hi)
  ·cases e
theorem RvP.keys {κ:Type} {h:Heap}:∀ {l:List (κ×Value)} {l':List (κ×AV)},RvP D h c l l'->l.map (·.1)=l'.map (·.1)
 | [],[],_=>rfl
 | _::_,_::_,⟨a,_,r⟩=>by rw[List.map_cons,List.map_cons,a,r.keys]
theorem RvT.keys {h:Heap}:∀ {l:List (List Int×Addr×Value)} {l':List (List Int×AV)},RvT D h c l l'->l.map (·.1)=l'.map (·.1)
 | [],[],_=>rfl
 | _::_,_::_,⟨a,_,_,r⟩=>by rw[List.map_cons,List.map_cons,a,r.keys]
theorem take_next {α:Type} {l:List α} {i:Nat} {x:α} (h:l[i]? =some x):l.take (i+1)=l.take i++[x]:=by rw[List.take_add_one,h];rfl
theorem stored_next {κ:Type} [DecidableEq κ] {kvs:List (κ×Value)} {i:Nat} {k:κ} {v:Value} (hn:(kvs.map (·.1)).Nodup) (h:kvs[i]? =some (k,v)):stored (kvs.take i) k v=kvs.take (i+1):=by
 have e:=take_next h;have:((kvs.take i++[(k,v)]).map (·.1)).Nodup:=by rw[<- e,List.map_take];exact hn.take
 have m:=merged_plain [(k,v)] (kvs.take i) this;rw[e];exact m
theorem storedH_next {xs:List (List Int×Addr×Value)} {i:Nat} {k:List Int} {a:Addr} {v:Value} (hn:(xs.map (·.1)).Nodup) (h:xs[i]? =some (k,a,v)):storedH (xs.take i) k a v=xs.take (i+1):=by
 have e:=take_next h;have nd:((xs.take i++[(k,a,v)]).map (·.1)).Nodup:=by rw[<- e,List.map_take];exact hn.take
 rw[e];refine storedH_new ?_ a v;unfold PySem.atKey;rw[Option.map_eq_none_iff,List.find?_eq_none];intro x hx q;rw[List.map_append,List.nodup_append] at nd;exact nd.2.2 x.1 (List.mem_map_of_mem hx) k (by simp) (by simpa using q)
theorem dictI_call {x:Value} {a:AV} (W:Wd c A l D σ s) (hx:Rv c D s.heap x a):Tri c A l X D σ s (call (.type "dict") [x]) (RV c) (biM 4 a):=by
 intro Q E hp;have C:=W.conc;cases hx<;>first | exact hp.elim | skip
 rename_i a;obtain⟨oa,ea,hp⟩:=hp;cases oa<;>dsimp only at hp<;>first | exact hp.elim | skip
 rename_i as;cases hq:pairsI as with
 | none=>rw[hq] at hp;exact hp.elim
 | some es=>
  rw[hq] at hp;dsimp only at hp;obtain⟨⟨hnd,hsz⟩,hp⟩:=hp;obtain⟨vs,n,e1,r1⟩:=ConcO.listAt C ea;obtain⟨kvs,g1,g2,g3⟩:=pairsI_are r1 hq;have l2:=g2.length;have hn:(kvs.map (·.1)).Nodup:=by rw[g2.keys];exact noDup_spec hnd
  have fr:=fresh_at s.heap;have hsz':vs.size=kvs.length:=by rw[g1,Array.length_toList]
  refine call_dict_pairs (p:=fun i o=>∃ es ep,o.ExactDict/\o.data=.dict es ep/\KeysOf (intKind c.prog c.w) es/\Pairs (intKind c.prog c.w) es.toList (kvs.take i)/\((kvs.take i).map (·.1)).Nodup) W.hh e1 ?_ ?_ ?_ ?_
  ·intro i hi;obtain⟨t,k,tk,v,n,q1,q2,q3⟩:=g3 i (by rw[Array.length_toList];exact hi);exact⟨t,_,v,n,by rw[<- Array.getElem?_toList];exact q1,q2⟩
  ·exact⟨#[],0,⟨rfl,rfl,rfl⟩,rfl,(fun e he=>by simp at he),by rw[List.take_zero];exact .nil,by rw[List.take_zero];exact List.nodup_nil⟩
  ·intro i t k v n' s' Q' E' hv ht hk hp' hQ;rw[<- Array.getElem?_toList] at hv;have hi:i < vs.toList.length:=(List.getElem?_eq_some_iff.mp hv).1;obtain⟨t',k',tk,v',n2,q1,q2,q3⟩:=g3 i hi;rw[hv] at q1;cases q1;rw[ht] at q2;cases q2;obtain⟨o,ho,es',ep,z1,z2,z3,z4,z5⟩:=hp';refine wpAny_dictSet_pairs (knd:=intKind c.prog c.w) (k:=k') (kvs:=kvs.take i) (intKind_is c.prog c.w k' tk) ⟨o,es',ep,ho,z1,z2,z3,z4,z5⟩ (fun h' hm hs=>?_) (by rw[List.length_take,sizeLine_eq];omega);rw[stored_next hn q3] at hm;obtain⟨o',es2,ep2,y⟩:=hm;exact hQ h' _ hs ⟨o',y.1,es2,ep2,y.2⟩
  ·intro s' k1 k2 k3 hp';obtain⟨o,ho,es',ep,z1,z2,z3,z4,z5⟩:=hp';rw[hsz',List.take_length] at z4 z5;exact⟨D,_,.ref s.heap.objs.size,.made C s.heap.objs.size (.dI es) fr k3 (fun z=>⟨kvs,⟨o,es',ep,ho,z1,z2,z3,z4,z5⟩,g2.mono z⟩) k1 k2,.ref _,hp _ (C.free fr)⟩
theorem dictT_call {x:Value} {a:AV} (hu:A.units+100 < cLine) (W:Wd c A l D σ s) (hx:Rv c D s.heap x a):Tri c A l X D σ s (call (.type "dict") [x]) (RV c) (biM 5 a):=by
 intro Q E hp;have C:=W.conc;cases hx<;>first | exact hp.elim | skip
 rename_i a;obtain⟨oa,ea,hp⟩:=hp;cases oa<;>dsimp only at hp<;>first | exact hp.elim | skip
 rename_i as;cases hq:pairsT as with
 | none=>rw[hq] at hp;exact hp.elim
 | some es=>
  rw[hq] at hp;dsimp only at hp;obtain⟨⟨hnd,hsz⟩,hp⟩:=hp;obtain⟨vs,n,e1,r1⟩:=ConcO.listAt C ea;obtain⟨xs,g1,g2,g3⟩:=pairsT_are r1 hq;have hlen:∀ {l:List (List Int×Addr×Value)} {l':List (List Int×AV)},RvT D s.heap c l l'->l.length=l'.length:=by
   intro l;induction l with
   | nil=>intro l' r;cases l'<;>first | rfl | exact r.elim
   | cons p l ih=>intro l' r;cases l'<;>first | exact r.elim | exact congrArg (· +1) (ih r.2.2.2)
  have l2:=hlen g2;have hn:(xs.map (·.1)).Nodup:=by rw[g2.keys];exact noDup_spec hnd
  have fr:=fresh_at s.heap;have hsz':vs.size=xs.length:=by rw[g1,Array.length_toList]
  have up:∀ {h':Heap},(∀ b o,s.heap.get? b=some o->h'.get? b=some o)->∀ x∈xs,(tupK c).is h' x.1 x.2.1:=fun hk x m=>by
   obtain⟨i,hi,e⟩:=List.getElem_of_mem m;obtain⟨t,k,a,v,n,q1,q2,q3,q4,q5⟩:=g3 i (by rw[<- g1];exact hi);rw[List.getElem?_eq_getElem hi,e] at q3;cases q3;obtain⟨o,items,n2,w1,w2⟩:=q4;exact⟨o,items,n2,hk _ _ w1,w2⟩
  refine call_dict_pairs (p:=fun i o=>∃ es ep,o.ExactDict/\o.data=.dict es ep/\es.toList=(xs.take i).map (entryOfKey (tupK c))/\((xs.take i).map (·.1)).Nodup) W.hh e1 ?_ ?_ ?_ ?_
  ·intro i hi;obtain⟨t,k,a,v,n,q1,q2,q3,q4,q5⟩:=g3 i (by rw[Array.length_toList];exact hi);exact⟨t,_,v,n,by rw[<- Array.getElem?_toList];exact q1,q2⟩
  ·exact⟨#[],0,⟨rfl,rfl,rfl⟩,rfl,by rw[List.take_zero];rfl,by rw[List.take_zero];exact List.nodup_nil⟩
  ·intro i t k v n' s' Q' E' hv ht hk hp' hQ;rw[<- Array.getElem?_toList] at hv;have hi:i < vs.toList.length:=(List.getElem?_eq_some_iff.mp hv).1;obtain⟨t',k',a',v',n2,q1,q2,q3,q4,q5⟩:=g3 i hi;rw[hv] at q1;cases q1;rw[ht] at q2;cases q2;obtain⟨o,ho,es',ep,z1,z2,z3,z4⟩:=hp';have hin:(k',a',v)∈xs:=List.mem_of_getElem? q3;refine wpAny_dictSet_heap (knd:=tupK c) (k:=k') (xs:=xs.take i) (by show A.units+1+1 < cLine;omega) (up hk _ hin) ⟨o,es',ep,ho,z1,z2,z3,fun x m=>up hk x (List.mem_of_mem_take m),z4⟩ (fun h' hm hs=>?_) (by rw[List.length_take,sizeLine_eq];omega);rw[storedH_next hn q3] at hm;obtain⟨o',es2,ep2,y1,y2,y3,y4,y5,y6⟩:=hm;exact hQ h' _ hs ⟨o',y1,es2,ep2,y2,y3,y4,y6⟩
  ·intro s' k1 k2 k3 hp';obtain⟨o,ho,es',ep,z1,z2,z3,z4⟩:=hp';rw[hsz',List.take_length] at z3 z4;exact⟨D,_,.ref s.heap.objs.size,.made C s.heap.objs.size (.dT es) fr k3 (fun z=>⟨xs,⟨o,es',ep,ho,z1,z2,z3,up k3,z4⟩,g2.mono z⟩) k1 k2,.ref _,hp _ (C.free fr)⟩
end
structure Tab where
 fns:List Str
 mths:List Str
 cls:List Str
 glbs:List Str
def biN:Nat->Str
 | 0=>"len" | 1=>"abs" | 2=>"int" | 3=>"chr" | 7=>"tuple" | _=>"dict"
def tyN (T:Tab):Nat->Option Str
 | 10=>some "bool" | 11=>some "int" | 12=>some "list" | 13=>some "dict" | n=>T.cls[n]?
def bis:List (Str×Value):=[("len",.builtin "len"),("abs",.builtin "abs"),("int",.type "int"),("chr",.builtin "chr"),("tuple",.type "tuple"),("dict",.type "dict"),("bool",.type "bool"),("list",.type "list"),
 ("isinstance",.builtin "isinstance"),("reversed",.type "reversed"),("enumerate",.type "enumerate"),("range",.type "range")]
structure GoodT (c:Cfg) (T:Tab):Prop where
 good:Good c
 fn:∀ f x,T.fns[f]? =some x->x≠Str.empty->globIn c.K x=some (.ref (c.fa f))/\keepIn c.K (.ref (c.fa f))=true
 mth:∀ f x,T.mths[f]? =some x->x≠Str.empty->OwnM c f x
 cls:∀ k x,T.cls[k]? =some x->globIn c.K x=some (.ref (c.ca k))/\keepIn c.K (.ref (c.ca k))=true
 glb:∀ g x v,T.glbs[g]? =some x->c.G g=some v->∃ w,globIn c.K x=some w/\∀ (D:Addr->Prop) (h:Heap),c.K.In h->(∀ a o,c.K.lookup a=some o->D a)->Rv c D h w v
 bi:∀ p∈bis,globIn c.K p.1=some p.2
def isG (sc:Scope) (x:Str):Bool:=sc.names.lookup x==some .globalImplicit&&!(x==("__debug__":Str))
def compOk (sc:Scope) (sm:SM) (scope:Scope) (sm':SM) (tg:List Nat):Bool:=
 scope.kind==.function&&sc.kind==.function&&scope.names.all (fun x=>x.2 != .cell)&&scope.names.all (fun x=>x.2 != .local||scope.names.lookup x.1==some .local)&&
 scope.names.all (fun x=>x.2 != .free||(sc.names.lookup x.1==some .cell&&sm'.lookup x.1==sm.lookup x.1))&&
 scope.names.all (fun x=>x.2 != .local||match sm'.lookup x.1 with | some i=>tg.contains i | none=>true)&&noDup (sm'.map (·.2))&&
 (sm.map (·.2)).all (fun i=>(sm'.map (·.2)).contains i)&&tg.all (fun i=>!(sm.map (·.2)).contains i)
theorem compOk_spec {sc:Scope} {sm:SM} {scope:Scope} {sm':SM} {tg:List Nat} (h:compOk sc sm scope sm' tg=true):CompSt sc sm scope sm' tg:=by
 unfold compOk at h;simp only[Bool.and_eq_true,beq_iff_eq,List.all_eq_true,Bool.or_eq_true,bne_iff_ne,ne_eq] at h;obtain⟨⟨⟨⟨⟨⟨⟨⟨h1,h2⟩,h3⟩,h4⟩,h5⟩,h6⟩,h7⟩,h8⟩,h9⟩:=h;refine⟨h1,h2,h3,fun x m e=>((h4 x m).resolve_left fun n=>n e),fun x m e=>(h5 x m).resolve_left fun n=>n e,fun x m e i hi=>?_,noDup_spec h7,fun i m=>?_,fun i m q=>?_⟩
 ·have:=(h6 x m).resolve_left fun n=>n e;rw[hi] at this;exact List.contains_iff_mem.mp this
 ·exact List.contains_iff_mem.mp (h8 i m)
 ·have:=h9 i m;rw[List.contains_iff_mem.mpr q] at this;cases this
def keysS:List (Option Expr)->Option (List (Str×Nat×Pos))
 | []=>some []
 | some (.Constant (.str k) n p)::r=>(keysS r).map ((k,n,p)::·)
 | _=>none
def keysI:List (Option Expr)->Option (List (Int×Nat×Pos))
 | []=>some []
 | some (.Constant (.int k) n p)::r=>(keysI r).map ((k,n,p)::·)
 | _=>none
theorem keysS_spec:∀ {ks:List (Option Expr)} {kn:List (Str×Nat×Pos)},keysS ks=some kn->ks=((kn.map (·.1)).zip (kn.map (·.2))).map fun k=>some (.Constant (.str k.1) k.2.1 k.2.2)
 | [],_,h=>by cases h;rfl
 | k::r,kn,h=>by
  unfold keysS at h;split at h
  ·rename_i e;cases e
  ·rename_i k n p r' e;cases e;rw[Option.map_eq_some_iff] at h;obtain⟨kn',h,rfl⟩:=h;rw[List.map_cons,List.map_cons,List.zip_cons_cons,List.map_cons,<- keysS_spec h]
  ·cases h
theorem keysI_spec:∀ {ks:List (Option Expr)} {kn:List (Int×Nat×Pos)},keysI ks=some kn->ks=((kn.map (·.1)).zip (kn.map (·.2))).map fun k=>some (.Constant (.int k.1) k.2.1 k.2.2)
 | [],_,h=>by cases h;rfl
 | k::r,kn,h=>by
  unfold keysI at h;split at h
  ·rename_i e;cases e
  ·rename_i k n p r' e;cases e;rw[Option.map_eq_some_iff] at h;obtain⟨kn',h,rfl⟩:=h;rw[List.map_cons,List.map_cons,List.zip_cons_cons,List.map_cons,<- keysI_spec h]
  ·cases h
def tgtLoc (sc:Scope) (t:Expr):Bool:=(tgtNames t).all fun x=>sc.names.lookup x==some .local
def isTup:Expr->Bool
 | .Tuple ..=>true
 | _=>false
variable (T:Tab)
mutual
def chkE:PE->Scope->SM->Expr->Bool
 | .none,_,_,e=>match e with | .Constant .none _ _=>true | _=>false
 | .bool b,_,_,e=>match e with | .Constant (.bool b') _ _=>b==b' | _=>false
 | .int b,_,_,e=>match e with | .Constant (.int b') _ _=>b==b' | _=>false
 | .str b,_,_,e=>match e with | .Constant (.str b') _ _=>b==b' | _=>false
 | .bytes b,_,_,e=>match e with | .Constant (.bytes b') _ _=>b==b' | _=>false
 | .loc i,sc,sm,e=>match e with | .Name x _=>nameOk sc sm x i&&!(x==("__debug__":Str)) | _=>false
 | .glob g,sc,_,e=>match e with | .Name x _=>T.glbs[g]? ==some x&&isG sc x | _=>false
 | .bin op a b,sc,sm,e=>match e with | .BinOp x o y _=>o==opOf op&&chkE a sc sm x&&chkE b sc sm y | _=>false
 | .neg a,sc,sm,e=>match e with | .UnaryOp .USub x _=>chkE a sc sm x | _=>false
 | .not a,sc,sm,e=>match e with | .UnaryOp .Not x _=>chkE a sc sm x | _=>false
 | .cmp op a b,sc,sm,e=>match e with | .Compare x [o] [y] _=>o==copOf op&&notSet y&&chkE a sc sm x&&chkE b sc sm y | _=>false
 | .cmp2 o1 o2 a b d,sc,sm,e=>match e with | .Compare x [p1,p2] [y,z] _=>p1==copOf o1&&p2==copOf o2&&notSet z&&chkE a sc sm x&&chkE b sc sm y&&chkE d sc sm z | _=>false
 | .andor k l,sc,sm,e=>match e with | .BoolOp o es _=>o==opB k&&chkEs l sc sm es | _=>false
 | .ite a b d,sc,sm,e=>match e with | .IfExp x y z _=>chkE a sc sm x&&chkE b sc sm y&&chkE d sc sm z | _=>false
 | .call f l,sc,sm,e=>match e with | .Call (.Name x _) es [] _=>T.fns[f]? ==some x&&x != Str.empty&&isG sc x&&chkEs l sc sm es | _=>false
 | .new k l,sc,sm,e=>match e with | .Call (.Name x _) es [] _=>T.cls[k]? ==some x&&isG sc x&&chkEs l sc sm es | _=>false
 | .bi f a,sc,sm,e=>match e with | .Call (.Name x _) [y] [] _=>decide (f < 8)&&biN f==x&&isG sc x&&notStar y&&chkE a sc sm y | _=>false
 | .isinst a t,sc,sm,e=>match e with | .Call (.Name x _) [y,.Name z _] [] _=>x==("isinstance":Str)&&isG sc x&&tyN T t==some z&&isG sc z&&tys.contains t&&t != 7&&notStar y&&chkE a sc sm y | _=>false
 | .meth m o l,sc,sm,e=>match e with | .Call (.Attribute y x ap) es [] p=>decide (m < 8)&&methN m==x&&!superLike y&&ap.endLine==p.line&&decide (es.length < 30)&&chkE o sc sm y&&chkEs l sc sm es | _=>false
 | .own f o l,sc,sm,e=>match e with | .Call (.Attribute y x ap) es [] p=>T.mths[f]? ==some x&&x != Str.empty&&!superLike y&&ap.endLine==p.line&&decide (es.length < 30)&&chkE o sc sm y&&chkEs l sc sm es | _=>false
 | .attr a f,sc,sm,e=>match e with | .Attribute y x _=>attrName f==x&&!superLike y&&chkE a sc sm y | _=>false
 | .item a i,sc,sm,e=>match e with | .Subscript x y _=>notSlice y&&chkE a sc sm x&&chkE i sc sm y | _=>false
 | .upto a i,sc,sm,e=>match e with | .Subscript (.Name x p) (.Slice none (some y) none _) _=>chkE a sc sm (.Name x p)&&chkE i sc sm y | _=>false
 | .fro a i,sc,sm,e=>match e with | .Subscript (.Name x p) (.Slice (some y) none none _) _=>chkE a sc sm (.Name x p)&&chkE i sc sm y | _=>false
 | .list l,sc,sm,e=>match e with | .List es _=>decide (es.length<=1000)&&chkEs l sc sm es | _=>false
 | .tup l,sc,sm,e=>match e with | .Tuple es _ _=>chkEs l sc sm es | _=>false
 | .dictS ks l,sc,sm,e=>match e with | .Dict keys es _=>(match keysS keys with | some kn=>kn.map (·.1)==ks&&noDup ks&&decide (ks.length=es.length)&&decide (es.length<=15)&&chkEs l sc sm es | none=>false) | _=>false
 | .dictI ks l,sc,sm,e=>match e with | .Dict keys es _=>(match keysI keys with | some kn=>kn.map (·.1)==ks&&noDup ks&&decide (ks.length=es.length)&&decide (es.length<=15)&&chkEs l sc sm es | none=>false) | _=>false
 | .comp elt t it ifs,sc,sm,e=>match e with
  | .ListComp x [⟨target,iter,fs,0⟩] scope _=>compOk sc sm scope ((tgtNames target).zip t++sm) t&&notSet iter&&chkIt it sc sm target iter&&tgtOk (relab sc scope) ((tgtNames target).zip t++sm) target t&&tgtLoc (relab sc scope) target&&
   chkEs ifs (relab sc scope) ((tgtNames target).zip t++sm) fs&&chkE elt (relab sc scope) ((tgtNames target).zip t++sm) x
  | _=>false
 | .comp2 elt t it t2 it2 ifs,sc,sm,e=>match e with
  | .ListComp x [⟨target,iter,[],0⟩,⟨target2,iter2,fs,0⟩] scope _=>compOk sc sm scope ((tgtNames target).zip t++((tgtNames target2).zip t2++sm)) (t++t2)&&notSet iter&&notSet iter2&&chkIt it sc sm target iter&&t2.all (fun j=>!t.contains j)&&
   tgtOk (relab sc scope) ((tgtNames target).zip t++((tgtNames target2).zip t2++sm)) target t&&tgtLoc (relab sc scope) target&&tgtOk (relab sc scope) ((tgtNames target).zip t++((tgtNames target2).zip t2++sm)) target2 t2&&tgtLoc (relab sc scope) target2&&
   chkIt it2 (relab sc scope) ((tgtNames target).zip t++((tgtNames target2).zip t2++sm)) target2 iter2&&chkEs ifs (relab sc scope) ((tgtNames target).zip t++((tgtNames target2).zip t2++sm)) fs&&chkE elt (relab sc scope) ((tgtNames target).zip t++((tgtNames target2).zip t2++sm)) x
  | _=>false
def chkEs:PEs->Scope->SM->List Expr->Bool
 | .nil,_,_,es=>es.isEmpty
 | .cons p r,sc,sm,es=>match es with | e::es=>notStar e&&chkE p sc sm e&&chkEs r sc sm es | []=>false
def chkIt:PIt->Scope->SM->Expr->Expr->Bool
 | .seq p,sc,sm,_,e=>chkE p sc sm e
 | .rev p,sc,sm,_,e=>match e with | .Call (.Name x _) [y] [] _=>x==("reversed":Str)&&isG sc x&&notStar y&&chkE p sc sm y | _=>false
 | .enum p,sc,sm,t,e=>match e with | .Call (.Name x _) [y] [] _=>isTup t&&x==("enumerate":Str)&&isG sc x&&notStar y&&chkE p sc sm y | _=>false
 | .range l,sc,sm,_,e=>match e with | .Call (.Name x _) es [] _=>x==("range":Str)&&isG sc x&&chkEs l sc sm es | _=>false
end
section
variable (F N:Nat->List AV->M AV) (G:Nat->Option AV)
def psOf:PEs->List (Frame->MB)
 | .nil=>[]
 | .cons e r=>(fun ρ=>ev F N G e ρ)::psOf r
theorem evs_eq:∀ (l:PEs) (ρ:Frame),evs F N G l ρ=evsL (psOf F N G l) ρ
 | .nil,_=>by rw[evs];rfl
 | .cons e r,ρ=>by
  rw[evs];show _=bnd _ _;congr 1;funext v;rw[evs_eq r ρ]
theorem evTs_eq (k:Bool):∀ (l:PEs) (ρ:Frame),evTs F N G k l ρ=tsL k (psOf F N G l) ρ
 | .nil,_=>by rw[evTs];rfl
 | .cons e r,ρ=>by
  rw[evTs];show _=bnd _ _;congr 1;funext v;rw[evTs_eq k r ρ]
def andL (k:Bool):List (Frame->MB)->Frame->M AV
 | [],_=>no
 | [p],ρ=>(p ρ).1
 | p::q::r,ρ=>bnd (p ρ).1 fun v=>bnd (truthM v) fun t=>if t=k then andL k (q::r) ρ else ret v
theorem evAnd_eq (k:Bool):∀ (l:PEs) (ρ:Frame),evAnd F N G k l ρ=andL k (psOf F N G l) ρ
 | .nil,_=>by rw[evAnd];rfl
 | .cons e .nil,ρ=>by rw[evAnd];rfl
 | .cons e (.cons e' r),ρ=>by
  rw[evAnd]
  ·show _=bnd _ _;congr 1;funext v;rw[evAnd_eq k (.cons e' r) ρ];rfl
  ·intro h;cases h
end
section
variable {c:Cfg} {A:Around} {l:List Env} {sc:Scope} {sm:SM} {env:Env} {k:Bool}
theorem ands_of:∀ {es:List Expr} {ps:List (Frame->MB)},AllEv c A l sc sm env es ps->AndsOk c A l sc sm env k es (andL k ps) (tsL k ps)
 | [],[],.nil=>ands_nil
 | [x],[p],.cons h1 h2 .nil=>ands_one h2
 | x::y::r,p::q::r',.cons h1 h2 (.cons h3 h4 h5)=>ands_cons h2 (ands_of (.cons h3 h4 h5))
theorem isG_spec {x:Str} (h:isG sc x=true):sc.names.lookup x=some .globalImplicit/\(x==("__debug__":Str))=false:=by
 unfold isG at h;rw[Bool.and_eq_true,beq_iff_eq,Bool.not_eq_true'] at h;exact h
theorem EvIt.eq {target iter:Expr} {p q:Frame->M It} (h:EvIt c A l sc sm env target iter p) (e:∀ ρ,p ρ=q ρ):EvIt c A l sc sm env target iter q:=(funext e:p=q) ▸ h
theorem EvOk.eq {x:Expr} {p q:Frame->MB} (h:EvOk c A l sc sm env x p) (e:∀ ρ,p ρ=q ρ):EvOk c A l sc sm env x q:=(funext e:p=q) ▸ h
end
variable {c:Cfg} {A:Around} {l:List Env} {T:Tab} {F N:Nat->List AV->M AV}
def HF (c:Cfg) (A:Around) (l:List Env) (F:Nat->List AV->M AV) (T:Tab):Prop:=∀ f,f < T.fns.length\/f < T.mths.length->∀ (D:Addr->Prop) σ s vs as,Wd c A l D σ s->RvL c D s.heap vs as->Tri c A l NX D σ s (call (.ref (c.fa f)) vs) (RV c) (F f as)
def HN (c:Cfg) (A:Around) (l:List Env) (N:Nat->List AV->M AV) (T:Tab):Prop:=∀ k,k < T.cls.length->∀ (D:Addr->Prop) σ s vs as,Wd c A l D σ s->RvL c D s.heap vs as->Tri c A l NX D σ s (call (.ref (c.ca k)) vs) (RV c) (N k as)
theorem lt_of_get {α:Type} {l:List α} {i:Nat} {x:α} (h:l[i]? =some x):i < l.length:=(List.getElem?_eq_some_iff.mp h).1
theorem bi_get (gt:GoodT c T) (i:Nat) {x:Str} {v:Value} (h:bis[i]? =some (x,v)):globIn c.K x=some v:=gt.bi (x,v) (List.mem_of_getElem? h)
theorem bi_mem (gt:GoodT c T) {f:Nat} (hf:f < 8):globIn c.K (biN f)=some (biV f):=by
 match f,hf with
 | 0,_=>exact bi_get gt 0 rfl
 | 1,_=>exact bi_get gt 1 rfl
 | 2,_=>exact bi_get gt 2 rfl
 | 3,_=>exact bi_get gt 3 rfl
 | 4,_=>exact bi_get gt 5 rfl
 | 5,_=>exact bi_get gt 5 rfl
 | 6,_=>exact bi_get gt 5 rfl
 | 7,_=>exact bi_get gt 4 rfl
theorem keep_biV {f:Nat}:KeepOk c (biV f):=by
 unfold biV;split<;>first | exact keep_bi | exact keep_ty
theorem bi_call (hu:A.units+100 < cLine) {f:Nat} {D:Addr->Prop} {σ:St} {s:Shared} {x:Value} {a:AV} (W:Wd c A l D σ s) (hx:Rv c D s.heap x a):Tri c A l NX D σ s (call (biV f) [x]) (RV c) (biM f a):=by
 by_cases h4:f=4
 ·subst h4;exact dictI_call W hx
 ·by_cases h5:f=5
  ·subst h5;exact dictT_call hu W hx
  ·exact biM_ok ⟨h4,h5⟩ W.conc hx
theorem tyN_glob (gt:GoodT c T) {t:Nat} {x:Str} (ht:t∈tys) (h:tyN T t=some x):globIn c.K x=some (clsV c.ca t):=by
 unfold tyN at h;split at h
 ·cases h;exact bi_get gt 6 rfl
 ·cases h;exact bi_get gt 2 rfl
 ·cases h;exact bi_get gt 7 rfl
 ·cases h;exact bi_get gt 5 rfl
 ·rename_i h1 h2 h3 h4;have:clsV c.ca t=.ref (c.ca t):=by
   unfold clsV;split<;>first | rfl | contradiction
  rw[this];exact (gt.cls t x h).1
theorem tgtLoc_spec {sc:Scope} {t:Expr} (h:tgtLoc sc t=true):∀ x∈tgtNames t,sc.names.lookup x=some .local:=fun x m=>by
 unfold tgtLoc at h;rw[List.all_eq_true] at h;exact beq_iff_eq.mp (h x m)
mutual
theorem evE (gt:GoodT c T) (hu:A.units+100 < cLine) (hf:HF c A l F T) (hn:HN c A l N T):∀ (pe:PE) (sc:Scope) (sm:SM) (env:Env) (e:Expr),chkE T pe sc sm e=true->EvOk c A l sc sm env e fun ρ=>ev F N c.G pe ρ
 | .none,sc,sm,env,e,h=>by
  unfold chkE at h;split at h
  ·refine EvOk.eq none_ok fun ρ=>?_;rw[ev]
  ·cases h
 | .bool b,sc,sm,env,e,h=>by
  unfold chkE at h;split at h
  ·rw[beq_iff_eq] at h;subst h;refine EvOk.eq bool_ok fun ρ=>?_;rw[ev]
  ·cases h
 | .int b,sc,sm,env,e,h=>by
  unfold chkE at h;split at h
  ·rw[beq_iff_eq] at h;subst h;refine EvOk.eq int_ok fun ρ=>?_;rw[ev]
  ·cases h
 | .str b,sc,sm,env,e,h=>by
  unfold chkE at h;split at h
  ·rw[beq_iff_eq] at h;subst h;refine EvOk.eq str_ok fun ρ=>?_;rw[ev]
  ·cases h
 | .bytes b,sc,sm,env,e,h=>by
  unfold chkE at h;split at h
  ·rw[beq_iff_eq] at h;subst h;refine EvOk.eq bytes_ok fun ρ=>?_;rw[ev]
  ·cases h
 | .loc i,sc,sm,env,e,h=>by
  unfold chkE at h;split at h
  ·rw[Bool.and_eq_true,Bool.not_eq_true'] at h;obtain⟨g1,k,g2,g3⟩:=nameOk_spec h.1;refine EvOk.eq (name_ok g1 g2 g3 h.2) fun ρ=>?_;rw[ev];try rfl
  ·cases h
 | .glob g,sc,sm,env,e,h=>by
  unfold chkE at h;split at h
  ·rw[Bool.and_eq_true,beq_iff_eq] at h;obtain⟨g2,g3⟩:=isG_spec h.2;cases hG:c.G g with
   | none=>
    intro D σ s ρ W e V;simp only[ev,hG];exact⟨fun Q E hp=>hp.elim,fun Q E hp=>hp.elim⟩
   | some v=>
    obtain⟨w,k1,k2⟩:=gt.glb g _ v h.1 hG;refine EvOk.eq (globv_ok g2 g3 k1 k2) fun ρ=>?_;rw[ev,hG]
  ·cases h
 | .bin op a b,sc,sm,env,e,h=>by
  unfold chkE at h;split at h
  ·rw[Bool.and_eq_true,Bool.and_eq_true,beq_iff_eq] at h;obtain⟨⟨rfl,h1⟩,h2⟩:=h;refine EvOk.eq (bin_ok (evE gt hu hf hn a sc sm env _ h1) (evE gt hu hf hn b sc sm env _ h2)) fun ρ=>?_;rw[ev]
  ·cases h
 | .neg a,sc,sm,env,e,h=>by
  unfold chkE at h;split at h
  ·refine EvOk.eq (neg_ok (evE gt hu hf hn a sc sm env _ h)) fun ρ=>?_;rw[ev]
  ·cases h
 | .not a,sc,sm,env,e,h=>by
  unfold chkE at h;split at h
  ·refine EvOk.eq (not_ok (evE gt hu hf hn a sc sm env _ h)) fun ρ=>?_;rw[ev]
  ·cases h
 | .cmp op a b,sc,sm,env,e,h=>by
  unfold chkE at h;split at h
  ·rw[Bool.and_eq_true,Bool.and_eq_true,Bool.and_eq_true,beq_iff_eq] at h;obtain⟨⟨⟨rfl,hs⟩,h1⟩,h2⟩:=h;refine EvOk.eq (cmp_ok hu hs (evE gt hu hf hn a sc sm env _ h1) (evE gt hu hf hn b sc sm env _ h2)) fun ρ=>?_;rw[ev]
  ·cases h
 | .cmp2 o1 o2 a b d,sc,sm,env,e,h=>by
  unfold chkE at h;split at h
  ·simp only[Bool.and_eq_true,beq_iff_eq] at h;obtain⟨⟨⟨⟨⟨rfl,rfl⟩,hs⟩,h1⟩,h2⟩,h3⟩:=h;refine EvOk.eq (cmp2_ok hu hs (evE gt hu hf hn a sc sm env _ h1) (evE gt hu hf hn b sc sm env _ h2) (evE gt hu hf hn d sc sm env _ h3)) fun ρ=>?_;rw[ev]
  ·cases h
 | .andor k l',sc,sm,env,e,h=>by
  unfold chkE at h;split at h
  ·rw[Bool.and_eq_true,beq_iff_eq] at h;obtain⟨rfl,h1⟩:=h;refine EvOk.eq (andor_ok (ands_of (evEs gt hu hf hn l' sc sm env _ h1))) fun ρ=>?_;rw[ev,evAnd_eq,evTs_eq]
  ·cases h
 | .ite a b d,sc,sm,env,e,h=>by
  unfold chkE at h;split at h
  ·simp only[Bool.and_eq_true] at h;obtain⟨⟨h1,h2⟩,h3⟩:=h;refine EvOk.eq (ite_ok (evE gt hu hf hn a sc sm env _ h1) (evE gt hu hf hn b sc sm env _ h2) (evE gt hu hf hn d sc sm env _ h3)) fun ρ=>?_;rw[ev]
  ·cases h
 | .call f l',sc,sm,env,e,h=>by
  unfold chkE at h;split at h
  ·simp only[Bool.and_eq_true,beq_iff_eq,bne_iff_ne] at h;obtain⟨⟨⟨h1,h2⟩,h3⟩,h4⟩:=h;obtain⟨k1,k2⟩:=isG_spec h3;obtain⟨g1,g2⟩:=gt.fn f _ h1 h2;have hes:=evEs gt hu hf hn l' sc sm env _ h4;refine EvOk.eq (callName_ok k1 k2 g1 (keep_ref g2) hes.stars hes.evs fun D σ s vs as W hv=>hf f (.inl (lt_of_get h1)) D σ s vs as W hv) fun ρ=>?_;rw[ev,evs_eq]
  ·cases h
 | .new k l',sc,sm,env,e,h=>by
  unfold chkE at h;split at h
  ·simp only[Bool.and_eq_true,beq_iff_eq] at h;obtain⟨⟨h1,h3⟩,h4⟩:=h;obtain⟨k1,k2⟩:=isG_spec h3;obtain⟨g1,g2⟩:=gt.cls k _ h1;have hes:=evEs gt hu hf hn l' sc sm env _ h4;refine EvOk.eq (callName_ok k1 k2 g1 (keep_ref g2) hes.stars hes.evs fun D σ s vs as W hv=>hn k (lt_of_get h1) D σ s vs as W hv) fun ρ=>?_;rw[ev,evs_eq]
  ·cases h
 | .bi f a,sc,sm,env,e,h=>by
  unfold chkE at h;split at h
  ·simp only[Bool.and_eq_true,beq_iff_eq,decide_eq_true_eq] at h;obtain⟨⟨⟨⟨h0,rfl⟩,h3⟩,h4⟩,h5⟩:=h;obtain⟨k1,k2⟩:=isG_spec h3;refine EvOk.eq (callName1_ok k1 k2 (bi_mem gt h0) keep_biV h4 (evE gt hu hf hn a sc sm env _ h5) fun D σ s x a W hx=>bi_call hu W hx) fun ρ=>?_;rw[ev]
  ·cases h
 | .isinst a t,sc,sm,env,e,h=>by
  unfold chkE at h;split at h
  ·simp only[Bool.and_eq_true,beq_iff_eq,bne_iff_ne] at h;obtain⟨⟨⟨⟨⟨⟨⟨rfl,h1⟩,h2⟩,h3⟩,h4⟩,h5⟩,h6⟩,h7⟩:=h;have ht:=List.contains_iff_mem.mp h4;have hg:globIn c.K _=some (clsV c.ca t):=tyN_glob gt ht h2;refine EvOk.eq (isinst_ok gt.good ht h5 (isG_spec h1).1 (bi_get gt 8 rfl) (isG_spec h3).1 (isG_spec h3).2 hg h6 (evE gt hu hf hn a sc sm env _ h7)) fun ρ=>?_;rw[ev]
  ·cases h
 | .meth m o l',sc,sm,env,e,h=>by
  unfold chkE at h;split at h
  ·simp only[Bool.and_eq_true,beq_iff_eq,decide_eq_true_eq,Bool.not_eq_true'] at h;obtain⟨⟨⟨⟨⟨⟨h0,rfl⟩,h2⟩,h3⟩,h4⟩,h5⟩,h6⟩:=h;have hes:=evEs gt hu hf hn l' sc sm env _ h6;refine EvOk.eq (meth_ok hu h2 h3 (evE gt hu hf hn o sc sm env _ h5) hes.stars h4 hes.evs) fun ρ=>?_;rw[ev,evs_eq]
  ·cases h
 | .own f o l',sc,sm,env,e,h=>by
  unfold chkE at h;split at h
  ·simp only[Bool.and_eq_true,beq_iff_eq,decide_eq_true_eq,Bool.not_eq_true',bne_iff_ne] at h;obtain⟨⟨⟨⟨⟨⟨h0,h1⟩,h2⟩,h3⟩,h4⟩,h5⟩,h6⟩:=h;have hes:=evEs gt hu hf hn l' sc sm env _ h6;refine EvOk.eq (own_ok (F:=F) (gt.mth f _ h0 h1) h2 h3 (evE gt hu hf hn o sc sm env _ h5) hes.stars h4 hes.evs fun D σ s vs as W hv=>hf f (.inr (lt_of_get h0)) D σ s vs as W hv) fun ρ=>?_;rw[ev,evs_eq];try rfl
  ·cases h
 | .attr a f,sc,sm,env,e,h=>by
  unfold chkE at h;split at h
  ·simp only[Bool.and_eq_true,beq_iff_eq,Bool.not_eq_true'] at h;obtain⟨⟨rfl,h1⟩,h2⟩:=h;refine EvOk.eq (attr_ok gt.good h1 (evE gt hu hf hn a sc sm env _ h2)) fun ρ=>?_;rw[ev]
  ·cases h
 | .item a i,sc,sm,env,e,h=>by
  unfold chkE at h;split at h
  ·simp only[Bool.and_eq_true] at h;obtain⟨⟨h0,h1⟩,h2⟩:=h;refine EvOk.eq (item_ok h0 (evE gt hu hf hn a sc sm env _ h1) (evE gt hu hf hn i sc sm env _ h2)) fun ρ=>?_;rw[ev]
  ·cases h
 | .upto a i,sc,sm,env,e,h=>by
  unfold chkE at h;split at h
  ·simp only[Bool.and_eq_true] at h;refine EvOk.eq (upto_ok (evE gt hu hf hn a sc sm env _ h.1) (evE gt hu hf hn i sc sm env _ h.2)) fun ρ=>?_;rw[ev]
  ·cases h
 | .fro a i,sc,sm,env,e,h=>by
  unfold chkE at h;split at h
  ·simp only[Bool.and_eq_true] at h;refine EvOk.eq (fro_ok (evE gt hu hf hn a sc sm env _ h.1) (evE gt hu hf hn i sc sm env _ h.2)) fun ρ=>?_;rw[ev]
  ·cases h
 | .list l',sc,sm,env,e,h=>by
  unfold chkE at h;split at h
  ·simp only[Bool.and_eq_true,decide_eq_true_eq] at h;have hes:=evEs gt hu hf hn l' sc sm env _ h.2;refine EvOk.eq (list_ok h.1 hes.evs) fun ρ=>?_;rw[ev,evs_eq]
  ·cases h
 | .tup l',sc,sm,env,e,h=>by
  unfold chkE at h;split at h
  ·have hes:=evEs gt hu hf hn l' sc sm env _ h;refine EvOk.eq (tup_ok hes.evs) fun ρ=>?_;rw[ev,evs_eq]
  ·cases h
 | .dictS ks l',sc,sm,env,e,h=>by
  unfold chkE at h;split at h
  ·rename_i keys es pos;split at h
   ·rename_i kn hk;simp only[Bool.and_eq_true,beq_iff_eq,decide_eq_true_eq] at h;obtain⟨⟨⟨⟨rfl,h1⟩,h2⟩,h3⟩,h4⟩:=h;have hes:=evEs gt hu hf hn l' sc sm env _ h4;rw[keysS_spec hk];refine EvOk.eq (dictS_ok h2 (by simpa using h2) (noDup_spec h1) h3 hes) fun ρ=>?_;rw[ev,evs_eq]
   ·cases h
  ·cases h
 | .dictI ks l',sc,sm,env,e,h=>by
  unfold chkE at h;split at h
  ·rename_i keys es pos;split at h
   ·rename_i kn hk;simp only[Bool.and_eq_true,beq_iff_eq,decide_eq_true_eq] at h;obtain⟨⟨⟨⟨rfl,h1⟩,h2⟩,h3⟩,h4⟩:=h;have hes:=evEs gt hu hf hn l' sc sm env _ h4;rw[keysI_spec hk];refine EvOk.eq (dictI_ok h2 (by simpa using h2) (noDup_spec h1) h3 hes) fun ρ=>?_;rw[ev,evs_eq]
   ·cases h
  ·cases h
 | .comp elt t it ifs,sc,sm,env,e,h=>by
  unfold chkE at h;split at h
  ·simp only[Bool.and_eq_true] at h;obtain⟨⟨⟨⟨⟨⟨h1,h2⟩,h3⟩,h4⟩,h5⟩,h6⟩,h7⟩:=h;refine EvOk.eq (comp1_ok (compOk_spec h1) h2 (evI gt hu hf hn it sc sm env _ _ h3) h4 (tgtLoc_spec h5) (fun env'=>evEs gt hu hf hn ifs _ _ env' _ h6) (fun env'=>evE gt hu hf hn elt _ _ env' _ h7)) fun ρ=>?_;have z:evTs F N c.G true ifs=tsL true (psOf F N c.G ifs):=funext fun ρ=>evTs_eq F N c.G true ifs ρ;rw[ev,z]
  ·cases h
 | .comp2 elt t it t2 it2 ifs,sc,sm,env,e,h=>by
  unfold chkE at h;split at h
  ·simp only[Bool.and_eq_true] at h;obtain⟨⟨⟨⟨⟨⟨⟨⟨⟨⟨⟨h1,h2⟩,h3⟩,h4⟩,h5⟩,h6⟩,h7⟩,h8⟩,h9⟩,h10⟩,h11⟩,h12⟩:=h;have hd:∀ j∈t2,j∉t:=fun j m q=>by
    have:=List.all_eq_true.mp h5 j m;rw[List.contains_iff_mem.mpr q] at this;cases this
   refine EvOk.eq (compd_ok (compOk_spec h1) h2 h3 (evI gt hu hf hn it sc sm env _ _ h4) hd h6 (tgtLoc_spec h7) h8 (tgtLoc_spec h9) (fun env'=>evI gt hu hf hn it2 _ _ env' _ _ h10) (fun env'=>evEs gt hu hf hn ifs _ _ env' _ h11) (fun env'=>evE gt hu hf hn elt _ _ env' _ h12)) fun ρ=>?_;have z:evTs F N c.G true ifs=tsL true (psOf F N c.G ifs):=funext fun ρ=>evTs_eq F N c.G true ifs ρ;rw[ev,z]
  ·cases h
theorem evEs (gt:GoodT c T) (hu:A.units+100 < cLine) (hf:HF c A l F T) (hn:HN c A l N T):∀ (l':PEs) (sc:Scope) (sm:SM) (env:Env) (es:List Expr),chkEs T l' sc sm es=true->AllEv c A l sc sm env es (psOf F N c.G l')
 | .nil,sc,sm,env,es,h=>by
  unfold chkEs at h;rw[List.isEmpty_iff.mp h];exact .nil
 | .cons p r,sc,sm,env,es,h=>by
  unfold chkEs at h;split at h
  ·simp only[Bool.and_eq_true] at h;exact .cons h.1.1 (evE gt hu hf hn p sc sm env _ h.1.2) (evEs gt hu hf hn r sc sm env _ h.2)
  ·cases h
theorem evI (gt:GoodT c T) (hu:A.units+100 < cLine) (hf:HF c A l F T) (hn:HN c A l N T):∀ (it:PIt) (sc:Scope) (sm:SM) (env:Env) (target iter:Expr),chkIt T it sc sm target iter=true->EvIt c A l sc sm env target iter fun ρ=>evIt F N c.G it ρ
 | .seq p,sc,sm,env,t,e,h=>by
  unfold chkIt at h;refine EvIt.eq (seq_it (evE gt hu hf hn p sc sm env _ h)) fun ρ=>?_;rw[evIt]
 | .rev p,sc,sm,env,t,e,h=>by
  unfold chkIt at h;split at h
  ·simp only[Bool.and_eq_true,beq_iff_eq] at h;obtain⟨⟨⟨rfl,h1⟩,h2⟩,h3⟩:=h;refine EvIt.eq (rev_it (isG_spec h1).1 (bi_get gt 9 rfl) h2 (evE gt hu hf hn p sc sm env _ h3)) fun ρ=>?_;rw[evIt]
  ·cases h
 | .enum p,sc,sm,env,t,e,h=>by
  unfold chkIt at h;split at h
  ·simp only[Bool.and_eq_true,beq_iff_eq] at h;obtain⟨⟨⟨⟨h0,rfl⟩,h1⟩,h2⟩,h3⟩:=h;cases t<;>first | cases h0 | skip
   refine EvIt.eq (enum_it (isG_spec h1).1 (bi_get gt 10 rfl) h2 (evE gt hu hf hn p sc sm env _ h3)) fun ρ=>?_;rw[evIt]
  ·cases h
 | .range l',sc,sm,env,t,e,h=>by
  unfold chkIt at h;split at h
  ·simp only[Bool.and_eq_true,beq_iff_eq] at h;obtain⟨⟨rfl,h1⟩,h2⟩:=h;refine EvIt.eq (range_it (isG_spec h1).1 (bi_get gt 11 rfl) (evEs gt hu hf hn l' sc sm env _ h2)) fun ρ=>?_;rw[evIt,evs_eq]
  ·cases h
end
def FlOk (c:Cfg) (D:Addr->Prop) (h:Heap):Flow->Fl->Prop
 | .next,.next=>True
 | .brk,.brk=>True
 | .ret v,.ret a=>Rv c D h v a
 | _,_=>False
def RF (c:Cfg) (sc:Scope) (sm:SM) (env:Env):(Addr->Prop)->Heap->Flow->Fl×Frame->Prop:=fun D h f x=>EnvV c sc sm env x.2 D h/\FlOk c D h f x.1
def StOk (c:Cfg) (A:Around) (l:List Env) (sc:Scope) (sm:SM) (env:Env) (st:Stmt) (p:Frame->M (Fl×Frame)):Prop:=
 ∀ (D:Addr->Prop) (σ:St) (s:Shared) (ρ:Frame),Wd c A l D σ s->EnvS sc sm env D σ s.heap->EnvV c sc sm env ρ D s.heap->Tri c A l (own env) D σ s (exec st env) (RF c sc sm env) (p ρ)
def StsOk (c:Cfg) (A:Around) (l:List Env) (sc:Scope) (sm:SM) (env:Env) (st:List Stmt) (p:Frame->M (Fl×Frame)):Prop:=
 ∀ (D:Addr->Prop) (σ:St) (s:Shared) (ρ:Frame),Wd c A l D σ s->EnvS sc sm env D σ s.heap->EnvV c sc sm env ρ D s.heap->Tri c A l (own env) D σ s (execs st env) (RF c sc sm env) (p ρ)
def TgOk (c:Cfg) (A:Around) (l:List Env) (sc:Scope) (sm:SM) (env:Env) (t:Expr) (p:Frame->AV->M Frame):Prop:=
 ∀ (D:Addr->Prop) (σ:St) (s:Shared) (ρ:Frame) (v:Value) (a:AV),Wd c A l D σ s->EnvS sc sm env D σ s.heap->EnvV c sc sm env ρ D s.heap->Rv c D s.heap v a->Tri c A l (own env) D σ s (assign t env v) (RN c sc sm env) (p ρ a)
section
variable {c:Cfg} {A:Around} {l:List Env} {X Y D D₁:Addr->Prop} {σ σ₁:St} {s s₁:Shared} {sc:Scope} {sm:SM} {env:Env} {ρ:Frame}
theorem Rel.more {D':Addr->Prop} {σ':St} {s':Shared} (r:Rel c NX Y D σ s D' σ' s'):Rel c X Y D σ s D' σ' s':=r.weaken fun _ _ _ z=>z.elim
theorem Tri.bindN {t:Sem β} {f:β->Sem γ} {R:(Addr->Prop)->Heap->β->α->Prop} {R':(Addr->Prop)->Heap->γ->δ->Prop} {p:M α} {g:α->M δ} (W:Wd c A l D σ s) (h:Tri c A l NX D σ s t R p)
  (k:∀ D' σ' s' v a,Rel c NX (Yof l) D σ s D' σ' s'->Wd c A l D' σ' s'->R D' s'.heap v a->Tri c A l X D' σ' s' (f v) R' (g a)):Tri c A l X D σ s (t >>=f) R' (bnd p g):=by
 intro Q E hp;refine wpAny_bind (wpAny_mono (h _ E hp) ?_ ?_)
 ·rintro v s₁ ⟨D₁,σ₁,a,r,hr,hq⟩;have r':Rel c X (Yof l) D σ s D₁ σ₁ s₁:=r.more;refine wpAny_mono (k D₁ σ₁ s₁ v a r (W.rel r) hr Q E hq) ?_ ?_
  ·rintro x s₂ ⟨D₂,σ₂,b,r₂,hr₂,hq₂⟩;exact⟨D₂,σ₂,b,r'.trans W.conc r₂,hr₂,hq₂⟩
  ·rintro e s₂ ⟨D₂,σ₂,r₂,x,he⟩;exact⟨D₂,σ₂,r'.trans W.conc r₂,x.back r.there,he⟩
 ·rintro e s₂ ⟨D₂,σ₂,r₂,x,he⟩;exact⟨D₂,σ₂,r₂.more,x,he⟩
def notComp:Expr->Bool
 | .ListComp .. | .SetComp .. | .DictComp ..=>false
 | _=>true
theorem noSwap {e:Expr} {t:Option Expr} {n:Nat} (h:notComp e=true):swapsWith e t n env=pure false:=by
 unfold swapsWith;cases e<;>first | rfl | cases h
theorem inter_no (e:EnvS sc sm env D σ s.heap):interactive env=false:=by
 unfold interactive;rw[e.scope,e.kind];rfl
theorem expr_ok {x:Expr} {p:Frame->MB} {pos:Pos} (hc:notComp x=true) (hx:EvOk c A l sc sm env x p):StOk c A l sc sm env (.Expr x pos) fun ρ=>bnd (p ρ).1 fun _=>ret (.next,ρ):=fun D σ s ρ W e V=>by
 rw[exec_Expr env x pos (inter_no e) (noSwap hc)];refine Tri.standAt (Tri.bindN W (hx D σ s ρ W e V).1 fun D1 σ1 s1 v a r1 W1 hv=>?_);intro Q E hp;exact wpAny_dropValue ⟨D1,σ1,(.next,ρ),.refl W1.conc,⟨V.relN e r1,trivial⟩,hp⟩
theorem ret_ok {x:Expr} {p:Frame->MB} {pos:Pos} (hx:EvOk c A l sc sm env x p):StOk c A l sc sm env (.Return (some x) pos) fun ρ=>bnd (p ρ).1 fun v=>ret (.ret v,ρ):=fun D σ s ρ W e V=>by
 show Tri c A l (own env) D σ s (do standAt pos;let v <- eval x env;pure (Flow.ret v)) _ _;refine Tri.standAt (Tri.bindN W (hx D σ s ρ W e V).1 fun D1 σ1 s1 v a r1 W1 hv=>?_);exact Tri.pure W1.conc ⟨V.relN e r1,hv⟩
theorem brk_ok {pos:Pos}:StOk c A l sc sm env (.Break pos) fun ρ=>ret (.brk,ρ):=fun D σ s ρ W e V=>by
 show Tri c A l (own env) D σ s (do standAt pos;pure Flow.brk) _ _;exact Tri.standAt (Tri.pure W.conc ⟨V,trivial⟩)
theorem nils_ok:StsOk c A l sc sm env [] fun ρ=>ret (.next,ρ):=fun D σ s ρ W e V=>by
 rw[arm_execs_nil];exact Tri.pure W.conc ⟨V,trivial⟩
theorem conss_ok {st:Stmt} {r:List Stmt} {p q:Frame->M (Fl×Frame)} (h:StOk c A l sc sm env st p) (hr:StsOk c A l sc sm env r q):StsOk c A l sc sm env (st::r) fun ρ=>bnd (p ρ) fun x=>(match x.1 with | .next=>q x.2 | _=>ret x):=fun D σ s ρ W e V=>by
 rw[arm_execs_cons];refine Tri.bind W (h D σ s ρ W e V) fun D1 σ1 s1 f x r1 W1 hf=>?_;obtain⟨fl,ρ1⟩:=x;obtain⟨V1,hfl⟩:=hf;cases f<;>cases fl<;>first | exact hfl.elim | skip
 ·exact hr D1 σ1 s1 ρ1 W1 (e.rel r1) V1
 ·exact Tri.pure W1.conc ⟨V1,hfl⟩
 ·exact Tri.pure W1.conc ⟨V1,hfl⟩
theorem if_ok {x:Expr} {p:Frame->MB} {b o:List Stmt} {q r:Frame->M (Fl×Frame)} {pos:Pos} (hx:EvOk c A l sc sm env x p) (hb:StsOk c A l sc sm env b q) (ho:StsOk c A l sc sm env o r):
  StOk c A l sc sm env (.If x b o pos) fun ρ=>bnd (p ρ).2 fun t=>if t then q ρ else r ρ:=fun D σ s ρ W e V=>by
 rw[arm_exec_If];refine Tri.standAt (Tri.bindN W (hx D σ s ρ W e V).2 fun D1 σ1 s1 t t' r1 W1 ht=>?_);subst ht;cases t
 ·exact ho D1 σ1 s1 ρ W1 (e.rel r1) (V.relN e r1)
 ·exact hb D1 σ1 s1 ρ W1 (e.rel r1) (V.relN e r1)
theorem tname_ok {x:Str} {i:Nat} {pos:Pos} (h:nameOk sc sm x i=true):TgOk c A l sc sm env (.Name x pos) fun ρ a=>ret (ρ.set i (some a)):=fun D σ s ρ v a W e V hv=>by
 obtain⟨g1,k,g2,g3⟩:=nameOk_spec h;exact Tri.standAt (bind_ok W.conc e V g1 g2 g3 (mayBind_own k g2) hv)
theorem tsub_ok {x y:Expr} {p q:Frame->MB} {pos:Pos} (hsl:notSlice y=true) (hx:EvOk c A l sc sm env x p) (hy:EvOk c A l sc sm env y q):
  TgOk c A l sc sm env (.Subscript x y pos) fun ρ a=>bnd (p ρ).1 fun o=>bnd (q ρ).1 fun i=>bnd (setItemM o i a) fun _=>ret ρ:=fun D σ s ρ v a W e V hv=>by
 rw[arm_assign_Subscript];refine Tri.bindN W (Tri.holding (hx D σ s ρ W e V).1) fun D1 σ1 s1 ov o r1 W1 ho=>?_;have e1:=e.rel r1;have V1:=V.relN e r1;refine Tri.bindN W1 (Tri.holding (hy D1 σ1 s1 ρ W1 e1 V1).1) fun D2 σ2 s2 iv i r2 W2 hi=>Tri.standAt ?_;have e2:=e1.rel r2;have V2:=V1.relN e1 r2;refine Tri.bindN W2 (Tri.holding (setItemM_ok W2 (ho.mono r2.fz) hi ((hv.mono r1.fz).mono r2.fz))) fun D3 σ3 s3 u b r3 W3 _=>?_;intro Q E hp;exact wpAny_release ⟨D3,σ3,ρ,.refl W3.conc,V2.relN e2 r3,hp⟩
theorem asg_ok {x t:Expr} {p:Frame->MB} {q:Frame->AV->M Frame} {pos:Pos} (hs:swapsWith x (some t) pos.line env=pure false) (hw:swappedStores [t] x env=pure none) (hns:notStar t=true) (hx:EvOk c A l sc sm env x p) (ht:TgOk c A l sc sm env t q):
  StOk c A l sc sm env (.Assign [t] x pos) fun ρ=>bnd (p ρ).1 fun v=>bnd (q ρ v) fun ρ'=>ret (.next,ρ'):=fun D σ s ρ W e V=>by
 intro Q E hp;refine wpAny_Assign_stores ?_ hs hw;refine wpAny_mono ((hx D σ s ρ W e V).1 _ _ hp) ?_ ?_
 ·rintro v s1 ⟨D1,σ1,a,r1,hv,hq⟩;have W1:=W.rel r1;have he:(assignEach [t] env).map (·.2)=[assign t env]:=by cases t<;>first | rfl | cases hns
  rw[he];show wpAny _ _ (assign t env v) _ _ _;refine Tri.use W r1.more (ht D1 σ1 s1 ρ v a W1 (e.rel r1) (V.relN e r1) hv) hq fun _ s2 D2 σ2 ρ2 r2 r2' W2 hV hq=>⟨D2,σ2,(.next,ρ2),r2',⟨hV,trivial⟩,hq⟩
 ·rintro w s1 ⟨D1,σ1,r1,hx,hq⟩;exact⟨D1,σ1,r1.more,hx,hq⟩
end
inductive AllTg (c:Cfg) (A:Around) (l:List Env) (sc:Scope) (sm:SM) (env:Env):List Expr->List (Frame->AV->M Frame)->Prop where
 | nil:AllTg c A l sc sm env [] []
 | cons {t p ts ps}:notStar t=true->TgOk c A l sc sm env t p->AllTg c A l sc sm env ts ps->AllTg c A l sc sm env (t::ts) (p::ps)
def putL:List (Frame->AV->M Frame)->List AV->Frame->M Frame
 | p::ps,v::vs,ρ=>bnd (p ρ v) fun ρ'=>putL ps vs ρ'
 | [],[],ρ=>ret ρ
 | _,_,_=>no
section
variable {c:Cfg} {A:Around} {l:List Env} {X Y D D₁:Addr->Prop} {σ σ₁:St} {s s₁:Shared} {sc:Scope} {sm:SM} {env:Env} {ρ:Frame}
theorem AllTg.each {ts ps} (h:AllTg c A l sc sm env ts ps):(assignEach ts env).length=ts.length/\((assignEach ts env).findIdx? (·.1))=none/\ps.length=ts.length:=by
 induction h with
 | nil=>exact⟨rfl,rfl,rfl⟩
 | @cons t p ts ps h1 _ _ ih=>
  obtain⟨i1,i2,i3⟩:=ih;have he:assignEach (t::ts) env=(false,assign t env)::assignEach ts env:=by cases t<;>first | rfl | cases h1
  rw[he];refine⟨congrArg (· +1) i1,?_,congrArg (· +1) i3⟩;rw[List.findIdx?_cons,i2];rfl
theorem tgs_ok {ts:List Expr} {ps:List (Frame->AV->M Frame)} (h:AllTg c A l sc sm env ts ps):∀ (vs:List Value) (as:List AV) (D:Addr->Prop) (σ:St) (s:Shared) (ρ:Frame),Wd c A l D σ s->EnvS sc sm env D σ s.heap->EnvV c sc sm env ρ D s.heap->RvL c D s.heap vs as->
  ps.length=as.length->Tri c A l (own env) D σ s (assignInOrder ((assignEach ts env).map (·.2)) vs) (RN c sc sm env) (putL ps as ρ):=by
 induction h with
 | nil=>
  intro vs as D σ s ρ W e V hv hl;cases as with
  | nil=>cases hv;exact fun Q E hp=>wpAny_pure ⟨D,σ,ρ,.refl W.conc,V,hp⟩
  | cons _ _=>cases hl
 | @cons t p ts ps h1 h2 h3 ih=>
  intro vs as D σ s ρ W e V hv hl;cases as with
  | nil=>cases hl
  | cons a as=>
   cases hv with
   | cons r1 r2=>
    rename_i v vs;have he:assignEach (t::ts) env=(false,assign t env)::assignEach ts env:=by cases t<;>first | rfl | cases h1
    rw[he];show Tri c A l (own env) D σ s (holding vs (assign t env v) >>=fun _=>assignInOrder ((assignEach ts env).map (·.2)) vs) _ (bnd (p ρ a) fun ρ'=>putL ps as ρ');refine Tri.bind W (Tri.holding (h2 D σ s ρ v a W e V r1)) fun D1 σ1 s1 _ ρ1 rr W1 hV=>?_;exact ih vs as D1 σ1 s1 ρ1 W1 (e.rel rr) hV (r2.mono rr.fz) (by simpa using hl)
theorem asgs_ok {x:Expr} {ts:List Expr} {k:Nat} {p:Frame->MB} {ps:List (Frame->AV->M Frame)} {tp pos:Pos} (hs:swapsWith x (some (.Tuple ts k tp)) pos.line env=pure false) (hw:swappedStores [.Tuple ts k tp] x env=pure none) (hx:EvOk c A l sc sm env x p) (ht:AllTg c A l sc sm env ts ps):
  StOk c A l sc sm env (.Assign [.Tuple ts k tp] x pos) fun ρ=>bnd (p ρ).1 fun v=>match v with | .tup vs=>req (ps.length=vs.length) (bnd (putL ps vs ρ) fun ρ'=>ret (.next,ρ')) | _=>no:=fun D σ s ρ W e V=>by
 intro Q E hp;refine Assign_Tuple ?_ hs hw;refine wpAny_mono ((hx D σ s ρ W e V).1 _ _ hp) ?_ ?_
 ·rintro v s1 ⟨D1,σ1,a,r1,hv,hq⟩;have W1:=W.rel r1;have e1:=e.rel r1;have V1:=V.relN e r1;cases hv<;>first | exact hq.elim | skip
  rename_i t vs n as d q1 rl;obtain⟨hlen,hq⟩:=hq;obtain⟨g1,g2,g3⟩:=ht.each;have l1:=rl.length;rw[Array.length_toList] at l1;rw[arm_assign_Tuple];refine wpAny_bind (wpAny_standAt ?_);unfold unpack;rw[g2,g1];have hsz:ts.length=vs.size:=by omega
  rw[hsz];refine wpAny_bind (wpAny_holding (wpAny_unpackItems_tuple W1.hh ⟨_,q1,rfl,n,rfl⟩ fun h' he=>?_));have r0:Rel c NX (Yof l) D1 σ1 s1 D1 σ1 {s1 with heap:=h'}:=.grow W1.conc (fun a ob q=>he a ob (fun z=>by rw[z,fresh_at] at q;cases q) q) rfl rfl;have r10:=r1.trans W.conc r0;exact Tri.use (X:=own env) (Q:=fun ρ' σ'=>Q (.next,ρ') σ') (E:=E) W r10.more (tgs_ok ht _ _ D1 σ1 _ ρ (W.rel r10) (e1.rel r0) (V1.relN e1 r0) (rl.mono r0.fz) hlen) hq fun _ s2 D2 σ2 ρ2 r2 r2' W2 hV2 hq2=>⟨D2,σ2,(.next,ρ2),r2',⟨hV2,trivial⟩,hq2⟩
 ·rintro w s1 ⟨D1,σ1,r1,hx,hq⟩;exact⟨D1,σ1,r1.more,hx,hq⟩
def setsOf (ρ:Frame) (l:List (Nat×AV)):Frame:=l.foldl (fun r p=>r.set p.1 (some p.2)) ρ
theorem setsOf_comm {i:Nat} {a:AV}:∀ (l:List (Nat×AV)) (ρ:Frame),(∀ p∈l,p.1≠i)->setsOf (ρ.set i (some a)) l=(setsOf ρ l).set i (some a)
 | [],_,_=>rfl
 | p::l,ρ,h=>by
  show setsOf ((ρ.set i (some a)).set p.1 (some p.2)) l=(setsOf (ρ.set p.1 (some p.2)) l).set i (some a);rw[List.set_comm _ _ (Ne.symm (h p (.head _)))];exact setsOf_comm l _ fun q m=>h q (.tail _ m)
theorem setsOf_rev:∀ (l:List (Nat×AV)) (ρ:Frame),(l.map (·.1)).Nodup->setsOf ρ l.reverse=setsOf ρ l
 | [],_,_=>rfl
 | p::l,ρ,h=>by
  rw[List.map_cons,List.nodup_cons] at h;rw[List.reverse_cons];unfold setsOf;rw[List.foldl_append];show (setsOf ρ l.reverse).set p.1 (some p.2)=setsOf (ρ.set p.1 (some p.2)) l;rw[setsOf_rev l ρ h.2,setsOf_comm l ρ fun q m z=>h.1 (by rw[<- z];exact List.mem_map_of_mem m)]
theorem binds_ok:∀ (xs:List Str) (is:List Nat) (vs:List Value) (as:List AV) (D:Addr->Prop) (σ:St) (s:Shared) (ρ:Frame),xs.length=is.length->is.length=as.length->(∀ p∈xs.zip is,nameOk sc sm p.1 p.2=true)->Wd c A l D σ s->EnvS sc sm env D σ s.heap->EnvV c sc sm env ρ D s.heap->RvL c D s.heap vs as->
  Tri c A l (own env) D σ s (assignInOrder (xs.map fun n=>bindName env n) vs) (RN c sc sm env) (ret (setsOf ρ (is.zip as))):=by
 intro xs;induction xs with
 | nil=>
  intro is vs as D σ s ρ h1 h2 h3 W e V hv;have:is=[]:=List.eq_nil_of_length_eq_zero h1.symm;subst this;have:as=[]:=List.eq_nil_of_length_eq_zero h2.symm;subst this;cases hv;exact fun Q E hp=>wpAny_pure ⟨D,σ,ρ,.refl W.conc,V,hp⟩
 | cons x xs ih=>
  intro is vs as D σ s ρ h1 h2 h3 W e V hv;cases is with
  | nil=>cases h1
  | cons i is=>
   cases as with
   | nil=>cases h2
   | cons a as=>
    cases hv with
    | cons r1 r2=>
     rename_i v vs;obtain⟨g1,k,g2,g3⟩:=nameOk_spec (h3 (x,i) (.head _));show Tri c A l (own env) D σ s (holding vs (bindName env x v) >>=fun _=>assignInOrder (xs.map fun n=>bindName env n) vs) _ (bnd (ret (ρ.set i (some a))) fun ρ'=>ret (setsOf ρ' (is.zip as)));refine Tri.bind W (Tri.holding (bind_ok W.conc e V g1 g2 g3 (mayBind_own k g2) r1)) fun D1 σ1 s1 _ ρ1 rr W1 hV=>?_;exact ih is vs as D1 σ1 s1 ρ1 (by simpa using h1) (by simpa using h2) (fun p m=>h3 p (.tail _ m)) W1 (e.rel rr) hV (r2.mono rr.fz)
theorem zip_rev {α β:Type}:∀ {xs:List α} {ys:List β},xs.length=ys.length->(xs.zip ys).reverse=xs.reverse.zip ys.reverse
 | [],[],_=>rfl
 | x::xs,y::ys,h=>by
  rw[List.zip_cons_cons,List.reverse_cons,List.reverse_cons,List.reverse_cons,zip_rev (by simpa using h),List.zip_append (by simpa using h)];rfl
 | [],_::_,h=>by cases h
 | _::_,[],h=>by cases h
theorem RvL.reverse {h:Heap}:∀ {vs:List Value} {as:List AV},RvL c D h vs as->RvL c D h vs.reverse as.reverse
 | _,_,.nil=>.nil
 | _,_,.cons x r=>by rw[List.reverse_cons,List.reverse_cons];exact r.reverse.append (.cons x .nil)
theorem swap_ok {x:Expr} {ts:List Expr} {k:Nat} {p:Frame->MB} {is:List Nat} {xs:List Str} {tp pos:Pos} (hs:swapsWith x (some (.Tuple ts k tp)) pos.line env=pure false) (hw:swappedStores [.Tuple ts k tp] x env=pure (some xs)) (hx:EvOk c A l sc sm env x p)
  (hlen:xs.length=is.length) (hok:∀ q∈xs.zip is,nameOk sc sm q.1 q.2=true) (hnd:is.Nodup):
  StOk c A l sc sm env (.Assign [.Tuple ts k tp] x pos) fun ρ=>bnd (p ρ).1 fun v=>match v with | .tup vs=>req (is.length=vs.length) (ret (.next,setsOf ρ (is.zip vs))) | _=>no:=fun D σ s ρ W e V=>by
 intro Q E hp;refine Assign_Tuple_swapped ?_ hs hw;refine wpAny_mono ((hx D σ s ρ W e V).1 _ _ hp) ?_ ?_
 ·rintro v s1 ⟨D1,σ1,a,r1,hv,hq⟩;have W1:=W.rel r1;have e1:=e.rel r1;have V1:=V.relN e r1;cases hv<;>first | exact hq.elim | skip
  rename_i t vs n as d q1 rl;obtain⟨hlen',hq⟩:=hq;have l1:=rl.length;rw[Array.length_toList] at l1;have hsz:xs.length=vs.size:=by omega
  rw[hsz];refine wpAny_unpackItems_tuple W1.hh ⟨_,q1,rfl,n,rfl⟩ fun h' he=>?_;have r0:Rel c NX (Yof l) D1 σ1 s1 D1 σ1 {s1 with heap:=h'}:=.grow W1.conc (fun a ob q=>he a ob (fun z=>by rw[z,fresh_at] at q;cases q) q) rfl rfl;have r10:=r1.trans W.conc r0;have hrev:setsOf ρ (is.reverse.zip as.reverse)=setsOf ρ (is.zip as):=by
   rw[<- zip_rev hlen'];refine setsOf_rev _ _ ?_;rw[List.map_fst_zip (by omega)];exact hnd
  have main:=binds_ok xs.reverse is.reverse vs.toList.reverse as.reverse D1 σ1 {s1 with heap:=h'} ρ (by simpa using hlen) (by simpa using hlen') (fun q m=>hok q (by rw[<- zip_rev hlen] at m;exact List.mem_reverse.mp m)) (W.rel r10) (e1.rel r0) (V1.relN e1 r0) (rl.mono r0.fz).reverse;refine Tri.use (X:=own env) (Q:=fun ρ' σ'=>Q (.next,ρ') σ') (E:=E) W r10.more main ?_ fun _ s2 D2 σ2 ρ2 r2 r2' W2 hV2 hq2=>⟨D2,σ2,(.next,ρ2),r2',⟨hV2,trivial⟩,hq2⟩;rw[hrev];exact hq
 ·rintro w s1 ⟨D1,σ1,r1,hx,hq⟩;exact⟨D1,σ1,r1.more,hx,hq⟩
theorem EnvV.same {h h':Heap} (e:EnvS sc sm env D σ h) (V:EnvV c sc sm env ρ D h) (fz:Fz D D h h') (hk:∀ a o,own env a->h.get? a=some o->h'.get? a=some o):EnvV c sc sm env ρ D h':=by
 obtain⟨m,⟨o,es,ep,q,d⟩,hl⟩:=V.loc;refine⟨⟨m,⟨o,es,ep,hk _ _ (.inl rfl) q,d⟩,fun y i a h1 h2 h3=>?_⟩,fun y hy=>?_,V.set⟩
 ·obtain⟨w,g1,g2⟩:=hl y i a h1 h2 h3;exact⟨w,g1,g2.mono fz⟩
 ·obtain⟨cc,ov,h1,⟨o,q,d⟩,h3⟩:=V.cel y hy;refine⟨cc,ov,h1,⟨o,hk _ _ (.inr ⟨y,h1⟩) q,d⟩,fun i a g1 g2=>?_⟩;obtain⟨w,k1,k2⟩:=h3 i a g1 g2;exact⟨w,k1,k2.mono fz⟩
theorem use_ok {elt target iter:Expr} {ifs:List Expr} {gs:List Comprehension} {scope:Scope} {x:Str} {i:Nat} {px cpos pos:Pos} {sm':SM} {tg:List Nat} {q:Frame->M It} {LM:Frame->It->M (List AV)} (hs:swapsWith (.ListComp elt (⟨target,iter,ifs,0⟩::gs) scope cpos) (some (.Name x px)) pos.line env=pure true) (hi:nameOk sc sm x i=true)
  (hst:CompSt sc sm scope sm' tg) (hset:notSet iter=true) (hasy:firstAsync (⟨target,iter,ifs,0⟩::gs)=false) (hit:EvIt c A l sc sm env target iter q)
  (hloop:∀ (D:Addr->Prop) σ s ρ (cenv:Env) acc I O J S (R:Result->Shared->Prop) D1 σ1 s1 (Q':List AV->St->Prop),(∀ i∈tg,∀ a:AV,ρ[i]? ≠some (some a))->CompFix c A (Newer s.heap) l cenv acc O D σ s->ItOk c A l target I O J S->InComp c (Newer s.heap) l (relab sc scope) sm' cenv ρ acc D σ s D1 σ1 s1 []->S 0 D1 σ1 s1.heap->LM ρ J Q' NoE σ1->
   (∀ s' D' σ' as,InComp c (Newer s.heap) l (relab sc scope) sm' cenv ρ acc D σ s D' σ' s' as->Q' as σ'->R (.ok .next) s')->codeAny (model c.prog c.w) A (.compLoop (.ListComp elt (⟨target,iter,ifs,0⟩::gs) scope cpos) 0 (.ref I) (.ref acc) cenv) R s1):
  StOk c A l sc sm env (.Assign [.Name x px] (.ListComp elt (⟨target,iter,ifs,0⟩::gs) scope cpos) pos) fun ρ=>bnd (bnd (q ρ) fun I=>bnd (calm (LM ρ I)) fun vs=>mk (.list vs)) fun v=>bnd (ret (ρ.set i (some v))) fun ρ'=>ret (.next,ρ'):=fun D σ s ρ W e V=>by
 intro Q E hp;rw[exec_Assign_Name_used x px _ pos hs];refine wpAny_bind (wpAny_standAt (wpAny_bind ?_));show wpAny _ _ (do let _ <- comprehension (.ListComp elt (⟨target,iter,ifs,0⟩::gs) scope cpos) scope env (firstIterPos (⟨target,iter,ifs,0⟩::gs) cpos) (newList []) (firstAsync (⟨target,iter,ifs,0⟩::gs)) (firstIter (⟨target,iter,ifs,0⟩::gs) env) (some (assign (.Name x px) env))) _ _ _;rw[hasy];have hnew:∀ i∈tg,∀ a:AV,ρ[i]? ≠some (some a):=fun i m a h=>hst.new i m (V.set i a h);obtain⟨g1,k,g2,g3⟩:=nameOk_spec hi;refine wpAny_bind (wpAny_mono (comp_core (LM:=LM ρ) (E:=E) W e V hst hset hit (fun cenv acc I O J S R D1 σ1 s1 Q' F IT X hS hl hR=>hloop D σ s ρ cenv acc I O J S R D1 σ1 s1 Q' hnew F IT X hS hl hR) hp (Qv:=fun _ s'=>∃ D' σ' x',Rel c (own env) (Yof l) D σ s D' σ' s'/\RF c sc sm env D' s'.heap .next x'/\Q x' σ') ?_) ?_ ?_)
 ·intro acc C D' σ' s' r hC H hn hq;have W':=W.rel r;have e':=e.rel r;have V':=V.relN e r;refine wpAny_bind (wpAny_standAt ?_);refine wpAny_mono (Tri.use (X:=own env) (Q:=fun ρ' σ''=>Q (.next,ρ') σ'') (E:=NoE) (K:=fun _ s2=>∃ D2 σ2 ρ2,Rel c (own env) (Yof l) D' σ' s' D2 σ2 s2/\Rel c (own env) (Yof l) D σ s D2 σ2 s2/\EnvV c sc sm env ρ2 D2 s2.heap/\Q (.next,ρ2) σ2) W r.more (bind_ok (X:=own env) W'.conc e' V' g1 g2 g3 (mayBind_own k g2) (.ref acc)) hq fun _ s2 D2 σ2 ρ2 r2 r2' W2 hV2 hq2=>⟨D2,σ2,ρ2,r2,r2',hV2,hq2⟩) ?_ fun _ _ ⟨_,_,_,_,z⟩=>z.elim;rintro _ s2 ⟨D2,σ2,ρ2,r2,r2',hV2,hq2⟩;have nown:¬ own env C:=fun o=>by have:=(e.free C o).2.2;rw[hC] at this;cases this
  obtain⟨m,o,es,ep,q1,q2⟩:=hn;obtain⟨H2,q3⟩:=H.stay q1 nown r2;refine⟨m,⟨o,es,ep,q3,q2⟩,fun h' hs=>⟨D2,σ2,(.next,ρ2),?_,⟨?_,trivial⟩,hq2⟩⟩
  ·exact r2'.lost (d:=(· =C)) (fun a z=>by rw[show a=C from z];exact⟨hC,H2.free,H2.nD⟩) (fun a ob n q=>(hs.2 a n).trans q) rfl rfl
  ·refine EnvV.same (e'.rel r2) hV2 ⟨fun _ d=>d,fun a d=>?_⟩ fun a o oa q=>(hs.2 a (fun z=>nown (z ▸ oa))).trans q;exact hs.2 a fun z=>H2.nD (z ▸ d)
 ·rintro _ s' h;exact wpAny_pure (wpAny_pure h)
 ·rintro w s' ⟨D',σ',r,hx,hq⟩;exact⟨D',σ',r.more,hx,hq⟩
end
section
variable {c:Cfg} {A:Around} {l:List Env} {X Y D D₁:Addr->Prop} {σ σ₁:St} {s s₁:Shared} {sc:Scope} {sm:SM} {env:Env} {ρ:Frame}
abbrev Lz (env:Env) (h:Heap):Addr->Prop:=fun a=>own env a\/h.get? a=none
theorem for_ok {target iter:Expr} {tg:List Nat} {q:Frame->M It} {body:List Stmt} {b:Frame->M (Fl×Frame)} {pos:Pos} (hset:notSet iter=true) (htg:tgtOk sc sm target tg=true) (hit:EvIt c A l sc sm env target iter q) (hb:StsOk c A l sc sm env body b):
  StOk c A l sc sm env (.For target iter body [] pos) fun ρ=>bnd (q ρ) fun I=>bnd (calm (forM I.ok stopF (fun v x=>bnd (tgtM x.2 tg v) fun ρ'=>b ρ') I.items (.next,ρ))) fun x=>ret (endF x):=fun D σ s ρ W e V=>by
 intro Q E hp;rw[arm_exec_For];have hp':q ρ (fun J σ'=>forM J.ok stopF (fun v x=>bnd (tgtM x.2 tg v) fun ρ'=>b ρ') J.items (.next,ρ) (fun x σ''=>Q (endF x) σ'') NoE σ') E σ:=hp;have fin:∀ w s',Flies c l NX D σ s E w s'->Flies c l (own env) D σ s E w s':=fun w s' ⟨D',σ',r,h1,h2⟩=>⟨D',σ',r.more,h1,h2⟩;refine wpAny_bind (wpAny_standAt ?_);refine wpAny_bind (wpAny_mono (hit D σ s ρ W e V _ E (fun itv s'=>∃ I D' σ' O J S,itv=.ref I/\Rel c NX (Yof l) D σ s D' σ' s'/\(∀ a,O a->s.heap.get? a=none)/\ItOk c A l target I O J S/\S 0 D' σ' s'.heap/\forM J.ok stopF (fun v x=>bnd (tgtM x.2 tg v) fun ρ'=>b ρ') J.items (.next,ρ) (fun x σ''=>Q (endF x) σ'') NoE σ') hp' fun I s1 D1 σ1 O J S g1 g2 g3 g4 g5 g6 g7=>⟨I,D1,σ1,O,J,S,rfl,g1,g2,g5,g6,g7⟩) ?_ fin);intro xv s0 hxv;have hfold:foldedSetIterable iter env xv=pure xv:=by cases iter<;>first | rfl | cases hset
 rw[hfold];refine wpAny_bind (wpAny_pure (wpAny_bind (wpAny_standAt (wpAny_bind (wpAny_holding (wpAny_mono hxv ?_ fin))))));rintro _ s1 ⟨I,D1,σ1,O,J,S,rfl,r1,hO,IT,hS,hq⟩;refine wpAny_runOwn ?_;have bad:∀ {Z' D₂ σ₂ s₂ v s₃} {R:Value->Shared->Prop},Flies c l Z' D₂ σ₂ s₂ NoE v s₃->notedBy (model c.prog c.w) A env R v s₃:=fun ⟨_,_,_,_,z⟩=>z.elim;have Oown:∀ a,O a->¬ own env a:=fun a o z=>by have:=(e.free a z).2.2;rw[hO a o] at this;cases this
 have toZ:∀ {D σ s D' σ' s'},Rel c (own env) (Yof l) D σ s D' σ' s'->True:=fun _=>trivial;refine codeAny_forLoop_any (A:=A) (fun n s'=>∃ i D' σ' ρ',n=J.items.length - i/\i<=J.items.length/\Rel c (Lz env s.heap) (Yof l) D σ s D' σ' s'/\EnvS sc sm env D' σ' s'.heap/\EnvV c sc sm env ρ' D' s'.heap/\S i D' σ' s'.heap/\forM J.ok stopF (fun v x=>bnd (tgtM x.2 tg v) fun ρ'=>b ρ') (J.items.drop i) (.next,ρ') (fun x σ''=>Q (endF x) σ'') NoE σ') ?_ _ ⟨0,D1,σ1,ρ,rfl,Nat.zero_le _,r1.more,e.rel r1,V.relN e r1,hS,hq⟩;rintro n s2 ⟨i,D2,σ2,ρ2,rfl,hi,r2,e2,V2,hS2,hp2⟩;have W2:=W.rel (r2.weaken (X':=fun _=>True) fun _ _ _ _=>trivial);have out:∀ {D' σ' s'},Rel c (Lz env s.heap) (Yof l) D σ s D' σ' s'->Rel c (own env) (Yof l) D σ s D' σ' s':=fun r=>r.weaken fun a o q z=>z.elim id fun z=>by rw[z] at q;cases q
 rcases Nat.lt_or_ge i J.items.length with hlt | hge
 ·obtain⟨x,hx⟩:∃ x,J.items[i]? =some x:=⟨_,List.getElem?_eq_getElem hlt⟩;have hd:J.items.drop i=x::J.items.drop (i+1):=by
   rw[List.drop_eq_getElem_cons hlt];congr 1;rw[List.getElem?_eq_getElem hlt] at hx;exact Option.some.inj hx
  rw[hd] at hp2;obtain⟨hok,hp2⟩:=hp2;have hp3:tgtM ρ2 tg x (fun ρ' σ'=>b ρ' (fun y σ''=>stopF y (fun st σ'''=>(if st then ret y else forM J.ok stopF (fun v x=>bnd (tgtM x.2 tg v) fun ρ'=>b ρ') (J.items.drop (i+1)) y) (fun x σ''=>Q (endF x) σ'') NoE σ''') NoE σ'') NoE σ') NoE σ2:=hp2;refine wpAny_mono (IT.item i D2 σ2 s2 x (fun v s'=>∃ D',Rel c O (Yof l) D2 σ2 s2 D' σ2 s'/\S (i+1) D' σ2 s'.heap/\Rv c D' s'.heap v x) _ W2 hS2 hok hx fun v D1 s1 r1 hS1 hv=>⟨D1,r1,hS1,hv⟩) ?_ (fun _ _ z=>z);rintro r s3 ⟨v,rfl,h⟩;refine wpAny_mono h ?_ fun _ _ z=>z;rintro _ s3 ⟨D3,r3,hS3,hv⟩;have e3:=e2.rel r3;have V3:=V2.rel e2 r3 fun a z o=>Oown a o z;have W3:=W2.rel r3;refine wpAny_mono (tgt_ok (X:=own env) htg (fun y _=>mayBind_own) W3 e3 V3 hv _ _ hp3) ?_ fun _ _ z=>bad z;rintro _ s4 ⟨D4,σ4,ρ4,r4,hV4,hq4⟩;have W4:=W3.rel r4;have hS4:=IT.stay _ (own env) _ _ _ _ _ _ Oown r4 hS3;refine wpAny_mono (hb D4 σ4 s4 ρ4 W4 (e3.rel r4) hV4 _ _ hq4) ?_ fun _ _ z=>bad z;rintro f s5 ⟨D5,σ5,⟨fl,ρ5⟩,r5,⟨hV5,hfl⟩,hq5⟩;have rr:Rel c (Lz env s.heap) (Yof l) D σ s D5 σ5 s5:=(r2.trans W.conc (r3.weaken fun a o _ z=>.inr (hO a z))).trans W.conc ((r4.trans W3.conc r5).weaken fun a o _ z=>.inl z);have hS5:=IT.stay _ (own env) _ _ _ _ _ _ Oown r5 hS4;cases f<;>cases fl<;>first | exact hfl.elim | skip
  ·exact⟨J.items.length - (i+1),by omega,i+1,D5,σ5,ρ5,rfl,hlt,rr,(e3.rel r4).rel r5,hV5,hS5,hq5⟩
  ·exact⟨D5,σ5,(.next,ρ5),out rr,⟨hV5,trivial⟩,hq5⟩
  ·exact⟨D5,σ5,_,out rr,⟨hV5,hfl⟩,hq5⟩
 ·have hl:J.items.length=i:=by omega
  have hd:J.items.drop i=[]:=List.drop_eq_nil_of_le hge;rw[hd] at hp2;obtain⟨hok,hp2⟩:=hp2;refine IT.done i D2 σ2 s2 _ _ W2 hS2 hok hl fun s' g1 g2 g3=>?_;show wpAny _ _ (execs [] env) _ _ _;rw[arm_execs_nil];have hH:∀ a,O a->s.heap.get? a=none/\σ2 a=none/\¬ D2 a:=fun a o=>⟨hO a o,(IT.held i D2 σ2 _ hS2 a o).1.free,(IT.held i D2 σ2 _ hS2 a o).1.nD⟩;refine wpAny_pure ⟨D2,σ2,(.next,ρ2),out (r2.lost (d:=O) hH g3 g1 g2),⟨?_,trivial⟩,hp2⟩;refine EnvV.same e2 V2 ⟨fun _ d=>d,fun a d=>?_⟩ fun a o oa q=>g3 a o (fun z=>Oown a z oa) q;obtain⟨ob,q⟩:=Option.isSome_iff_exists.mp (W2.conc.froz a d).2;rw[q];exact g3 a ob (fun z=>(hH a z).2.2 d) q
theorem while_any {test:Expr} {p:Frame->MB} {body:List Stmt} {b:Frame->M (Fl×Frame)} {E':St->Prop} {Ex:Value->Shared->Prop} {Q:Fl×Frame->St->Prop} (W:Wd c A l D σ s) (e:EnvS sc sm env D σ s.heap) (V:EnvV c sc sm env ρ D s.heap) (hx:EvOk c A l sc sm env test p) (hb:StsOk c A l sc sm env body b)
  (hE:PassesOwn (model c.prog c.w) A env Ex) (hEx:∀ w s',Flies c l (own env) D σ s E' w s'->Ex w s') (hp:∃ n,whileN (fun ρ=>(p ρ).2) b n ρ Q E' σ):
  wpAny (model c.prog c.w) A (runOwn (.whileLoop test body [] env) env) (fun f s'=>∃ D' σ' x,Rel c (own env) (Yof l) D σ s D' σ' s'/\RF c sc sm env D' s'.heap f x/\Q x σ') Ex s:=by
 obtain⟨n,hp⟩:=hp;refine wpAny_runOwn ?_;refine codeAny_whileLoop (A:=A) (fun n s'=>∃ D' σ' ρ',Rel c (own env) (Yof l) D σ s D' σ' s'/\EnvV c sc sm env ρ' D' s'.heap/\whileN (fun ρ=>(p ρ).2) b n ρ' Q E' σ') ?_ n ⟨D,σ,ρ,.refl W.conc,V,hp⟩;rintro n s1 ⟨D1,σ1,ρ1,r1,V1,hp1⟩;have W1:=W.rel r1;have e1:=e.rel r1;cases n with
 | zero=>exact hp1.elim
 | succ n=>
  have up:∀ {Z D' σ' s'} w s'',(∀ a,Z a->own env a)->Rel c (own env) (Yof l) D σ s D' σ' s'->Flies c l Z D' σ' s' E' w s''->notedBy (model c.prog c.w) A env (cameBackBy (model c.prog c.w) A env Ex) w s'':=fun w s'' hz r ⟨D2,σ2,r2,x,z⟩=>
   hE w s'' (hEx w s'' ⟨D2,σ2,r.trans W.conc (r2.weaken fun a _ _ q=>hz a q),x.back r.there,z⟩)
  refine wpAny_mono ((hx D1 σ1 s1 ρ1 W1 e1 V1).2 _ _ hp1) ?_ fun w s'' z=>up w s'' (fun _ q=>q.elim) r1 z;rintro t s2 ⟨D2,σ2,t',r2,rfl,hq⟩;have r12:=r1.trans W.conc (r2.more (X:=own env));have W2:=W1.rel r2;have e2:=e1.rel r2;have V2:=V1.relN e1 r2;cases t with
  | false=>
   rw[if_neg Bool.false_ne_true];rw[arm_execs_nil];exact wpAny_pure ⟨D2,σ2,(.next,ρ1),r12,⟨V2,trivial⟩,hq⟩
  | true=>
   rw[if_pos rfl];refine wpAny_mono (hb D2 σ2 s2 ρ1 W2 e2 V2 _ _ hq) ?_ fun w s'' z=>up w s'' (fun _ q=>q) r12 z;rintro f s3 ⟨D3,σ3,⟨fl,ρ3⟩,r3,⟨V3,hfl⟩,hq3⟩;have r13:=r12.trans W.conc r3;cases f<;>cases fl<;>first | exact hfl.elim | skip
   ·exact⟨n,Nat.lt_succ_self n,D3,σ3,ρ3,r13,V3,hq3⟩
   ·exact⟨D3,σ3,(.next,ρ3),r13,⟨V3,trivial⟩,hq3⟩
   ·exact⟨D3,σ3,_,r13,⟨V3,hfl⟩,hq3⟩
theorem while_ok {test:Expr} {p:Frame->MB} {body:List Stmt} {b:Frame->M (Fl×Frame)} {pos:Pos} (hx:EvOk c A l sc sm env test p) (hb:StsOk c A l sc sm env body b):
  StOk c A l sc sm env (.While test body [] pos) fun ρ=>calm fun Q E σ=>∃ n,whileN (fun ρ=>(p ρ).2) b n ρ Q E σ:=fun D σ s ρ W e V=>by
 intro Q E hp;rw[arm_exec_While];refine wpAny_bind (wpAny_standAt ?_);exact wpAny_mono (while_any (Ex:=fun _ _=>False) W e V hx hb .never (fun w s' ⟨_,_,_,_,z⟩=>z) hp) (fun _ _ z=>z) fun _ _ z=>z.elim
end
def wipe (h:Heap):List Addr->Heap
 | []=>h
 | a::r=>(wipe h r).update a fun _=>{cls:=.none,data:=.freed}
theorem wipe_self (h:Heap) (a:Addr):(h.update a fun _=>{cls:=.none,data:=.freed}).get? a=none:=by
 obtain⟨objs,lm⟩:=h;show (Heap.get? ⟨objs.modify a _,lm⟩ a)=none;unfold Heap.get?;dsimp only;rw[Array.getElem?_modify];simp only[if_true];cases objs[a]? <;>rfl
theorem wipe_get (h:Heap):∀ (as:List Addr) (a:Addr),(a∈as->(wipe h as).get? a=none)/\(a∉as->(wipe h as).get? a=h.get? a)
 | [],a=>⟨(fun m=>by cases m),fun _=>rfl⟩
 | b::r,a=>by
  obtain⟨h1,h2⟩:=wipe_get h r a;by_cases q:a=b
  ·subst q;exact⟨fun _=>wipe_self _ _,fun m=>absurd (.head _) m⟩
  ·have e:(wipe h (b::r)).get? a=(wipe h r).get? a:=Heap.get?_update_other _ _ (Ne.symm q);rw[e];exact⟨fun m=>h1 ((List.mem_cons.mp m).resolve_left q),fun m=>h2 fun z=>m (.tail _ z)⟩
section
variable {c:Cfg} {A:Around} {l:List Env} {X Y D D₁:Addr->Prop} {σ σ₁:St} {s s₁:Shared} {sc:Scope} {sm:SM} {env:Env} {ρ:Frame}
theorem Rel.left {s₂:Shared} {d:Addr->Prop} (r:Rel c X Y D σ s D₁ σ₁ s₁) (hd:∀ a,d a->s.heap.get? a=none/\σ₁ a=none/\¬ D₁ a) (hY:∀ a,Y a->σ₁ a=none/\¬ D₁ a/\¬ d a/\∃ o,s₁.heap.get? a=some o/\∀ vs,o.data≠.fields vs)
  (hs:∀ a ob,¬ d a->¬ Y a->s₁.heap.get? a=some ob->s₂.heap.get? a=some ob) (hy:∀ a ob,Y a->s₁.heap.get? a=some ob->(∀ vs,ob.data≠.fields vs)->∃ sl,s₂.heap.get? a=some {ob with slots:=sl}) (gens:s₂.gens=s₁.gens) (os:s₂.os=s₁.os):Rel c X Y D σ s D₁ σ₁ s₂:=by
 have C:=r.conc;have sD:∀ a,D₁ a->s₂.heap.get? a=s₁.heap.get? a:=fun a x=>by
  obtain⟨ob,e⟩:=Option.isSome_iff_exists.mp (C.froz a x).2;rw[e];exact hs a ob (fun q=>(hd a q).2.2 x) (fun q=>(hY a q).2.1 x) e
 have fz:Fz D₁ D₁ s₁.heap s₂.heap:=⟨fun _ x=>x,sD⟩;have ne:∀ {a ob},s.heap.get? a=some ob->¬ d a:=fun e q=>by rw[(hd _ q).1] at e;cases e
 have sσ:∀ {a ob},σ₁ a≠none->s₁.heap.get? a=some ob->s₂.heap.get? a=some ob:=fun h e=>hs _ _ (fun q=>h (hd _ q).2.1) (fun q=>h (hY _ q).1) e;refine⟨⟨fun a ob e=>?_,fun a x=>?_,fun a ob e=>(fz.get a (C.kD a ob e)).trans (C.kin a ob e),C.kD,noLimit_keep fz C.limD C.lim,C.limD,C.sys,C.mgD,C.btD,C.top.of_eq (fz.get _ C.mgD) (fz.get _ C.btD)⟩,
  r.fz.trans fz,fun a ob e q n=>?_,fun a e=>?_,r.live,r.fresh,r.dfresh,fun a ob y e n=>?_,gens.trans r.gens,os.trans r.os⟩
 ·refine (C.obj a ob e).keep fz (fun o' e'=>sσ (by rw[e];simp) e') fun k dx fs eo ow=>⟨ow,fun o' e'=>sσ (by rw[ow];simp) e'⟩
 ·obtain⟨h1,h2⟩:=C.froz a x;refine⟨h1,?_⟩;rw[sD a x];exact h2
 ·obtain⟨k1,sl,k2⟩:=r.keep a ob e q n;refine⟨fun m=>hs a _ (ne e) m (k1 m),?_⟩;by_cases y:Y a
  ·obtain⟨_,_,_,o,e1,nf⟩:=hY a y;rw[k2] at e1;cases e1;obtain⟨sl',k3⟩:=hy a _ y k2 nf;exact⟨sl',k3⟩
  ·exact⟨sl,hs a _ (ne e) y k2⟩
 ·obtain⟨ob,q⟩:=Option.isSome_iff_exists.mp e;obtain⟨ob',q'⟩:=Option.isSome_iff_exists.mp (r.there a e);by_cases y:Y a
  ·obtain⟨_,_,_,o,e1,nf⟩:=hY a y;obtain⟨sl',k3⟩:=hy a _ y e1 nf;rw[k3];rfl
  ·rw[hs a ob' (ne q) y q'];rfl
 ·obtain⟨_,_,_,o,e1,nf⟩:=hY a y;obtain⟨sl',k3⟩:=hy a _ y e1 nf;exact⟨_,k3,nf⟩
def framesOf (l:List Env):List Addr:=l.filterMap (·.frame)
theorem mem_frames {a:Addr}:a∈framesOf l↔Yof l a:=by
 unfold framesOf Yof;rw[List.mem_filterMap]
theorem funFrames_of {base:Heap}:∀ (l':List Env),(∀ e∈l',e∈l)->Wd c A l D σ s->(∀ a,Yof l a->base.get? a=none)->s.heap.FunFrames base l'
 | [],_,_,_=>trivial
 | e::r,hs,W,hb=>by
  obtain⟨h1,L,o,h2,h3,h4,h5,h6⟩:=W.frames e (hs e (.head _));exact⟨h1,⟨L,o,h2,hb L ⟨e,hs e (.head _),h2⟩,h3,h4⟩,funFrames_of r (fun e' m=>hs e' (.tail _ m)) W hb⟩
theorem flies_leaves {outer:List Env} {X:Addr->Prop} {E:St->Prop} {w:Value} {s':Shared} (W:Wd c A (env::outer) D σ s) (h:Flies c (env::outer) X D σ s E w s'):
  wpAny (model c.prog c.w) A (leaving env w) (fun _ s''=>∃ D' σ',Rel c X (Yof (env::outer)) D σ s D' σ' s''/\Exc c outer D' σ' s.heap s''.heap w/\E σ') (fun _ _=>False) s':=by
 obtain⟨D',σ',r,⟨ea,oe,vs,rfl,he,hcl,hdat,hL,htr⟩,hE⟩:=h;have W':=W.rel r;obtain⟨_,L,oL,hfr,hoL,hnf,hσL,hDL⟩:=W'.frames env (.head _);have hYf:∀ a,Yof (env::outer) a->σ' a=none/\¬ D' a/\∃ o,s'.heap.get? a=some o/\∀ vs,o.data≠.fields vs:=by
  rintro a ⟨e',m,q⟩;obtain⟨_,L',o',h2,h3,h4,h5,h6⟩:=W'.frames e' m;rw[q] at h2;cases h2;exact⟨h5,h6,o',h3,h4⟩
 have notY:∀ {a o ws},s'.heap.get? a=some o->o.data=.fields ws->¬ Yof (env::outer) a:=fun h1 h2 y=>by
  obtain⟨_,_,o',h3,h4⟩:=hYf _ y;rw[h1] at h3;cases h3;exact h4 _ h2
 have fin:∀ (ds:List Addr) (h':Heap),ea∈ds->(∀ a∈ds,Loose D' σ' s.heap a/\¬ Yof (env::outer) a)->Heap.Left (wipe s'.heap (ds++framesOf (env::outer))) (env::outer) ea oe.cls s'.heap h'->
   ∃ D'' σ'',Rel c X (Yof (env::outer)) D σ s D'' σ'' {s' with heap:=h'}/\Exc c outer D'' σ'' s.heap h' (.ref ea)/\E σ'':=by
  rintro ds h' hea hds ⟨k1,k2,k3,k4⟩;have stay:∀ a ob,a∉ds->¬ Yof (env::outer) a->s'.heap.get? a=some ob->h'.get? a=some ob:=fun a ob n1 n2 q=>by
   refine k1 a ob ?_;rw[(wipe_get s'.heap _ a).2 (fun m=>(List.mem_append.mp m).elim n1 fun m=>n2 (mem_frames.mp m))];exact q
  refine⟨D',σ',r.left (d:=fun a=>a∈ds) (fun a m=>⟨(hds a m).1.2.2,(hds a m).1.1,(hds a m).1.2.1⟩) (fun a y=>?_) stay (fun a ob _ q nf=>k4 a ob q nf) rfl rfl,?_,hE⟩
  ·obtain⟨y1,y2,y3⟩:=hYf a y;exact⟨y1,y2,fun m=>(hds a m).2 y,y3⟩
  ·obtain⟨oe',vs',T,oT,ts,g1,g2,g3,g4,g5,g6,g7,g8,g9⟩:=k3;refine⟨ea,oe',vs',rfl,g1,g2.trans hcl,g3,hL,.inr ⟨T,oT,ts,g4,g6,g7,g8,?_,g9⟩⟩;by_cases m:T∈ds
   ·exact (hds T m).1
   ·by_cases y:Yof (env::outer) T
    ·exfalso;obtain⟨_,_,o',q1,q2⟩:=hYf T y;obtain⟨sl,q3⟩:=k4 T o' q1 q2;rw[g7] at q3;cases q3;exact q2 ts g8
    ·have:s'.heap.get? T=none:=by
      rw[<- (wipe_get s'.heap (ds++framesOf (env::outer)) T).2 (fun z=>(List.mem_append.mp z).elim m fun z=>y (mem_frames.mp z))];exact g5
     refine⟨r.conc.free this,fun d=>?_,gone r.there this⟩;have:=(r.conc.froz T d).2;rw[‹s'.heap.get? T=none›] at this;cases this
 have ny:¬ Yof (env::outer) ea:=notY he hdat;have stays:∀ ds,(wipe s'.heap ds).StaysIn s'.heap:=fun ds b o q=>by
  by_cases m:b∈ds
  ·rw[(wipe_get s'.heap ds b).1 m] at q;cases q
  ·rw[(wipe_get s'.heap ds b).2 m] at q;exact q
 have ff:∀ ds,s'.heap.FunFrames (wipe s'.heap (ds++framesOf (env::outer))) (env::outer):=fun ds=>funFrames_of _ (fun _ m=>m) W' fun a y=>(wipe_get s'.heap _ a).1 (List.mem_append_right _ (mem_frames.mpr y));rcases htr with h1 | ⟨T,oT,ts,h1,h2,h3,h4,h5,h6⟩
 ·refine wpAny_leaving_first (base:=wipe s'.heap ([ea]++framesOf (env::outer))) W'.fr (ff _) hfr he (stays _) ((wipe_get s'.heap _ ea).1 (.head _)) hdat h1 fun h' hl=>?_;refine fin [ea] h' (.head _) (fun a m=>?_) hl;rw[List.mem_singleton.mp m];exact⟨hL,ny⟩
 ·have nyT:¬ Yof (env::outer) T:=notY h3 h4;refine wpAny_leaving_next (base:=wipe s'.heap ([ea,T]++framesOf (env::outer))) (cls:=oe.cls) W'.fr (ff _) hfr ⟨oe,vs,T,oT,ts,he,rfl,hdat,h1,(wipe_get s'.heap _ T).1 (.tail _ (.head _)),h2,h3,h4,h6⟩ (stays _) ((wipe_get s'.heap _ ea).1 (.head _)) fun h' hl=>?_;refine fin [ea,T] h' (.head _) (fun a m=>?_) hl;rcases List.mem_cons.mp m with rfl | m
  ·exact⟨hL,ny⟩
  ·rw[List.mem_singleton.mp m];exact⟨h5,nyT⟩
end
section
variable {c:Cfg} {A:Around} {l:List Env} {X Y D D₁ D₀:Addr->Prop} {σ σ₁ σ₀:St} {s s₁ s₀:Shared} {sc:Scope} {sm:SM} {env:Env} {ρ:Frame}
abbrev Lets (c:Cfg) (A:Around) (outer:List Env) (env:Env) (D:Addr->Prop) (σ:St) (s:Shared) (E:St->Prop):Value->Shared->Prop:=fun w s'=>
 wpAny (model c.prog c.w) A (leaving env w) (fun _ s''=>∃ D' σ',Rel c (own env) (Yof (env::outer)) D σ s D' σ' s''/\Exc c outer D' σ' s.heap s''.heap w/\E σ') (fun _ _=>False) s'
def TopOk (c:Cfg) (A:Around) (outer:List Env) (sc:Scope) (sm:SM) (env:Env) (sts:List Stmt) (q:Frame->M (Fl×Frame)):Prop:=
 ∀ (D₀:Addr->Prop) (σ₀:St) (s₀:Shared) (D:Addr->Prop) (σ:St) (s:Shared) (ρ:Frame),Wd c A (env::outer) D₀ σ₀ s₀->Rel c (own env) (Yof (env::outer)) D₀ σ₀ s₀ D σ s->EnvS sc sm env D σ s.heap->EnvV c sc sm env ρ D s.heap->∀ Q E,q ρ Q E σ->
  wpAny (model c.prog c.w) A (execs sts env) (fun f s'=>∃ D' σ' x,Rel c (own env) (Yof (env::outer)) D₀ σ₀ s₀ D' σ' s'/\RF c sc sm env D' s'.heap f x/\Q x σ') (Lets c A outer env D₀ σ₀ s₀ E) s
variable {outer:List Env}
theorem top_of {st:Stmt} {r:List Stmt} {p q:Frame->M (Fl×Frame)} (h:∀ (D₀:Addr->Prop) (σ₀:St) (s₀:Shared) (D:Addr->Prop) (σ:St) (s:Shared) (ρ:Frame),Wd c A (env::outer) D₀ σ₀ s₀->Rel c (own env) (Yof (env::outer)) D₀ σ₀ s₀ D σ s->EnvS sc sm env D σ s.heap->EnvV c sc sm env ρ D s.heap->∀ Q E,p ρ Q E σ->
  wpAny (model c.prog c.w) A (exec st env) (fun f s'=>∃ D' σ' x,Rel c (own env) (Yof (env::outer)) D₀ σ₀ s₀ D' σ' s'/\Rel c (own env) (Yof (env::outer)) D σ s D' σ' s'/\RF c sc sm env D' s'.heap f x/\Q x σ') (Lets c A outer env D₀ σ₀ s₀ E) s) (hr:TopOk c A outer sc sm env r q):
  TopOk c A outer sc sm env (st::r) fun ρ=>bnd (p ρ) fun x=>(match x.1 with | .next=>q x.2 | _=>ret x):=fun D₀ σ₀ s₀ D σ s ρ W₀ r0 e V Q E hp=>by
 rw[arm_execs_cons];refine wpAny_bind (wpAny_mono (h D₀ σ₀ s₀ D σ s ρ W₀ r0 e V _ E hp) ?_ fun _ _ z=>z);rintro f s1 ⟨D1,σ1,⟨fl,ρ1⟩,r1,r1',⟨V1,hfl⟩,hq⟩;cases f<;>cases fl<;>first | exact hfl.elim | skip
 ·exact hr D₀ σ₀ s₀ D1 σ1 s1 ρ1 W₀ r1 (e.rel r1') V1 Q E hq
 ·exact wpAny_pure ⟨D1,σ1,_,r1,⟨V1,hfl⟩,hq⟩
 ·exact wpAny_pure ⟨D1,σ1,_,r1,⟨V1,hfl⟩,hq⟩
theorem top_nil:TopOk c A outer sc sm env [] fun ρ=>ret (.next,ρ):=fun D₀ σ₀ s₀ D σ s ρ W₀ r0 e V Q E hp=>by
 rw[arm_execs_nil];exact wpAny_pure ⟨D,σ,(.next,ρ),r0,⟨V,trivial⟩,hp⟩
theorem flies_base {E:St->Prop} {w:Value} {s':Shared} (W₀:Wd c A (env::outer) D₀ σ₀ s₀) (r0:Rel c (own env) (Yof (env::outer)) D₀ σ₀ s₀ D σ s) (h:Flies c (env::outer) (own env) D σ s E w s'):Lets c A outer env D₀ σ₀ s₀ E w s':=by
 obtain⟨D',σ',r,x,z⟩:=h;exact flies_leaves W₀ ⟨D',σ',r0.trans W₀.conc r,x.back r0.there,z⟩
theorem top_st {st:Stmt} {r:List Stmt} {p q:Frame->M (Fl×Frame)} (h:StOk c A (env::outer) sc sm env st p) (hr:TopOk c A outer sc sm env r q):TopOk c A outer sc sm env (st::r) fun ρ=>bnd (p ρ) fun x=>(match x.1 with | .next=>q x.2 | _=>ret x):=
 top_of (fun D₀ σ₀ s₀ D σ s ρ W₀ r0 e V Q E hp=>by
  refine wpAny_mono (h D σ s ρ (W₀.rel r0) e V Q E hp) ?_ fun w s' z=>flies_base W₀ r0 z;rintro f s1 ⟨D1,σ1,x,r1,hx,hq⟩;exact⟨D1,σ1,x,r0.trans W₀.conc r1,r1,hx,hq⟩) hr
theorem top_while {test:Expr} {pt:Frame->MB} {body:List Stmt} {b:Frame->M (Fl×Frame)} {pos:Pos} {r:List Stmt} {q:Frame->M (Fl×Frame)} (hx:EvOk c A (env::outer) sc sm env test pt) (hb:StsOk c A (env::outer) sc sm env body b) (hr:TopOk c A outer sc sm env r q):
  TopOk c A outer sc sm env (.While test body [] pos::r) fun ρ=>bnd (fun Q E σ=>∃ n,whileN (fun ρ=>(pt ρ).2) b n ρ Q E σ) fun x=>(match x.1 with | .next=>q x.2 | _=>ret x):=
 top_of (p:=fun ρ Q E σ=>∃ n,whileN (fun ρ=>(pt ρ).2) b n ρ Q E σ) (fun D₀ σ₀ s₀ D σ s ρ W₀ r0 e V Q E hp=>by
  rw[arm_exec_While];refine wpAny_bind (wpAny_standAt ?_);refine wpAny_mono (while_any (Ex:=Lets c A outer env D₀ σ₀ s₀ E) (W₀.rel r0) e V hx hb .leaving (fun w s' z=>flies_base W₀ r0 z) hp) ?_ fun _ _ z=>z;rintro f s1 ⟨D1,σ1,x,r1,hx,hq⟩;exact⟨D1,σ1,x,r0.trans W₀.conc r1,r1,hx,hq⟩) hr
theorem Rel.weakenY {Y' D':Addr->Prop} {σ':St} {s':Shared} (r:Rel c X Y D σ s D' σ' s') (h1:∀ a o,s.heap.get? a=some o->Y a->Y' a) (h2:∀ a,Y' a->Y a):Rel c X Y' D σ s D' σ' s' where
 conc:=r.conc
 fz:=r.fz
 keep a o e q n:=⟨fun y=>(r.keep a o e q n).1 fun z=>y (h1 a o e z),(r.keep a o e q n).2⟩
 there:=r.there
 live:=r.live
 fresh:=r.fresh
 dfresh:=r.dfresh
 frm a o y e n:=r.frm a o (h2 a y) e n
 gens:=r.gens
 os:=r.os
end
theorem zip_find {β:Type}:∀ {ks:List Str} {vs:List β},ks.length=vs.length->∀ n∈ks,((ks.zip vs).lookup n).isNone=false
 | k::ks,v::vs,h,n,m=>by
  rw[List.zip_cons_cons,List.lookup_cons];cases q:n==k
  ·have:n≠k:=fun z=>by rw[z,beq_self_eq_true] at q;cases q
   exact zip_find (by simpa using h) n ((List.mem_cons.mp m).resolve_left this)
  ·rfl
 | [],_,_,_,m=>by cases m
 | _::_,[],h,_,_=>by cases h
theorem zip_gather {β:Type}:∀ {ks:List Str} {vs:List β},ks.length=vs.length->ks.Nodup->ks.filterMap (fun n=>((ks.zip vs).lookup n).map (n,·))=ks.zip vs
 | [],[],_,_=>rfl
 | k::ks,v::vs,h,hn=>by
  rw[List.nodup_cons] at hn;have e1:((k::ks).zip (v::vs)).lookup k=some v:=by rw[List.zip_cons_cons,List.lookup_cons,beq_self_eq_true]
  rw[List.filterMap_cons,e1];show (k,v)::_=(k,v)::ks.zip vs;congr 1;have step:∀ (l:List Str),(∀ n∈l,n≠k)->l.filterMap (fun n=>(((k::ks).zip (v::vs)).lookup n).map (n,·))=l.filterMap (fun n=>((ks.zip vs).lookup n).map (n,·)):=by
   intro l;induction l with
   | nil=>intro _;rfl
   | cons n l ih=>
    intro hl;have:(n==k)=false:=beq_eq_false_iff_ne.mpr (hl n (.head _));rw[List.filterMap_cons,List.filterMap_cons,ih fun n m=>hl n (.tail _ m),List.zip_cons_cons,List.lookup_cons,this]
  rw[step ks fun n m z=>hn.1 (z ▸ m)];exact zip_gather (by simpa using h) hn.2
 | [],_::_,h,_=>by cases h
 | _::_,[],h,_=>by cases h
theorem bind_plain {fd:FuncData} {ps:List Arg} {vals:List Value} (hp:fd.params=⟨[],ps,none,[],[],none,[]⟩) (hd:fd.defaults=.none) (hl:vals.length=ps.length) (hn:(ps.map (·.arg)).Nodup):
  bindArgs fd ⟨vals,[]⟩=pure ((ps.map (·.arg)).zip vals):=by
 have hl':(ps.map (·.arg)).length=vals.length:=by rw[List.length_map,hl]
 have g:=zip_gather hl' hn;have m:(ps.map (·.arg)).filter (fun n=>(((ps.map (·.arg)).zip vals).lookup n).isNone)=[]:=List.filter_eq_nil_iff.mpr fun n hm q=>by rw[zip_find hl' n hm] at q;cases q
 unfold bindArgs;rw[hp,hd];have e:seqItems? Value.none=pure none:=rfl;simp only[e,List.map_nil,List.nil_append,List.forIn_nil,pure_bind,List.append_nil,Option.getD_none,List.length_nil];have h1:¬ (vals.length >(ps.map (·.arg)).length/\True):=by rw[hl'];simp
 simp [hl',hl];have c1:List.take ((ps.map (·.arg)).length - (List.drop (0 - (ps.map (·.arg)).length) ([]:List Value)).length) (ps.map (·.arg))=ps.map (·.arg):=by rw[List.drop_nil];exact List.take_of_length_le (by simp)
 rw[c1,m];have c2:(List.filterMap ((fun n=>Option.map (fun x=>(n,x)) (List.lookup n ((List.map (fun x=>x.arg) ps).zip vals))) ∘ fun x=>x.arg) ps)=(ps.map (·.arg)).zip vals:=by rw[<- List.filterMap_map];exact g
 rw[c2];rfl
theorem bindL_else {kind:Str->Option NameKind} {x:Str}:∀ {l:List (Str×Value)} {m:Str->Option Value},(∀ p∈l,p.1≠x)->bindL kind l m x=m x
 | [],_,_=>rfl
 | (n,v)::r,m,h=>by
  unfold bindL;rw[bindL_else fun p q=>h p (.tail _ q)];split
  ·exact if_neg (Ne.symm (h (n,v) (.head _)))
  ·rfl
theorem bindC_else {kind:Str->Option NameKind} {x:Str}:∀ {l:List (Str×Value)} {m:Str->Option Value},(∀ p∈l,p.1≠x)->bindC kind l m x=m x
 | [],_,_=>rfl
 | (n,v)::r,m,h=>by
  unfold bindC;rw[bindC_else fun p q=>h p (.tail _ q)];split
  ·rfl
  ·exact if_neg (Ne.symm (h (n,v) (.head _)))
theorem zip_keys {β:Type} {ks:List Str} {vs:List β} {p:Str×β} (h:p∈ks.zip vs):p.1∈ks:=(List.of_mem_zip (show (p.1,p.2)∈ks.zip vs from h)).1
theorem bind_get {kind:Str->Option NameKind}:∀ {ks:List Str} {vs:List Value} {i:Nat} {x:Str} {v:Value} {m m':Str->Option Value},ks.Nodup->ks[i]? =some x->vs[i]? =some v->
  (kind x=some .local->bindL kind (ks.zip vs) m x=some v)/\(kind x≠some .local->bindC kind (ks.zip vs) m' x=some v)
 | k::ks,w::vs,0,x,v,m,m',hn,h1,h2=>by
  rw[List.nodup_cons] at hn;cases h1;cases h2;have ne:∀ p∈ks.zip vs,p.1≠k:=fun p q z=>hn.1 (z ▸ zip_keys q);refine⟨fun hk=>?_,fun hk=>?_⟩
  ·rw[List.zip_cons_cons];unfold bindL;rw[bindL_else ne,if_pos hk,if_pos rfl]
  ·rw[List.zip_cons_cons];unfold bindC;rw[bindC_else ne,if_neg hk,if_pos rfl]
 | k::ks,w::vs,i+1,x,v,m,m',hn,h1,h2=>by
  rw[List.nodup_cons] at hn;rw[List.zip_cons_cons];unfold bindL bindC;exact bind_get hn.2 h1 h2
 | [],_,_,_,_,_,_,_,h,_=>by simp at h
 | _::_,[],_,_,_,_,_,_,_,h=>by simp at h
theorem cellsFrom_has:∀ {names:List (Str×NameKind)} {n:Nat} {acc:List (Str×Addr)} {x:Str},(x,NameKind.cell)∈names\/(acc.lookup x).isSome=true->((cellsFrom n names acc).lookup x).isSome=true
 | [],_,_,_,h=>h.elim (fun h=>nomatch h) id
 | (k,kd)::r,n,acc,x,h=>by
  unfold cellsFrom;by_cases q:(kd==.cell)=true
  ·rw[if_pos q];refine cellsFrom_has ?_;by_cases z:(x==k)=true
   ·right;rw[List.lookup_cons,z];rfl
   ·rcases h with h | h
    ·rcases List.mem_cons.mp h with h | h
     ·cases h;exact absurd (beq_self_eq_true _) z
     ·exact .inl h
    ·right;rw[List.lookup_cons,Bool.eq_false_iff.mpr z];exact h
  ·rw[if_neg q];refine cellsFrom_has ?_;rcases h with h | h
   ·rcases List.mem_cons.mp h with h | h
    ·cases h;exact absurd rfl q
    ·exact .inl h
   ·exact .inr h
structure FnRec (c:Cfg) (f:Nat) (np:Nat) (sc:Scope) (body:List Stmt) (sm:SM):Prop where
 ex:∃ o fd ps,c.K.lookup (c.fa f)=some o/\o.data=.func fd/\fd.params=⟨[],ps,none,[],[],none,[]⟩/\fd.defaults=.none/\fd.scope=sc/\fd.body=.stmts body/\fd.closure=[]/\fd.globals=mainGlobals/\fd.builtins=builtinsNs/\
  (∃ cd oc vs t,fd.code=.ref cd/\c.K.lookup cd=some oc/\oc.data=.fields vs/\vs[1]? =some (.str fd.qualname t))/\np=ps.length/\(ps.map (·.arg)).Nodup/\
  ∀ i x,(ps.map (·.arg))[i]? =some x->sm.lookup x=some i/\(sc.names.lookup x=some .local\/sc.names.lookup x=some .cell)
 kind:sc.kind=.function
 co:sc.isCoroutine=false
 gen:sc.isGenerator=false
 nd:(sm.map (·.2)).Nodup
section
variable {c:Cfg} {A:Around} {l:List Env} {X Y D:Addr->Prop} {σ:St} {s:Shared} {sc:Scope} {sm:SM}
theorem fn_call {f np nl:Nat} {body:List Stmt} {q:Frame->M (Fl×Frame)} (hr:FnRec c f np sc body sm) (hroom:A.depth < recursionLimit) (hb:∀ env,TopOk c (A.deeper env) l sc sm env body q) {vs:List Value} {as:List AV} (W:Wd c A l D σ s) (hv:RvL c D s.heap vs as):
  Tri c A l NX D σ s (call (.ref (c.fa f)) vs) (RV c) (fun Q E σ=>as.length=np/\bnd (q (as.map some++List.replicate (nl - np) none)) (fun x=>ret (match x.1 with | .ret v=>v | _=>.none)) Q E σ):=by
 rintro Q E ⟨hlen,hp⟩;obtain⟨o,fd,ps,e1,e2,e3,e4,e5,e6,e7,e8,e9,⟨cd,oc,cvs,ct,k1,k2,k3,k4⟩,rfl,e10,e11⟩:=hr.ex;have C:=W.conc;have hvl:=hv.length;subst e5;have hkd:∀ x∈ps.map (·.arg),fd.scope.names.lookup x=some .local\/fd.scope.names.lookup x=some .cell:=fun x m=>by
  obtain⟨i,hi,q⟩:=List.getElem_of_mem m;exact (e11 i x (by rw[List.getElem?_eq_getElem hi,q])).2
 refine wpAny_call (codeAny_call_cells hroom (C.kin _ _ e1) e2 C.lim ⟨cd,oc,cvs,ct,k1,C.kin _ _ k2,k3,k4⟩ e6 (bind_plain e3 e4 (by omega) e10) e7 ?_ ?_ hr.co hr.gen hr.kind)
 ·intro x hx;rcases hkd x.1 (zip_keys hx) with h | h
  ·exact .inl h
  ·exact .inr ⟨h,cellsFrom_has (.inl (mem_of_lookup h))⟩
 intro s₁ hin;obtain⟨h',tk,rfl,hk⟩:=hin.done;generalize henv:callEnvC fd s.heap.objs.size (c.fa f)=env at hin ⊢;have nL:s.heap.get? s.heap.objs.size=none:=fresh_at _;have hloc:env.locals=s.heap.objs.size:=by rw[<- henv];rfl
 have hsc:env.scope=fd.scope:=by rw[<- henv];rfl
 have hfrm:env.frame=some s.heap.objs.size:=by rw[<- henv];rfl
 have ownNew:∀ a,own env a->s.heap.get? a=none:=by
  rintro a (h | ⟨x,h⟩)
  ·rw[h,hloc];exact nL
  ·have h1:=hin.above x a (mem_of_lookup h);rw[hloc] at h1;cases q:s.heap.get? a with
   | none=>rfl
   | some ob=>exact absurd (Heap.lt_size q) (Nat.not_lt.mpr (Nat.le_of_lt h1))
 have r0:Rel c (own env) (Yof (env::l)) D σ s D σ {s with heap:=h',toks:=tk}:=.grow C hk rfl rfl;have ownFree:∀ a,own env a->σ a=none/\¬ D a:=fun a o=>⟨C.free (ownNew a o),fun d=>by have:=(C.froz a d).2;rw[ownNew a o] at this;cases this⟩;obtain⟨oL,esL,epL,hoL,hdL,hrL⟩:=hin.toInCall.ns;have W₁:Wd c (A.deeper env) (env::l) D σ {s with heap:=h',toks:=tk}:=by
  refine⟨r0.conc,W.hh,by show A.frames.map _=_;rw[W.fr];rfl,fun e' m=>?_⟩;rcases List.mem_cons.mp m with rfl | m
  ·obtain⟨f1,f2⟩:=ownFree e'.locals (.inl rfl);refine⟨by rw[hsc,hr.kind];simp,e'.locals,oL,by rw[hfrm,hloc],hoL,(fun ws z=>by rw[hdL] at z;cases z),f1,f2⟩
  ·obtain⟨h1,L,o',h2,h3,h4,h5,h6⟩:=W.frames e' m;exact⟨h1,L,o',h2,hk _ _ h3,h4,h5,h6⟩
 have hkind:∀ x,env.kindOf x=fd.scope.names.lookup x:=fun x=>by unfold Env.kindOf;rw[hsc]
 have eS:EnvS fd.scope sm env D σ h':=by
  refine⟨hsc,hr.kind,by rw[<- henv];exact e8,by rw[<- henv];exact e9,⟨_,hfrm⟩,hr.nd,fun x y cc h1 h2=>name_of_addr hin.apart (mem_of_lookup h1) (mem_of_lookup h2),fun x cc h=>?_,fun a o=>?_⟩
  ·exact Nat.ne_of_gt (hin.above x cc (mem_of_lookup h))
  ·obtain⟨f1,f2⟩:=ownFree a o;refine⟨f1,f2,?_⟩;rcases o with o | ⟨x,o⟩
   ·rw[o];rw[show h'.get? env.locals=some oL from hoL];rfl
   ·obtain⟨oc,q,_⟩:=hin.cell x a o;rw[show h'.get? a=some oc from q];rfl
 have param:∀ x i a,sm.lookup x=some i->(as.map some++List.replicate (nl - ps.length) (none:Option AV))[i]? =some (some a)->∃ v,(ps.map (·.arg))[i]? =some x/\vs[i]? =some v/\Rv c D h' v a:=by
  intro x i a hx ha;have hi:i < as.length:=by
   rw[List.getElem?_append] at ha;split at ha
   ·rename_i z;simpa using z
   ·rw[List.getElem?_replicate] at ha;split at ha<;>cases ha
  rw[List.getElem?_append_left (by simpa using hi),List.getElem?_map] at ha;obtain⟨b,hb,hb'⟩:=Option.map_eq_some_iff.mp ha;cases hb';obtain⟨v,g1,g2⟩:=hv.get hb;have hps:i < (ps.map (·.arg)).length:=by rw[List.length_map];omega
  have hxi:(ps.map (·.arg))[i]? =some (ps.map (·.arg))[i]:=List.getElem?_eq_getElem hps;have:=sm_inj hr.nd x _ i hx (e11 i _ hxi).1;exact⟨v,by rw[hxi,this],g1,g2.mono r0.fz⟩
 have eV:EnvV c fd.scope sm env (as.map some++List.replicate (nl - ps.length) none) D h':=by
  refine⟨⟨_,hin.toInCall.ns,fun x i a hx hl ha=>?_⟩,fun x hc=>?_,fun i a ha=>?_⟩
  ·obtain⟨v,g1,g2,g3⟩:=param x i a hx ha;exact⟨v,(bind_get (m':=fun _=>none) e10 g1 g2).1 (by rw[hkind];exact hl),g3⟩
  ·have hcs:(env.cells.lookup x).isSome=true:=by rw[<- henv];exact cellsFrom_has (.inl (mem_of_lookup hc))
   obtain⟨cc,hcc⟩:=Option.isSome_iff_exists.mp hcs;refine⟨cc,_,hcc,hin.cell x cc hcc,fun i a hx ha=>?_⟩;obtain⟨v,g1,g2,g3⟩:=param x i a hx ha;exact⟨v,(bind_get (m:=fun _=>none) e10 g1 g2).2 (by rw[hkind,hc];simp),g3⟩
  ·have hi:i < ps.length:=by
    rw[List.getElem?_append] at ha;split at ha
    ·rename_i z;rw[List.length_map] at z;omega
    ·rw[List.getElem?_replicate] at ha;split at ha<;>cases ha
   have hps:i < (ps.map (·.arg)).length:=by rw[List.length_map];exact hi
   have:=(e11 i _ (List.getElem?_eq_getElem hps)).1;exact List.mem_map.mpr ⟨_,mem_of_lookup this,rfl⟩
 have outR:∀ {D' σ' s'},Rel c (own env) (Yof (env::l)) D σ {s with heap:=h',toks:=tk} D' σ' s'->Rel c NX (Yof l) D σ s D' σ' s':=fun r=>by
  refine ((r0.trans C r).weaken fun a o q z=>?_).weakenY (fun a o q z=>?_) fun a ⟨e',m,q⟩=>⟨e',.tail _ m,q⟩
  ·rw[ownNew a z] at q;cases q
  ·obtain⟨e',m,z⟩:=z;rcases List.mem_cons.mp m with rfl | m
   ·rw[hfrm] at z;cases z;rw[nL] at q;cases q
   ·exact⟨e',m,z⟩
 refine wpAny_mono (hb env D σ _ D σ _ _ W₁ (.refl r0.conc) eS eV _ E hp) ?_ ?_
 ·rintro fl s' ⟨D',σ',x,r,⟨_,hfl⟩,hq⟩;refine⟨D',σ',_,outR r,?_,hq⟩;obtain⟨x1,x2⟩:=x;cases fl<;>cases x1<;>first | exact hfl.elim | exact .none | exact hfl
 ·intro w s' h;refine wpAny_mono h ?_ fun _ _ z=>z.elim;rintro _ s'' ⟨D',σ',r,hx,hE⟩;exact⟨D',σ',outR r,hx.back r0.there,hE⟩
end
def fakeEnv (sc:Scope):Env:={scope:=sc,locals:=0,globals:=0,cells:=[]}
def pureFalse:Sem Bool->Bool
 | .pure false=>true
 | _=>false
def pureTrue:Sem Bool->Bool
 | .pure true=>true
 | _=>false
def pureNone:Sem (Option (List Str))->Bool
 | .pure none=>true
 | _=>false
def pureSome:Sem (Option (List Str))->Option (List Str)
 | .pure (some l)=>some l
 | _=>none
theorem pureFalse_spec {t:Sem Bool} (h:pureFalse t=true):t=pure false:=by
 unfold pureFalse at h;split at h
 ·rfl
 ·cases h
theorem pureTrue_spec {t:Sem Bool} (h:pureTrue t=true):t=pure true:=by
 unfold pureTrue at h;split at h
 ·rfl
 ·cases h
theorem pureNone_spec {t:Sem (Option (List Str))} (h:pureNone t=true):t=pure none:=by
 unfold pureNone at h;split at h
 ·rfl
 ·cases h
theorem pureSome_spec {t:Sem (Option (List Str))} {l:List Str} (h:pureSome t=some l):t=pure (some l):=by
 unfold pureSome at h;split at h
 ·cases h;rfl
 ·cases h
theorem swaps_env {x:Expr} {t:Option Expr} {n:Nat} {env:Env} {sc:Scope} (h:env.scope=sc):swapsWith x t n env=swapsWith x t n (fakeEnv sc):=by
 subst h;rfl
theorem stores_env {ts:List Expr} {x:Expr} {env:Env} {sc:Scope} (h:env.scope=sc):swappedStores ts x env=swappedStores ts x (fakeEnv sc):=by
 subst h;rfl
def allLoc:List PT->Option (List Nat)
 | []=>some []
 | .loc i::r=>(allLoc r).map (i::·)
 | _=>none
mutual
def quietS:PS->Bool
 | .expr _=>true
 | .ite _ t e=>quietSs t&&quietSs e
 | _=>false
def quietSs:PSs->Bool
 | .nil=>true
 | .cons s r=>quietS s&&quietSs r
end
variable (T:Tab) (tf:Str)
def chkT (sc:Scope) (sm:SM):PT->Expr->Bool
 | .loc i,.Name x _=>nameOk sc sm x i
 | .sub a b,.Subscript x y _=>notSlice y&&chkE T a sc sm x&&chkE T b sc sm y
 | _,_=>false
def chkTs (sc:Scope) (sm:SM):List PT->List Expr->Bool
 | [],[]=>true
 | t::ts,e::es=>notStar e&&chkT T sc sm t e&&chkTs sc sm ts es
 | _,_=>false
def isComp:PE->Bool
 | .comp ..=>true
 | .comp2 ..=>true
 | _=>false
def chkAsg (sc:Scope) (sm:SM) (t:PT) (e:PE) (tg x:Expr) (n:Nat):Bool:=
 (pureFalse (swapsWith x (some tg) n (fakeEnv sc))&&pureNone (swappedStores [tg] x (fakeEnv sc))&&notStar tg&&chkT T sc sm t tg&&chkE T e sc sm x)||
 (match t,tg with
  | .loc i,.Name y _=>pureTrue (swapsWith x (some tg) n (fakeEnv sc))&&nameOk sc sm y i&&isComp e&&chkE T e sc sm x
  | _,_=>false)
def chkAsgs (sc:Scope) (sm:SM) (ts:List PT) (e:PE) (es:List Expr) (tg x:Expr) (n:Nat):Bool:=
 pureFalse (swapsWith x (some tg) n (fakeEnv sc))&&chkE T e sc sm x&&
 ((pureNone (swappedStores [tg] x (fakeEnv sc))&&chkTs T sc sm ts es)||
  (match pureSome (swappedStores [tg] x (fakeEnv sc)),allLoc ts with
   | some xs,some is=>decide (xs.length=is.length)&&(xs.zip is).all (fun p=>nameOk sc sm p.1 p.2)&&noDup is
   | _,_=>false))
mutual
def chkS:PS->Scope->SM->Stmt->Bool
 | .expr e,sc,sm,st=>match st with | .Expr x _=>notComp x&&chkE T e sc sm x | _=>false
 | .ret e,sc,sm,st=>match st with | .Return (some x) _=>chkE T e sc sm x | _=>false
 | .asg t e,sc,sm,st=>match st with | .Assign [tg] x p=>chkAsg T sc sm t e tg x p.line | _=>false
 | .asgs ts e,sc,sm,st=>match st with | .Assign [.Tuple es k tp] x p=>chkAsgs T sc sm ts e es (.Tuple es k tp) x p.line | _=>false
 | .setattr _ _ e,_,_,_=>match e with | .andor _ .nil=>true | _=>false
 | .ite c t e,sc,sm,st=>match st with | .If x b o _=>chkE T c sc sm x&&chkSs t sc sm b&&chkSs e sc sm o | _=>false
 | .whil c b,sc,sm,st=>match st with | .While x body [] _=>chkE T c sc sm x&&chkSs b sc sm body | _=>false
 | .whilE _ _,_,_,_=>false
 | .for_ t it b,sc,sm,st=>match st with | .For tg iter body [] _=>notSet iter&&tgtOk sc sm tg t&&chkIt T it sc sm tg iter&&chkSs b sc sm body | _=>false
 | .raise_ e,sc,sm,st=>match st with | .Raise (some (.Call (.Name y _) [x] [] _)) none _=>y==tf&&isG sc y&&notStar x&&chkE T e sc sm x | _=>false
 | .try_ b h,sc,sm,st=>match st with
  | .Try body [.ExceptHandler (some (.Name y _)) none [.Return (some (.Constant (.bool true) _ _)) _] _] [] [] _=>y==tf&&isG sc y&&quietSs b&&chkSs b sc sm body&&(match h with | .cons (.ret (.bool true)) .nil=>true | _=>false)
  | _=>false
 | .brk,_,_,st=>match st with | .Break _=>true | _=>false
def chkSs:PSs->Scope->SM->List Stmt->Bool
 | .nil,_,_,sts=>sts.isEmpty
 | .cons s r,sc,sm,sts=>match sts with | st::sts=>chkS s sc sm st&&chkSs r sc sm sts | []=>false
end
def chkTop:PSs->Scope->SM->List Stmt->Bool
 | .nil,_,_,sts=>sts.isEmpty
 | .cons (.whilE c b) r,sc,sm,sts=>match sts with | .While x body [] _::sts=>chkE T c sc sm x&&chkSs T tf b sc sm body&&chkTop r sc sm sts | _=>false
 | .cons s r,sc,sm,sts=>match sts with | st::sts=>chkS T tf s sc sm st&&chkTop r sc sm sts | []=>false
abbrev RQ (ρ:Frame):(Addr->Prop)->Heap->Flow->Fl×Frame->Prop:=fun _ _ f x=>f=.next/\x=(.next,ρ)
def QOk (c:Cfg) (A:Around) (l:List Env) (sc:Scope) (sm:SM) (env:Env) (sts:List Stmt) (p:Frame->M (Fl×Frame)):Prop:=
 ∀ (D:Addr->Prop) (σ:St) (s:Shared) (ρ:Frame),Wd c A l D σ s->EnvS sc sm env D σ s.heap->EnvV c sc sm env ρ D s.heap->Tri c A l NX D σ s (execs sts env) (RQ ρ) (p ρ)
def HR (c:Cfg) (A:Around) (l:List Env) (tf:Str):Prop:=∀ (sc:Scope) (sm:SM) (env:Env) (px cp pos:Pos) (x:Expr) (p:Frame->MB),isG sc tf=true->notStar x=true->EvOk c A l sc sm env x p->
 StOk c A l sc sm env (.Raise (some (.Call (.Name tf px) [x] [] cp)) none pos) fun ρ=>bnd (p ρ).1 fun v=>fun _ E σ=>(∃ s,v=.str s)/\E σ
def HT (c:Cfg) (A:Around) (l:List Env) (env:Env) (tf:Str):Prop:=∀ (sc:Scope) (sm:SM) (px cp hp rp pos:Pos) (k:Nat) (body:List Stmt) (q:Frame->M (Fl×Frame)),isG sc tf=true->QOk c A l sc sm env body q->
 StOk c A l sc sm env (.Try body [.ExceptHandler (some (.Name tf px)) none [.Return (some (.Constant (.bool true) k cp)) rp] hp] [] [] pos) fun ρ=>fun Q E σ=>q ρ Q (fun σ'=>Q (.ret (.bool true),ρ) σ') σ
section
variable {c:Cfg} {A:Around} {l:List Env} {sc:Scope} {sm:SM} {env:Env}
theorem StOk.eq {x:Stmt} {p q:Frame->M (Fl×Frame)} (h:StOk c A l sc sm env x p) (e:∀ ρ,p ρ=q ρ):StOk c A l sc sm env x q:=(funext e:p=q) ▸ h
theorem StsOk.eq {x:List Stmt} {p q:Frame->M (Fl×Frame)} (h:StsOk c A l sc sm env x p) (e:∀ ρ,p ρ=q ρ):StsOk c A l sc sm env x q:=(funext e:p=q) ▸ h
theorem TopOk.eq {x:List Stmt} {p q:Frame->M (Fl×Frame)} (h:TopOk c A l sc sm env x p) (e:∀ ρ,p ρ=q ρ):TopOk c A l sc sm env x q:=(funext e:p=q) ▸ h
theorem asg_ok' {x t:Expr} {p:Frame->MB} {q:Frame->AV->M Frame} {pos:Pos} (hs:swapsWith x (some t) pos.line (fakeEnv sc)=pure false) (hw:swappedStores [t] x (fakeEnv sc)=pure none) (hns:notStar t=true) (hx:EvOk c A l sc sm env x p) (ht:TgOk c A l sc sm env t q):
  StOk c A l sc sm env (.Assign [t] x pos) fun ρ=>bnd (p ρ).1 fun v=>bnd (q ρ v) fun ρ'=>ret (.next,ρ'):=fun D σ s ρ W e V=>
 asg_ok ((swaps_env e.scope).trans hs) ((stores_env e.scope).trans hw) hns hx ht D σ s ρ W e V
theorem asgs_ok' {x:Expr} {ts:List Expr} {k:Nat} {p:Frame->MB} {ps:List (Frame->AV->M Frame)} {tp pos:Pos} (hs:swapsWith x (some (.Tuple ts k tp)) pos.line (fakeEnv sc)=pure false) (hw:swappedStores [.Tuple ts k tp] x (fakeEnv sc)=pure none) (hx:EvOk c A l sc sm env x p) (ht:AllTg c A l sc sm env ts ps):
  StOk c A l sc sm env (.Assign [.Tuple ts k tp] x pos) fun ρ=>bnd (p ρ).1 fun v=>match v with | .tup vs=>req (ps.length=vs.length) (bnd (putL ps vs ρ) fun ρ'=>ret (.next,ρ')) | _=>no:=fun D σ s ρ W e V=>
 asgs_ok ((swaps_env e.scope).trans hs) ((stores_env e.scope).trans hw) hx ht D σ s ρ W e V
theorem swap_ok' {x:Expr} {ts:List Expr} {k:Nat} {p:Frame->MB} {is:List Nat} {xs:List Str} {tp pos:Pos} (hs:swapsWith x (some (.Tuple ts k tp)) pos.line (fakeEnv sc)=pure false) (hw:swappedStores [.Tuple ts k tp] x (fakeEnv sc)=pure (some xs)) (hx:EvOk c A l sc sm env x p)
  (hlen:xs.length=is.length) (hok:∀ q∈xs.zip is,nameOk sc sm q.1 q.2=true) (hnd:is.Nodup):
  StOk c A l sc sm env (.Assign [.Tuple ts k tp] x pos) fun ρ=>bnd (p ρ).1 fun v=>match v with | .tup vs=>req (is.length=vs.length) (ret (.next,setsOf ρ (is.zip vs))) | _=>no:=fun D σ s ρ W e V=>
 swap_ok ((swaps_env e.scope).trans hs) ((stores_env e.scope).trans hw) hx hlen hok hnd D σ s ρ W e V
end
section
variable (F N:Nat->List AV->M AV) (G:Nat->Option AV)
def tgOf:List PT->List (Frame->AV->M Frame)
 | []=>[]
 | t::ts=>(fun ρ v=>putT F N G ρ v t)::tgOf ts
theorem tgOf_length:∀ (ts:List PT),(tgOf F N G ts).length=ts.length
 | []=>rfl
 | _::ts=>congrArg (· +1) (tgOf_length ts)
theorem putTs_eq:∀ (ts:List PT) (vs:List AV) (ρ:Frame),putTs F N G ts vs ρ=putL (tgOf F N G ts) vs ρ
 | [],[],_=>rfl
 | [],_::_,_=>rfl
 | _::_,[],_=>rfl
 | t::ts,v::vs,ρ=>by
  show bnd (putT F N G ρ v t) (fun ρ'=>putTs F N G ts vs ρ')=bnd (putT F N G ρ v t) fun ρ'=>putL (tgOf F N G ts) vs ρ';congr 1;funext ρ';exact putTs_eq ts vs ρ'
theorem putTs_loc:∀ (ts:List PT) (is:List Nat) (vs:List AV) (ρ:Frame),allLoc ts=some is->is.length=vs.length->putTs F N G ts vs ρ=ret (setsOf ρ (is.zip vs))
 | [],_,vs,ρ,h,hl=>by
  cases h;cases vs with
  | nil=>rfl
  | cons _ _=>cases hl
 | .loc i::ts,is,vs,ρ,h,hl=>by
  unfold allLoc at h;rw[Option.map_eq_some_iff] at h;obtain⟨js,h,rfl⟩:=h;cases vs with
  | nil=>cases hl
  | cons v vs=>
   show bnd (ret (ρ.set i (some v))) (fun ρ'=>putTs F N G ts vs ρ')=ret (setsOf (ρ.set i (some v)) (js.zip vs));rw[<- putTs_loc ts js vs (ρ.set i (some v)) h (by simpa using hl)];rfl
 | .sub _ _::_,_,_,_,h,_=>by cases h
end
variable {c:Cfg} {A:Around} {l:List Env} {T:Tab} {tf:Str} {F N:Nat->List AV->M AV}
theorem tgE (gt:GoodT c T) (hu:A.units+100 < cLine) (hf:HF c A l F T) (hn:HN c A l N T) {sc:Scope} {sm:SM} {env:Env}:∀ {t:PT} {e:Expr},chkT T sc sm t e=true->TgOk c A l sc sm env e fun ρ v=>putT F N c.G ρ v t:=by
 intro t e h;unfold chkT at h;split at h
 ·exact tname_ok h
 ·simp only[Bool.and_eq_true] at h;exact tsub_ok h.1.1 (evE gt hu hf hn _ sc sm env _ h.1.2) (evE gt hu hf hn _ sc sm env _ h.2)
 ·cases h
theorem tgsE (gt:GoodT c T) (hu:A.units+100 < cLine) (hf:HF c A l F T) (hn:HN c A l N T) {sc:Scope} {sm:SM} {env:Env}:∀ {ts:List PT} {es:List Expr},chkTs T sc sm ts es=true->AllTg c A l sc sm env es (tgOf F N c.G ts)
 | [],[],_=>.nil
 | t::ts,e::es,h=>by
  unfold chkTs at h;simp only[Bool.and_eq_true] at h;exact .cons h.1.1 (tgE gt hu hf hn h.1.2) (tgsE gt hu hf hn h.2)
 | [],_::_,h=>by cases h
 | _::_,[],h=>by cases h
theorem useE (gt:GoodT c T) (hu:A.units+100 < cLine) (hf:HF c A l F T) (hn:HN c A l N T) {sc:Scope} {sm:SM} {env:Env} {pe:PE} {x:Expr} {y:Str} {i:Nat} {px pos:Pos} (hc:isComp pe=true) (h:chkE T pe sc sm x=true) (hs:swapsWith x (some (.Name y px)) pos.line (fakeEnv sc)=pure true) (hi:nameOk sc sm y i=true):
  StOk c A l sc sm env (.Assign [.Name y px] x pos) fun ρ=>bnd (ev F N c.G pe ρ).1 fun v=>bnd (ret (ρ.set i (some v))) fun ρ'=>ret (.next,ρ'):=by
 cases pe<;>first | cases hc | skip
 case comp elt t it ifs=>
  unfold chkE at h;split at h
  ·simp only[Bool.and_eq_true] at h;obtain⟨⟨⟨⟨⟨⟨h1,h2⟩,h3⟩,h4⟩,h5⟩,h6⟩,h7⟩:=h;intro D σ s ρ W e V;have key:=(use_ok (LM:=fun ρ I=>forM I.ok (fun _=>ret false) (compF t ρ (tsL true (psOf F N c.G ifs)) fun ρ'=>(ev F N c.G elt ρ').1) I.items []) ((swaps_env e.scope).trans hs) hi (compOk_spec h1) h2 rfl (evI gt hu hf hn it sc sm env _ _ h3) fun D σ s ρ cenv acc I O J S R D1 σ1 s1 Q' hnew F' IT X hS hl hR=>
    comp_loop F' (fun it acc=>turn_one ..) h4 (tgtLoc_spec h5) hnew (evEs gt hu hf hn ifs _ _ cenv _ h6) (evE gt hu hf hn elt _ _ cenv _ h7) IT X hS hl hR) D σ s ρ W e V
   have z:evTs F N c.G true ifs=tsL true (psOf F N c.G ifs):=funext fun ρ=>evTs_eq F N c.G true ifs ρ;show Tri c A l (own env) D σ s _ _ (bnd (ev F N c.G (.comp elt t it ifs) ρ).1 fun v=>bnd (ret (ρ.set i (some v))) fun ρ'=>ret (Fl.next,ρ'));rw[ev,z];exact key
  ·cases h
 case comp2 elt t it t2 it2 ifs=>
  unfold chkE at h;split at h
  ·simp only[Bool.and_eq_true] at h;obtain⟨⟨⟨⟨⟨⟨⟨⟨⟨⟨⟨h1,h2⟩,h3⟩,h4⟩,h5⟩,h6⟩,h7⟩,h8⟩,h9⟩,h10⟩,h11⟩,h12⟩:=h;have hd:∀ j∈t2,j∉t:=fun j m q=>by
    have:=List.all_eq_true.mp h5 j m;rw[List.contains_iff_mem.mpr q] at this;cases this
   intro D σ s ρ W e V;have key:=(use_ok (LM:=fun ρ I=>forM I.ok (fun _=>ret false) (comp2F t ρ (fun ρ=>evIt F N c.G it2 ρ) t2 (tsL true (psOf F N c.G ifs)) fun ρ'=>(ev F N c.G elt ρ').1) I.items []) ((swaps_env e.scope).trans hs) hi (compOk_spec h1) h2 rfl (evI gt hu hf hn it sc sm env _ _ h4) fun D σ s ρ cenv acc I O J S R D1 σ1 s1 Q' hnew F' IT X hS hl hR=>
    comp2_loop F' h3 h6 (tgtLoc_spec h7) (fun j m=>hnew j (List.mem_append_left _ m)) (evI gt hu hf hn it2 _ _ cenv _ _ h10) h8 (tgtLoc_spec h9) (fun j m=>hnew j (List.mem_append_right _ m)) hd (evEs gt hu hf hn ifs _ _ cenv _ h11) (evE gt hu hf hn elt _ _ cenv _ h12) IT X hS hl hR) D σ s ρ W e V
   have z:evTs F N c.G true ifs=tsL true (psOf F N c.G ifs):=funext fun ρ=>evTs_eq F N c.G true ifs ρ;show Tri c A l (own env) D σ s _ _ (bnd (ev F N c.G (.comp2 elt t it t2 it2 ifs) ρ).1 fun v=>bnd (ret (ρ.set i (some v))) fun ρ'=>ret (Fl.next,ρ'));rw[ev,z];exact key
  ·cases h
theorem allLoc_length:∀ {ts:List PT} {is:List Nat},allLoc ts=some is->is.length=ts.length
 | [],_,h=>by cases h;rfl
 | .loc i::ts,is,h=>by
  unfold allLoc at h;rw[Option.map_eq_some_iff] at h;obtain⟨js,h,rfl⟩:=h;exact congrArg (· +1) (allLoc_length h)
 | .sub _ _::_,_,h=>by cases h
mutual
theorem quE (gt:GoodT c T) (hu:A.units+100 < cLine) (hf:HF c A l F T) (hn:HN c A l N T):∀ (ps:PS) (sc:Scope) (sm:SM) (env:Env) (st:Stmt),quietS ps=true->chkS T tf ps sc sm st=true->∀ (D:Addr->Prop) (σ:St) (s:Shared) (ρ:Frame),Wd c A l D σ s->EnvS sc sm env D σ s.heap->EnvV c sc sm env ρ D s.heap->
  Tri c A l NX D σ s (exec st env) (RQ ρ) (evS F N c.G ps ρ)
 | .expr e,sc,sm,env,st,hq,h,D,σ,s,ρ,W,eS,V=>by
  unfold chkS at h;split at h
  ·rename_i x pos;simp only[Bool.and_eq_true] at h;rw[evS,exec_Expr env x pos (inter_no eS) (noSwap h.1)];refine Tri.standAt (Tri.bind W (evE gt hu hf hn e sc sm env _ h.2 D σ s ρ W eS V).1 fun D1 σ1 s1 v a r1 W1 hv=>?_);intro Q E hp;exact wpAny_dropValue ⟨D1,σ1,(.next,ρ),.refl W1.conc,⟨rfl,rfl⟩,hp⟩
  ·cases h
 | .ite cc t e,sc,sm,env,st,hq,h,D,σ,s,ρ,W,eS,V=>by
  unfold chkS at h;unfold quietS at hq;rw[Bool.and_eq_true] at hq;split at h
  ·simp only[Bool.and_eq_true] at h;rw[evS,arm_exec_If];refine Tri.standAt (Tri.bind W (evE gt hu hf hn cc sc sm env _ h.1.1 D σ s ρ W eS V).2 fun D1 σ1 s1 t' b r1 W1 hb=>?_);subst hb;cases t'
   ·exact qusE gt hu hf hn e sc sm env _ hq.2 h.2 D1 σ1 s1 ρ W1 (eS.rel r1) (V.relN eS r1)
   ·exact qusE gt hu hf hn t sc sm env _ hq.1 h.1.2 D1 σ1 s1 ρ W1 (eS.rel r1) (V.relN eS r1)
  ·cases h
 | .ret _,_,_,_,_,hq,_,_,_,_,_,_,_,_=>by cases hq
 | .asg _ _,_,_,_,_,hq,_,_,_,_,_,_,_,_=>by cases hq
 | .asgs _ _,_,_,_,_,hq,_,_,_,_,_,_,_,_=>by cases hq
 | .setattr _ _ _,_,_,_,_,hq,_,_,_,_,_,_,_,_=>by cases hq
 | .whil _ _,_,_,_,_,hq,_,_,_,_,_,_,_,_=>by cases hq
 | .whilE _ _,_,_,_,_,hq,_,_,_,_,_,_,_,_=>by cases hq
 | .for_ _ _ _,_,_,_,_,hq,_,_,_,_,_,_,_,_=>by cases hq
 | .raise_ _,_,_,_,_,hq,_,_,_,_,_,_,_,_=>by cases hq
 | .try_ _ _,_,_,_,_,hq,_,_,_,_,_,_,_,_=>by cases hq
 | .brk,_,_,_,_,hq,_,_,_,_,_,_,_,_=>by cases hq
theorem qusE (gt:GoodT c T) (hu:A.units+100 < cLine) (hf:HF c A l F T) (hn:HN c A l N T):∀ (ps:PSs) (sc:Scope) (sm:SM) (env:Env) (sts:List Stmt),quietSs ps=true->chkSs T tf ps sc sm sts=true->∀ (D:Addr->Prop) (σ:St) (s:Shared) (ρ:Frame),Wd c A l D σ s->EnvS sc sm env D σ s.heap->EnvV c sc sm env ρ D s.heap->
  Tri c A l NX D σ s (execs sts env) (RQ ρ) (evSs F N c.G ps ρ)
 | .nil,sc,sm,env,sts,hq,h,D,σ,s,ρ,W,eS,V=>by
  unfold chkSs at h;rw[List.isEmpty_iff.mp h,arm_execs_nil,evSs];exact Tri.pure W.conc ⟨rfl,rfl⟩
 | .cons st r,sc,sm,env,sts,hq,h,D,σ,s,ρ,W,eS,V=>by
  unfold chkSs at h;unfold quietSs at hq;rw[Bool.and_eq_true] at hq;split at h
  ·simp only[Bool.and_eq_true] at h;rw[arm_execs_cons,evSs];refine Tri.bind W (quE gt hu hf hn st sc sm env _ hq.1 h.1 D σ s ρ W eS V) fun D1 σ1 s1 f x r1 W1 hb=>?_;obtain⟨rfl,rfl⟩:=hb;exact qusE gt hu hf hn r sc sm env _ hq.2 h.2 D1 σ1 s1 ρ W1 (eS.rel r1) (V.relN eS r1)
  ·cases h
end
mutual
theorem stE (gt:GoodT c T) (hu:A.units+100 < cLine) (hf:HF c A l F T) (hn:HN c A l N T) (hr:HR c A l tf) {env:Env} (ht:HT c A l env tf):∀ (ps:PS) (sc:Scope) (sm:SM) (st:Stmt),chkS T tf ps sc sm st=true->StOk c A l sc sm env st fun ρ=>evS F N c.G ps ρ
 | .expr e,sc,sm,st,h=>by
  unfold chkS at h;split at h
  ·simp only[Bool.and_eq_true] at h;refine StOk.eq (expr_ok h.1 (evE gt hu hf hn e sc sm env _ h.2)) fun ρ=>?_;rw[evS]
  ·cases h
 | .ret e,sc,sm,st,h=>by
  unfold chkS at h;split at h
  ·refine StOk.eq (ret_ok (evE gt hu hf hn e sc sm env _ h)) fun ρ=>?_;rw[evS]
  ·cases h
 | .asg t e,sc,sm,st,h=>by
  unfold chkS at h;split at h
  ·unfold chkAsg at h;rw[Bool.or_eq_true] at h;rcases h with h | h
   ·simp only[Bool.and_eq_true] at h;obtain⟨⟨⟨⟨h1,h2⟩,h3⟩,h4⟩,h5⟩:=h;refine StOk.eq (asg_ok' (pureFalse_spec h1) (pureNone_spec h2) h3 (evE gt hu hf hn e sc sm env _ h5) (tgE gt hu hf hn h4)) fun ρ=>?_;rw[evS]
   ·split at h
    ·simp only[Bool.and_eq_true] at h;obtain⟨⟨⟨h1,h2⟩,h3⟩,h4⟩:=h;refine StOk.eq (useE gt hu hf hn h3 h4 (pureTrue_spec h1) h2) fun ρ=>?_;rw[evS];rfl
    ·cases h
  ·cases h
 | .asgs ts e,sc,sm,st,h=>by
  unfold chkS at h;split at h
  ·unfold chkAsgs at h;rw[Bool.and_eq_true,Bool.and_eq_true,Bool.or_eq_true] at h;obtain⟨⟨h1,h2⟩,h3⟩:=h;rcases h3 with h3 | h3
   ·rw[Bool.and_eq_true] at h3;refine StOk.eq (asgs_ok' (pureFalse_spec h1) (pureNone_spec h3.1) (evE gt hu hf hn e sc sm env _ h2) (tgsE gt hu hf hn h3.2)) fun ρ=>?_;rw[evS];congr 1;funext v;cases v<;>first | rfl | skip
    rename_i vs;simp only[tgOf_length,putTs_eq]
   ·split at h3
    ·rename_i xs is q1 q2;simp only[Bool.and_eq_true,decide_eq_true_eq,List.all_eq_true] at h3;obtain⟨⟨g1,g2⟩,g3⟩:=h3;refine StOk.eq (swap_ok' (pureFalse_spec h1) (pureSome_spec q1) (evE gt hu hf hn e sc sm env _ h2) g1 g2 (noDup_spec g3)) fun ρ=>?_;rw[evS];congr 1;funext v;cases v<;>first | rfl | skip
     rename_i vs;have hl:is.length=ts.length:=allLoc_length q2;funext Q E σ;refine propext ⟨fun ⟨a,b⟩=>⟨by rw[<- hl];exact a,?_⟩,fun ⟨a,b⟩=>⟨by rw[hl];exact a,?_⟩⟩
     ·rw[putTs_loc F N c.G ts is vs ρ q2 a];exact b
     ·rw[putTs_loc F N c.G ts is vs ρ q2 (by rw[hl];exact a)] at b;exact b
    ·cases h3
  ·cases h
 | .setattr a x e,_,_,_,h=>by
  unfold chkS at h;split at h
  ·intro D σ s ρ W e V Q E hp;rw[evS,ev,evAnd] at hp;exact hp.elim
  ·cases h
 | .ite cc t e,sc,sm,st,h=>by
  unfold chkS at h;split at h
  ·simp only[Bool.and_eq_true] at h;refine StOk.eq (if_ok (evE gt hu hf hn cc sc sm env _ h.1.1) (stsE gt hu hf hn hr ht t sc sm _ h.1.2) (stsE gt hu hf hn hr ht e sc sm _ h.2)) fun ρ=>?_;rw[evS]
  ·cases h
 | .whil cc b,sc,sm,st,h=>by
  unfold chkS at h;split at h
  ·simp only[Bool.and_eq_true] at h;refine StOk.eq (while_ok (evE gt hu hf hn cc sc sm env _ h.1) (stsE gt hu hf hn hr ht b sc sm _ h.2)) fun ρ=>?_;rw[evS]
  ·cases h
 | .whilE _ _,_,_,_,h=>by cases h
 | .for_ t it b,sc,sm,st,h=>by
  unfold chkS at h;split at h
  ·simp only[Bool.and_eq_true] at h;obtain⟨⟨⟨h1,h2⟩,h3⟩,h4⟩:=h;refine StOk.eq (for_ok h1 h2 (evI gt hu hf hn it sc sm env _ _ h3) (stsE gt hu hf hn hr ht b sc sm _ h4)) fun ρ=>?_;rw[evS]
  ·cases h
 | .raise_ e,sc,sm,st,h=>by
  unfold chkS at h;split at h
  ·simp only[Bool.and_eq_true,beq_iff_eq] at h;obtain⟨⟨⟨rfl,h1⟩,h2⟩,h3⟩:=h;refine StOk.eq (hr sc sm env _ _ _ _ _ h1 h2 (evE gt hu hf hn e sc sm env _ h3)) fun ρ=>?_;rw[evS]
  ·cases h
 | .try_ b hh,sc,sm,st,h=>by
  unfold chkS at h;split at h
  ·simp only[Bool.and_eq_true,beq_iff_eq] at h;obtain⟨⟨⟨⟨rfl,h1⟩,h2⟩,h3⟩,h4⟩:=h;split at h4
   ·refine StOk.eq (ht sc sm _ _ _ _ _ _ _ (fun ρ=>evSs F N c.G b ρ) h1 fun D σ s ρ W e V=>qusE gt hu hf hn b sc sm env _ h2 h3 D σ s ρ W e V) fun ρ=>?_;rw[evS];rfl
   ·cases h4
  ·cases h
 | .brk,sc,sm,st,h=>by
  unfold chkS at h;split at h
  ·refine StOk.eq brk_ok fun ρ=>?_;rw[evS]
  ·cases h
theorem stsE (gt:GoodT c T) (hu:A.units+100 < cLine) (hf:HF c A l F T) (hn:HN c A l N T) (hr:HR c A l tf) {env:Env} (ht:HT c A l env tf):∀ (ps:PSs) (sc:Scope) (sm:SM) (sts:List Stmt),chkSs T tf ps sc sm sts=true->StsOk c A l sc sm env sts fun ρ=>evSs F N c.G ps ρ
 | .nil,sc,sm,sts,h=>by
  unfold chkSs at h;rw[List.isEmpty_iff.mp h];refine StsOk.eq nils_ok fun ρ=>?_;rw[evSs]
 | .cons st r,sc,sm,sts,h=>by
  unfold chkSs at h;split at h
  ·simp only[Bool.and_eq_true] at h;refine StsOk.eq (conss_ok (stE gt hu hf hn hr ht st sc sm _ h.1) (stsE gt hu hf hn hr ht r sc sm _ h.2)) fun ρ=>?_;rw[evSs];try rfl
  ·cases h
end
theorem topE (gt:GoodT c T) {env:Env} (hu:A.units+100 < cLine) (hf:HF c A (env::l) F T) (hn:HN c A (env::l) N T) (hr:HR c A (env::l) tf) (ht:HT c A (env::l) env tf):∀ (ps:PSs) (sc:Scope) (sm:SM) (sts:List Stmt),chkTop T tf ps sc sm sts=true->TopOk c A l sc sm env sts fun ρ=>evSs F N c.G ps ρ
 | .nil,sc,sm,sts,h=>by
  unfold chkTop at h;rw[List.isEmpty_iff.mp h];refine TopOk.eq top_nil fun ρ=>?_;rw[evSs]
 | .cons st r,sc,sm,sts,h=>by
  by_cases hw:∃ cc b,st=.whilE cc b
  ·obtain⟨cc,b,rfl⟩:=hw;unfold chkTop at h;split at h
   ·simp only[Bool.and_eq_true] at h;refine TopOk.eq (top_while (evE gt hu hf hn cc sc sm env _ h.1.1) (stsE gt hu hf hn hr ht b sc sm _ h.1.2) (topE gt hu hf hn hr ht r sc sm _ h.2)) fun ρ=>?_;rw[evSs,evS];try rfl
   ·cases h
  ·cases sts with
   | nil=>cases st<;>first | (exfalso;exact absurd h (by simp [chkTop])) | exact absurd ⟨_,_,rfl⟩ hw
   | cons st' sts=>
    have h':(chkS T tf st sc sm st'&&chkTop T tf r sc sm sts)=true:=by
     cases st<;>first | (rw[chkTop] at h;exact h;done) | exact absurd ⟨_,_,rfl⟩ hw | simpa [chkTop] using h
    simp only[Bool.and_eq_true] at h';refine TopOk.eq (top_st (stE gt hu hf hn hr ht st sc sm _ h'.1) (topE gt hu hf hn hr ht r sc sm _ h'.2)) fun ρ=>?_;rw[evSs];try rfl
theorem bind_string {fd:FuncData} {p1 p2 p3:Pos} {ds:List Expr} {s:Shared} {Td:Addr} {o:Obj} {n:Nat} {x b:Value}
  (hp:fd.params=⟨[],[⟨"self",none,p1⟩,⟨"octets",none,p2⟩,⟨"is_hex",none,p3⟩],none,[],[],none,ds⟩) (hd:fd.defaults=.ref Td) (ho:s.heap.get? Td=some o) (hs:o.data=.seq #[.bool false] n):
  BindsTo s fd ⟨[x,b],[]⟩ [("self",x),("octets",b),("is_hex",.bool false)]:=by
 obtain⟨f1,f2,f3,f4,f5,f6,f7,f8,f9,f10,f11,f12,f13,f14,f15⟩:=fd;dsimp only at hp hd;subst hp;subst hd;intro M A E Q hq;show wpAny M A (seqItems? (.ref Td) >>=_) Q E s;refine wpAny_bind (wpAny_seqItems ho hs ?_);exact wpAny_pure hq
theorem bind_shelf {fd:FuncData} {p1 p2 p3:Pos} {ds:List Expr} {s:Shared} {Td:Addr} {o:Obj} {n:Nat} {x a b:Value}
  (hp:fd.params=⟨[],[⟨"self",none,p1⟩,⟨"table",none,p2⟩,⟨"trailer",none,p3⟩],none,[],[],none,ds⟩) (hd:fd.defaults=.ref Td) (ho:s.heap.get? Td=some o) (hs:o.data=.seq #[.none,.none] n):
  BindsTo s fd ⟨[x,a,b],[]⟩ [("self",x),("table",a),("trailer",b)]:=by
 obtain⟨f1,f2,f3,f4,f5,f6,f7,f8,f9,f10,f11,f12,f13,f14,f15⟩:=fd;dsimp only at hp hd;subst hp;subst hd;intro M A E Q hq;show wpAny M A (seqItems? (.ref Td) >>=_) Q E s;refine wpAny_bind (wpAny_seqItems ho hs ?_);exact wpAny_pure hq
inductive Ents:List DictEntry->List Nat->List Value->Prop where
 | nil:Ents [] [] []
 | cons {e t f v es fs vs}:e.key=.str (attrName f) t->e.val=v->Ents es fs vs->Ents (e::es) (f::fs) (v::vs)
theorem Ents.put {hsh:Int} {t:Tok} {v:Value} {f:Nat}:∀ {es fs vs},Ents es fs vs->(∀ g∈fs,attrName g≠attrName f)->Ents (PySem.W.putL (attrName f) hsh (.str (attrName f) t) v es) (fs++[f]) (vs++[v])
 | _,_,_,.nil,_=>.cons rfl rfl .nil
 | _,_,_,.cons (e:=e) (f:=g) hk hv r,h=>by
  unfold PySem.W.putL;have:e.key.isStr (attrName f)=false:=by
   rw[hk];show (attrName g==attrName f)=false;exact beq_eq_false_iff_ne.mpr (h g (.head _))
  rw[this];simp only[Bool.false_eq_true,if_false];exact .cons hk hv (r.put fun g' m=>h g' (.tail _ m))
theorem Ents.length:∀ {es fs vs},Ents es fs vs->es.length=fs.length
 | _,_,_,.nil=>rfl
 | _,_,_,.cons _ _ r=>congrArg (· +1) r.length
theorem Ents.look {x:Str} {n:Nat}:∀ {es fs vs},Ents es fs vs->(lookIn x (dictOf es n)).isSome=true:=by
 intro es fs vs h;have hr:es.any (·.refKey)=false:=by
  induction h with
  | nil=>rfl
  | cons hk _ _ ih=>rw[List.any_cons,ih];unfold DictEntry.refKey;rw[hk];rfl
 unfold lookIn dictOf;dsimp only;split
 ·rfl
 ·rw[hr];rfl
theorem Ents.rv {c:Cfg} {D:Addr->Prop} {h:Heap}:∀ {es fs vs as},Ents es fs vs->RvL c D h vs as->RvE c D h es fs as
 | _,_,_,_,.nil,.nil=>.nil
 | _,_,_,_,.cons hk hv r,.cons r1 r2=>.cons hk (by rw[hv];exact r1) (r.rv r2)
def initLine (orNew:Bool) (f:Nat) (st:Stmt):Bool:=match st with
 | .Assign [.Attribute (.Name s0 _) x _] v _=>s0==("self":Str)&&x==attrName f&&(match orNew,v with
  | false,.Name y _=>y==attrName f
  | true,.IfExp (.Compare (.Name y _) [.Is] [.Constant .none _ _] _) (.Dict [] [] _) (.Name z _) _=>y==attrName f&&z==attrName f
  | _,_=>false)
 | _=>false
def initLines (orNew:Bool):List Nat->List Stmt->Bool
 | [],[]=>true
 | f::fs,st::sts=>initLine orNew f st&&initLines orNew fs sts
 | _,_=>false
structure ClsRec (K:Frag) (C:Addr) (k:Nat):Prop where
 makes:makesIn K C=true
 plain:plainOver K C=true
 dict:(clsIn K C).any (·.hasDict)=true
 setA:findIn K (.ref C) "__setattr__"=some (some (.builtin "object.__setattr__"))
 taker:∀ f∈fieldsOf k,takerIn K C (attrName f)=some none
section
variable {prog:Program} {w:World} {A:Around} {K:Frag} {C x dx L:Addr} {h₀:Heap} {m:Str->Option Value} {env:Env} {E:Value->Shared->Prop}
theorem set_one {k f n:Nat} {es:List DictEntry} {fs:List Nat} {vs:List Value} {v:Value} {s:Shared} {Q:Unit->Shared->Prop} (R:ClsRec K C k) (hf:f∈fieldsOf k) (F:Fr h₀ L s.heap m) (X:K.In s.heap) (N:News h₀ L s.heap [(dx,dictOf es n),(x,instObj C dx)]) (hne:x≠dx) (hE:Ents es fs vs) (hnew:∀ g∈fs,attrName g≠attrName f) (hsz:fs.length<=100)
  (hX:∀ h',(∀ b o,h₀.get? b=some o->h'.get? b=some o)->K.In h')
  (h:∀ h' es' n' tk,Fr h₀ L h' m->News h₀ L h' [(dx,dictOf es' n'),(x,instObj C dx)]->Ents es' (fs++[f]) (vs++[v])->Q () {s with heap:=h',toks:=tk}):wpAny (model prog w) A (setAttr (.ref x) (attrName f) v) Q E s:=by
 have e1:=(N _ (.head _)).1;have e2:=(N _ (.tail _ (.head _))).1;have I:PySem.W.InstAt s.heap x (instObj C dx) C (some (dictOf es n)):=instAt_of e2 e1;refine set_plain X I R.setA ?_;have hl:=hE.length;have hp:Ents (PySem.W.putL (attrName f) (PyData.keyHash w.params (attrName f)) (.str (attrName f) (s.toks+1)) v es) (fs++[f]) (vs++[v]):=hE.put hnew;have hl2:=hp.length;rw[List.length_append] at hl2;refine osa_dict (pre:=[]) (post:=[(x,instObj C dx)]) (od:=dictOf es n) (od':=dictOf (PySem.W.putL (attrName f) (PyData.keyHash w.params (attrName f)) (.str (attrName f) (s.toks+1)) v es) (putN (attrName f) es n)) (s:={s with toks:=s.toks+1}) F N X I rfl R.plain (R.taker f hf) R.dict hE.look
  (fun p hp=>by cases hp) (fun p hp=>by rw[List.mem_singleton.mp hp];exact hne) (putName_dict ..) rfl (by simp at hl2;omega) fun h' F' N'=>?_
 exact h h' _ _ _ F' N' hp
theorem init_run {k:Nat} {orNew:Bool} (R:ClsRec K C k) (hX:∀ h',(∀ b o,h₀.get? b=some o->h'.get? b=some o)->K.In h') (hk:env.scope.kind=.function) (hL:env.locals=L) (hself:env.kindOf ("self":Str)=some .local) (hms:m "self"=some (.ref x)) (hne:x≠dx):
  ∀ (fs':List Nat) (sts:List Stmt) (vs':List Value) (fs:List Nat) (vs:List Value) (es:List DictEntry) (n:Nat) (s:Shared) (Q:Flow->Shared->Prop),initLines orNew fs' sts=true->(∀ f∈fs',f∈fieldsOf k/\env.kindOf (attrName f)=some .local/\(attrName f==("__debug__":Str))=false)->
   fs'.length=vs'.length->(∀ (i f:Nat) (v:Value),fs'[i]? =some f->vs'[i]? =some v->m (attrName f)=some v/\(orNew=true->(v==.none)=false))->((fs++fs').map attrName).Nodup->(fs++fs').length<=100->Fr h₀ L s.heap m->News h₀ L s.heap [(dx,dictOf es n),(x,instObj C dx)]->Ents es fs vs->
   (∀ h' es' n' tk,Fr h₀ L h' m->News h₀ L h' [(dx,dictOf es' n'),(x,instObj C dx)]->Ents es' (fs++fs') (vs++vs')->Q .next {s with heap:=h',toks:=tk})->wpAny (model prog w) A (execs sts env) Q E s
 | [],[],[],fs,vs,es,n,s,Q,_,_,_,_,_,_,F,N,hE,h=>by
  rw[arm_execs_nil];have:=h s.heap es n s.toks F N (by rw[List.append_nil,List.append_nil];exact hE);exact wpAny_pure this
 | f::fs',st::sts,v::vs',fs,vs,es,n,s,Q,hl,hf,hlen,hm,hnd,hsz,F,N,hE,h=>by
  unfold initLines at hl;rw[Bool.and_eq_true] at hl;obtain⟨h1,h2⟩:=hl;obtain⟨g1,g2,g3⟩:=hf f (.head _);obtain⟨hmv,horn⟩:=hm 0 f v rfl rfl;rw[arm_execs_cons];unfold initLine at h1;split at h1
  ·rename_i s0 sp y ap v0 pos;simp only[Bool.and_eq_true,beq_iff_eq] at h1;obtain⟨⟨rfl,rfl⟩,h3⟩:=h1;have evName:∀ (z:Str) (zp:Pos) (u:Value) (s:Shared) (Q:Value->Shared->Prop) (E:Value->Shared->Prop),env.kindOf z=some .local->m z=some u->(z==("__debug__":Str))=false->Fr h₀ L s.heap m->Q u s->wpAny (model prog w) A (eval (.Name z zp) env) Q E s:=fun z zp u s Q E q1 q2 q3 F q=>wpAny_Name (wpAny_loadName_local hk q1 (by rw[hL];exact F.ns) q2 q) q3;have evVal:∀ (Q:Value->Shared->Prop) (E:Value->Shared->Prop),(∀ tk,Q v {s with toks:=tk})->wpAny (model prog w) A (eval v0 env) Q E s:=by
    intro Q E q;split at h3
    ·rw[beq_iff_eq.mp h3];exact evName _ _ v s Q E g2 hmv g3 F (q s.toks)
    ·simp only[Bool.and_eq_true,beq_iff_eq] at h3;obtain⟨rfl,rfl⟩:=h3;have hvn:=horn rfl;rw[arm_eval_IfExp,arm_isTrue_Compare];refine wpAny_bind (wpAny_bind (evName _ _ _ s _ _ g2 hmv g3 F ?_));rw[arm_evalEach_cons,arm_evalEach_nil,marked_one rfl];refine wpAny_bind (wpAny_holding (wpAny_Constant_none (wpAny_bind (wpAny_standAt (wpAny_bind (wpAny_operating (is_none_gen ?_)))))));rw[hvn];refine wpAny_holding (wpAny_truthy_bool ?_);exact evName _ _ _ s _ _ g2 hmv g3 F (q s.toks)
    ·cases h3
   have hcmp:swapsWith v0 (some (.Attribute (.Name ("self":Str) sp) (attrName f) ap)) pos.line env=pure false:=by
    split at h3
    ·rfl
    ·rfl
    ·cases h3
   refine wpAny_bind (plainObj_wpAny_Assign_Attribute (evVal _ _ fun tk=>?_) hcmp);refine evName "self" sp (.ref x) _ _ _ hself hms (by decide) F ?_;have hnew:∀ g∈fs,attrName g≠attrName f:=fun g mg q=>by
    rw[List.map_append,List.nodup_append] at hnd;exact hnd.2.2 _ (List.mem_map_of_mem mg) _ (List.mem_map_of_mem (.head _)) q
   refine set_one (s:={s with toks:=tk}) R g1 F (hX _ F.keep) N hne hE hnew (by rw[List.length_append] at hsz;omega) hX fun h' es' n' tk' F' N' hE'=>?_;have e4:fs++f::fs'=(fs++[f])++fs':=by simp
   refine init_run R hX hk hL hself hms hne fs' sts vs' (fs++[f]) (vs++[v]) es' n' _ Q h2 (fun g mg=>hf g (.tail _ mg)) (by simpa using hlen) (fun i g u q1 q2=>hm (i+1) g u q1 q2) (by rw[<- e4];exact hnd) (by rw[<- e4];exact hsz) F' N' hE' fun h3 es3 n3 tk3 F3 N3 hE3=>?_;have e5:vs++v::vs'=(vs++[v])++vs':=List.append_cons vs v vs';exact h h3 es3 n3 tk3 F3 N3 (by rw[e4,e5];exact hE3)
  ·cases h1
 | [],_::_,_,_,_,_,_,_,_,h,_,_,_,_,_,_,_,_,_=>by cases h
 | _::_,[],_,_,_,_,_,_,_,h,_,_,_,_,_,_,_,_,_=>by cases h
 | [],[],_::_,_,_,_,_,_,_,_,_,h,_,_,_,_,_,_,_=>by cases h
 | _::_,_::_,[],_,_,_,_,_,_,_,_,h,_,_,_,_,_,_,_=>by cases h
end
theorem lookup_mem {β:Type} {k:Str} {v:β}:∀ {l:List (Str×β)},(l.map (·.1)).Nodup->(k,v)∈l->l.lookup k=some v
 | (k',v')::r,hn,hm=>by
  have hn':=List.nodup_cons.mp hn;rw[List.lookup_cons];rcases List.mem_cons.mp hm with h | h
  ·cases h;rw[beq_self_eq_true]
  ·have:(k==k')=false:=beq_eq_false_iff_ne.mpr fun q=>hn'.1 (q ▸ List.mem_map_of_mem (f:=(·.1)) h);rw[this];exact lookup_mem hn'.2 h
theorem rev_lookup {β:Type} {k:Str} {v:β} {l:List (Str×β)} (hn:(l.map (·.1)).Nodup) (hm:(k,v)∈l):l.reverse.lookup k=some v:=by
 refine lookup_mem ?_ (List.mem_reverse.mpr hm);rw[List.map_reverse];exact (List.reverse_perm _).nodup_iff.mpr hn
theorem zip_fst {α β:Type}:∀ {a:List α} {b:List β},a.length=b.length->(a.zip b).map (·.1)=a
 | [],[],_=>rfl
 | _::a,_::b,h=>by rw[List.zip_cons_cons,List.map_cons,zip_fst (by simpa using h)]
 | [],_::_,h=>by cases h
 | _::_,[],h=>by cases h
theorem zip_mem {α β:Type} {x:α} {y:β}:∀ {a:List α} {b:List β} {i:Nat},a[i]? =some x->b[i]? =some y->(x,y)∈a.zip b
 | _::a,_::b,0,h,h'=>by cases h;cases h';exact .head _
 | _::a,_::b,i+1,h,h'=>.tail _ (zip_mem (a:=a) (b:=b) (i:=i) h h')
 | [],_,_,h,_=>by cases h
 | _::_,[],_,_,h=>by cases h
structure InitRec (K:Frag) (C:Addr) (k:Nat) (orNew:Bool) (f:Addr) (o:Obj) (fd:FuncData) (sts:List Stmt):Prop where
 R:ClsRec K C k
 hi:findIn K (.ref C) "__init__"=some (some (.ref f))
 hf:typeIn K (.ref f)=some (.type "function")
 at_:K.lookup f=some o
 data:o.data=.func fd
 code:∃ cd oc vs t,fd.code=.ref cd/\K.lookup cd=some oc/\oc.data=.fields vs/\vs[1]? =some (.str fd.qualname t)
 body:fd.body=.stmts sts
 cells:∀ x∈fd.scope.names,x.2≠.cell
 self:fd.scope.names.lookup ("self":Str)=some .local
 loc:∀ g∈fieldsOf k,fd.scope.names.lookup (attrName g)=some .local
 lines:initLines orNew (fieldsOf k) sts=true
 co:fd.scope.isCoroutine=false
 gen:fd.scope.isGenerator=false
 kind:fd.scope.kind=.function
theorem fields_nd:∀ k,((("self":Str)::(fieldsOf k).map attrName).Nodup)/\(fieldsOf k).length<=100/\(∀ f∈fieldsOf k,(attrName f==("__debug__":Str))=false)
 | 0 | 1 | 2 | 3 | 4 | 5 | 6 | 7=>by decide
 | _+8=>by refine⟨?_,?_,?_⟩<;>simp [fieldsOf]
section
variable {c:Cfg} {A:Around} {l:List Env} {X Y D:Addr->Prop} {σ:St} {s:Shared}
theorem new_run {E:Value->Shared->Prop} {Q:Value->Shared->Prop} {k:Nat} {orNew:Bool} {f:Addr} {o:Obj} {fd:FuncData} {sts:List Stmt} {rest vals:List Value} (I:InitRec c.K (c.ca k) k orNew f o fd sts) (C:Conc c D σ s.heap) (hroom:A.depth+1 < recursionLimit)
  (hlen:(fieldsOf k).length=vals.length)
  (hbind:∀ s' x,(∀ b o,s.heap.get? b=some o->s'.heap.get? b=some o)->BindsTo s' fd ⟨.ref x::rest,[]⟩ (("self",.ref x)::((fieldsOf k).map attrName).zip vals))
  (horn:orNew=true->∀ v∈vals,(v==.none)=false)
  (h:∀ h' es n tk,(∀ b o,s.heap.get? b=some o->h'.get? b=some o)->h'.get? (s.heap.objs.size+1)=some (instObj (c.ca k) s.heap.objs.size)->h'.get? s.heap.objs.size=some (dictOf es n)->Ents es (fieldsOf k) vals->
   Q (.ref (s.heap.objs.size+1)) {s with heap:=h',toks:=tk}):
  wpAny (model c.prog c.w) A (call (.ref (c.ca k)) rest) Q E s:=by
 obtain⟨hh,g,d,t,os⟩:=s;have k1:∀ b o,hh.get? b=some o->((hh.push emptyDict).push (instObj (c.ca k) hh.objs.size)).get? b=some o:=fun b o e=>Heap.get?_push_of_some _ (Heap.get?_push_of_some _ e);have X0:c.K.In hh:=C.kin;have X1:=X0.keeps k1;obtain⟨nd,n100,ndb⟩:=fields_nd k;have hlen':((fieldsOf k).map attrName).length=vals.length:=by rw[List.length_map,hlen]
 have bnd:(((("self":Str),Value.ref (hh.objs.size+1))::((fieldsOf k).map attrName).zip vals).map (·.1)).Nodup:=by
  rw[List.map_cons,zip_fst hlen'];exact nd
 refine wpAny_call (make_core (makes_of X0 I.R.makes) (looks_findIn X0 I.hi) (fun self=>bind_fn X0 self I.hf) (.inl rfl) ?_);obtain⟨cd,oc,cvs,ct,q1,q2,q3,q4⟩:=I.code;refine codeAny_call_def (s:=⟨(hh.push emptyDict).push (instObj (c.ca k) hh.objs.size),g,d,t,os⟩) (by exact hroom) (X1 _ _ I.at_) I.data (C.lim.keeps k1) ⟨cd,oc,cvs,ct,q1,X1 _ _ q2,q3,q4⟩ I.body (hbind _ _ k1) I.cells ?_ ?_ I.co I.gen I.kind
 ·intro x hx;rcases List.mem_cons.mp hx with rfl | hx
  ·exact I.self
  ·obtain⟨g,hg,q⟩:=List.mem_map.mp (List.of_mem_zip (show (x.1,x.2)∈_ from hx)).1;rw[<- q];exact I.loc g hg
 intro h₀ hns hkeep;have F:Fr hh ((hh.push emptyDict).push (instObj (c.ca k) hh.objs.size)).objs.size h₀ fun x=>(((("self":Str),Value.ref (hh.objs.size+1))::((fieldsOf k).map attrName).zip vals).reverse).lookup x:=
  ⟨hns,fun b o e=>hkeep _ _ (k1 _ _ e),by rw[Heap.size_push,Heap.size_push];exact Nat.le_add_right _ 2⟩
 have N:News hh ((hh.push emptyDict).push (instObj (c.ca k) hh.objs.size)).objs.size h₀ [(hh.objs.size,dictOf [] 0),(hh.objs.size+1,instObj (c.ca k) hh.objs.size)]:=by
  intro p hp;rcases List.mem_cons.mp hp with rfl | hp
  ·exact⟨hkeep _ _ (Heap.get?_push_of_some _ (by heap_get)),by rw[Heap.size_push,Heap.size_push];exact Nat.ne_of_lt (Nat.lt_succ_of_lt (Nat.lt_succ_self _)),fresh_at _⟩
  ·rw[List.mem_singleton.mp hp];refine⟨hkeep _ _ (by heap_get),by rw[Heap.size_push,Heap.size_push];exact Nat.ne_of_lt (Nat.lt_succ_self _),?_⟩;cases q:hh.get? (hh.objs.size+1) with
   | none=>rfl
   | some ob=>exact absurd (Heap.lt_size q) (Nat.not_lt.mpr (Nat.le_succ _))
 have hself:(callEnv fd ((hh.push emptyDict).push (instObj (c.ca k) hh.objs.size)).objs.size f).kindOf ("self":Str)=some .local:=I.self;refine init_run (h₀:=hh) (m:=fun x=>(((("self":Str),Value.ref (hh.objs.size+1))::((fieldsOf k).map attrName).zip vals).reverse).lookup x) (x:=hh.objs.size+1) (dx:=hh.objs.size) I.R (fun h' kk=>X0.keeps kk) I.kind rfl hself
  (rev_lookup bnd (.head _)) (Nat.succ_ne_self _) (fieldsOf k) sts vals [] [] [] 0 _ _ I.lines (fun f' m=>⟨m,I.loc f' m,ndb f' m⟩) hlen
  (fun i f' v e1 e2=>⟨rev_lookup bnd (.tail _ (zip_mem (i:=i) (by rw[List.getElem?_map,e1];rfl) e2)),fun z=>horn z v (List.mem_of_getElem? e2)⟩)
  (by rw[List.nil_append];exact (List.nodup_cons.mp nd).2) (by rw[List.nil_append];exact n100) F N .nil ?_
 intro h' es' n' tk F' N' hE;refine⟨rfl,?_⟩;exact h h' es' n' tk F'.keep (N' _ (.tail _ (.head _))).1 (N' _ (.head _)).1 hE
theorem new_done {k:Nat} {vals:List Value} {as:List AV} {h':Heap} {es n tk} (W:Wd c A l D σ s) (hv:RvL c D s.heap vals as) (kk:∀ b o,s.heap.get? b=some o->h'.get? b=some o) (hx:h'.get? (s.heap.objs.size+1)=some (instObj (c.ca k) s.heap.objs.size)) (hd:h'.get? s.heap.objs.size=some (dictOf es n)) (hE:Ents es (fieldsOf k) vals):
  ∃ D',Rel c NX (Yof l) D σ s D' σ {s with heap:=h',toks:=tk}/\Rv c D' h' (.ref (s.heap.objs.size+1)) (.inst k as):=by
 have C:=W.conc;have n0:s.heap.get? s.heap.objs.size=none:=fresh_at _;have n1:s.heap.get? (s.heap.objs.size+1)=none:=by
  cases q:s.heap.get? (s.heap.objs.size+1) with
  | none=>rfl
  | some ob=>exact absurd (Heap.lt_size q) (Nat.not_lt.mpr (Nat.le_succ _))
 have r:Rel c NX (Yof l) D σ s (fun a=>D a\/a=s.heap.objs.size\/a=s.heap.objs.size+1) σ {s with heap:=h',toks:=tk}:=by
  refine .step C (fun a=>False) (fun a e=>e.elim) (fun a ob e n=>kk a ob e) (fun a e q=>e.elim) (fun a n _=>rfl) (fun a e=>e) (fun a e q=>absurd q e) (fun _ d=>.inl d) (fun a d n=>?_)
   (fun fz a ob e z=>?_) (fun a k dx fs e n z=>z) (fun a ob y e h n=>e.elim) rfl rfl
  ·rcases d with d | rfl | rfl
   ·exact absurd d n
   ·exact⟨n0,C.free n0,by show (h'.get? _).isSome=true;rw[hd];rfl⟩
   ·exact⟨n1,C.free n1,by show (h'.get? _).isSome=true;rw[hx];rfl⟩
  ·rcases z with z | z
   ·exact z.elim
   ·rw[z] at e;cases e
 exact⟨_,r,.inst (.inr (.inr rfl)) (.inr (.inl rfl)) hx hd (hE.rv (hv.mono r.fz))⟩
end
structure NewsOk (c:Cfg):Prop where
 plain:∀ k∈[0,2,3,4,5,6],∃ f o fd sts ps,InitRec c.K (c.ca k) k false f o fd sts/\fd.params=⟨[],ps,none,[],[],none,[]⟩/\fd.defaults=.none/\ps.map (·.arg)=("self":Str)::(fieldsOf k).map attrName
 string:∃ f o fd sts p1 p2 p3 ds Td oT n,InitRec c.K (c.ca 1) 1 false f o fd sts/\fd.params=⟨[],[⟨"self",none,p1⟩,⟨"octets",none,p2⟩,⟨"is_hex",none,p3⟩],none,[],[],none,ds⟩/\fd.defaults=.ref Td/\c.K.lookup Td=some oT/\oT.data=.seq #[.bool false] n
 shelf:∃ f o fd sts p1 p2 p3 ds Td oT n,InitRec c.K (c.ca 7) 7 true f o fd sts/\fd.params=⟨[],[⟨"self",none,p1⟩,⟨"table",none,p2⟩,⟨"trailer",none,p3⟩],none,[],[],none,ds⟩/\fd.defaults=.ref Td/\c.K.lookup Td=some oT/\oT.data=.seq #[.none,.none] n
section
variable {c:Cfg} {A:Around} {l:List Env} {D:Addr->Prop} {σ:St} {s:Shared}
theorem new_plain {k:Nat} {vals:List Value} {as:List AV} (Nw:NewsOk c) (hroom:A.depth+1 < recursionLimit) (hk:k∈[0,2,3,4,5,6]) (W:Wd c A l D σ s) (hv:RvL c D s.heap vals as) (hlen:(fieldsOf k).length=as.length):
  Tri c A l NX D σ s (call (.ref (c.ca k)) vals) (RV c) (ret (.inst k as)):=fun Q E hq=>by
 obtain⟨f,o,fd,sts,ps,I,hp,hd,hps⟩:=Nw.plain k hk;have hl:=hv.length;refine new_run (rest:=vals) (vals:=vals) I W.conc hroom (hlen.trans hl.symm) (fun s' x _=>?_) (fun z=>by cases z) fun h' es n tk kk hx hd hE=>?_
 ·refine .of_eq ?_;rw[bind_plain (ps:=ps) hp hd (by rw[List.length_cons,<- List.length_map (f:=(·.arg)) (as:=ps),hps,List.length_cons,List.length_map,hlen,hl]) (by rw[hps];exact (fields_nd k).1),hps];rfl
 ·obtain⟨D',r,v⟩:=new_done (tk:=tk) W hv kk hx hd hE;exact⟨D',σ,_,r,v,hq⟩
theorem new_ok (Nw:NewsOk c) (hroom:A.depth+1 < recursionLimit) {k:Nat} {vals:List Value} {as:List AV} (W:Wd c A l D σ s) (hv:RvL c D s.heap vals as):Tri c A l NX D σ s (call (.ref (c.ca k)) vals) (RV c) (newM k as):=by
 unfold newM;split
 ·exact new_plain Nw hroom (by decide) W hv rfl
 ·intro Q E hq;obtain⟨f,o,fd,sts,p1,p2,p3,ds,Td,oT,n,I,hp,hd,hT,hs⟩:=Nw.string;obtain _ | ⟨hv1,_ | _⟩:=hv
  rename_i v;have hv2:RvL c D s.heap [v,.bool false] [_,.bool false]:=.cons hv1 (.cons (.bool false) .nil);refine new_run (rest:=[v]) (vals:=[v,.bool false]) I W.conc hroom rfl (fun s' x kk=>?_) (fun z=>by cases z) fun h' es n tk kk hx hd hE=>?_
  ·exact bind_string hp hd (kk _ _ (W.conc.kin _ _ hT)) hs
  ·obtain⟨D',r,v⟩:=new_done (tk:=tk) W hv2 kk hx hd hE;exact⟨D',σ,_,r,v,hq⟩
 ·exact new_plain Nw hroom (by decide) W hv rfl
 ·exact new_plain Nw hroom (by decide) W hv rfl
 ·exact new_plain Nw hroom (by decide) W hv rfl
 ·exact new_plain Nw hroom (by decide) W hv rfl
 ·exact new_plain Nw hroom (by decide) W hv rfl
 ·rintro Q E ⟨⟨n1,n2⟩,hq⟩;obtain⟨f,o,fd,sts,p1,p2,p3,ds,Td,oT,n,I,hp,hd,hT,hs⟩:=Nw.shelf;have hv':=hv;obtain _ | ⟨hv1,_ | ⟨hv2,_ | _⟩⟩:=hv
  rename_i v u;refine new_run (rest:=[v,u]) (vals:=[v,u]) I W.conc hroom rfl (fun s' x kk=>?_) (fun z y m=>?_) fun h' es n tk kk hx hd hE=>?_
  ·exact bind_shelf hp hd (kk _ _ (W.conc.kin _ _ hT)) hs
  ·rcases List.mem_cons.mp m with rfl | m
   ·cases hv1<;>first | rfl | cases n1
   ·rw[List.mem_singleton.mp m];cases hv2<;>first | rfl | cases n2
  ·obtain⟨D',r,v⟩:=new_done (tk:=tk) W hv' kk hx hd hE;exact⟨D',σ,_,r,v,hq⟩
 ·exact fun Q E hq=>hq.elim
theorem HN_ok (Nw:NewsOk c) (hroom:A.depth+1 < recursionLimit) (T:Tab):HN c A l newM T:=fun k _ D σ s vs as W hv=>new_ok Nw hroom W hv
end
section
open Builtin Builtin.ObjectAttr
def excBase:List Value:=[.type "Exception",.type "BaseException",.type "object"]
def isRefV:Value->Bool
 | .ref _=>true
 | _=>false
def excMro:List Value->Bool
 | []=>false
 | v::r=>v::r==excBase||(isRefV v&&excMro r)
theorem excMro_ind {P:List Value->Prop} (h0:P excBase) (h1:∀ a r,P r->P (.ref a::r)):∀ {l:List Value},excMro l=true->P l
 | [],e=>by cases e
 | v::r,e=>by
  unfold excMro at e;rw[Bool.or_eq_true,Bool.and_eq_true,beq_iff_eq] at e;rcases e with e | ⟨e1,e2⟩
  ·rw[e];exact h0
  ·cases v<;>first | exact h1 _ _ (excMro_ind h0 h1 e2) | cases e1
theorem refuse_exc (self:Value) {l:List Value} (h:excMro l=true):refuseLoop self "__setattr__" l=pure ():=
 excMro_ind (P:=fun l=>refuseLoop self "__setattr__" l=pure ()) (PySem.F.store_Exception.passes self) (fun a r ih=>by rw[refuseLoop_ref];exact ih) h
theorem exc_has {x:Value} (hx:excBase.contains x=true) {l:List Value} (h:excMro l=true):l.contains x=true:=
 excMro_ind (P:=fun l=>l.contains x=true) hx (fun a r ih=>by rw[List.contains_cons,ih,Bool.or_true]) h
theorem exc_hasnt {x:String} (hx:excBase.contains (.type x)=false) {l:List Value} (h:excMro l=true):l.contains (.type x)=false:=
 excMro_ind (P:=fun l=>l.contains (.type x)=false) hx (fun a r ih=>by rw[List.contains_cons,ih];rfl) h
structure ExcRec (K:Frag) (C:Addr) where
 nm:Str
 q:Str
 N:Addr
 bs:List Value
 bm:List Value
 sn:List Str
 sub:List Value
 ab:Bool
 col:Option Bool
 k0:Option Value
 k1:Option Value
 k2:Option Value
 k3:Option Value
 k5:Option Value
 cls:K.lookup C=some (excClassObj nm q C N bs bm true sn sub ab col none k0 k1 k2 k3 k5 "Exception.__new__")
 mro:excMro bm=true
 setA:findIn K (.ref C) "__setattr__"=some (some (.builtin "object.__setattr__"))
 what:findIn K (.ref C) "what"=some none
 at_:findIn K (.ref C) "at"=some none
section
variable {prog:Program} {w:World} {A:Around} {K:Frag} {C x:Addr} {E:Value->Shared->Prop} {h:Heap} {g:Array GenState} {d:Drawn} {t:Nat} {os:OsState} {mA:Str->Option Value} {name:Str} {v:Value}
theorem exc_cls (R:ExcRec K C):clsIn K C=some {name:=R.nm,bases:=R.bs,mro:=.ref C::R.bm,ns:=R.N,qualname:=R.q,hasDict:=true,slotNames:=R.sn,subclasses:=R.sub,abstract:=R.ab,collection:=R.col,hasDel:=false}:=by
 unfold clsIn;rw[R.cls]
theorem exc_entry {tk:Tok} {Q:Fin->Shared->Prop} {ns:List Str} (R:ExcRec K C) (X:K.In h) (hname:findIn K (.ref C) name=some none) (I:h.Inst x C mA)
  (hq:∀ h' tk',h'.Inst x C (fun y=>if y=name then some v else mA y)->
   (∀ b o,b≠x->(∀ o₀ dx,h.get? x=some o₀->o₀.dict=some dx->b≠dx)->h.get? b=some o->h'.get? b=some o)->
   (∀ o₀,h.get? x=some o₀->∃ o₁,h'.get? x=some o₁/\o₁.cls=o₀.cls/\o₁.data=o₀.data/\o₁.slots=o₀.slots/\∀ dx,o₁.dict=some dx->o₀.dict=some dx\/h.get? dx=none)->Q (.done (.ret .none)) ⟨h',g,d,tk',os⟩) (hw:Within mA ns) (hsz:ns.length<=1000):
  wpAny (model prog w) A (Builtin.«object.__setattr__» ⟨[.ref x,.str name tk,v],[]⟩) Q E ⟨h,g,d,t,os⟩:=by
 obtain⟨o,hx,hc,hnc,hd⟩:=I;have ht:Looks (model prog w) h (typeOf (.ref x)) (.ref C):=by
  refine (Looks.ld (part:=none) hx).andThen ?_;rw[hc];exact .now
 have hm:Looks (model prog w) h (mroOf (.ref C)) (.ref C::R.bm):=(looks_clsIn X (exc_cls R)).andThen .now;rw[osa_eq,refuse_eq];refine wpAny_bind (wpAny_bind (ht.here (wpAny_bind (hm.here ?_))));rw[refuseLoop_ref,refuse_exc _ R.mro];refine wpAny_pure (wpAny_bind (ht.here (wpAny_bind ((looks_findIn X hname).here (wpAny_bind (wpAny_pure ?_))))));show wpAny _ _ (storeInOwnDict (.ref x) (.ref C) (.str name tk) name v false) _ _ _;rcases hd with ⟨hdn,hmA⟩ | ⟨dx,hdx,hne,hns⟩
 ·have hx₁:(h.push {cls:=.type "dict",data:=.dict #[]}).get? x=some o:=Heap.get?_push_of_some _ hx;have hxs:x≠h.objs.size:=Nat.ne_of_lt (Heap.lt_size hx);refine wpAny_bind (wpAny_pure (wpAny_bind (wpAny_bind (wpAny_loadPart hx ?_))));rw[hc];refine wpAny_bind ((looks_clsIn X (exc_cls R)).here ?_);dsimp only;rw[hdn,if_neg (by decide)];dsimp only;rw[if_neg (by simp [typeHasDict])];split
  ·rename_i c hcd;exact absurd hcd (hnc c)
  refine wpAny_bind (wpAny_alloc' ?_);refine wpAny_bind (wpAny_update' hx₁ ?_);refine wpAny_pure ?_;have hgd:((h.push {cls:=.type "dict",data:=.dict #[]}).update x fun o=>{cls:=o.cls,dict:=some h.objs.size,data:=o.data,slots:=o.slots}).get? h.objs.size
    =some {cls:=.type "dict",data:=.dict #[]}:=
   (Heap.get?_update_ne _ _ _ _ hxs.symm).trans (Heap.get?_push_at rfl rfl)
  have hnd:((h.push {cls:=.type "dict",data:=.dict #[]}).update x fun o=>{cls:=o.cls,dict:=some h.objs.size,data:=o.data,slots:=o.slots}).Ns h.objs.size (fun _=>none):=
   ⟨_,#[],_,hgd,rfl,fun e he=>absurd he (by simp),fun _=>rfl⟩
  show wpAny _ _ (storeInDict h.objs.size (.str name tk) name v) _ _ _;unfold storeInDict newKeyGuard;refine wpAny_bind (wpAny_pure (wpAny_bind (wpAny_nsSet1 (Heap.Ns1.of_empty hnd) fun h' hn' hs=>?_)));obtain⟨oD,esD,epD,hoD,hdD,hcD⟩:=hn'.count (Within.cons name v Within.nil);refine wpAny_bind (wpAny_lookBehind hoD (by rw[hdD];exact pastItsLine_dict (Nat.le_trans hcD (by rw[List.length_cons,List.length_nil,sizeLine_eq];omega))) ?_);refine wpAny_pure ?_;have hx':h'.get? x=some {cls:=o.cls,dict:=some h.objs.size,data:=o.data,slots:=o.slots}:=?_;refine hq h' _ ⟨{cls:=o.cls,dict:=some h.objs.size,data:=o.data,slots:=o.slots},hx',hc,hnc,.inr ⟨h.objs.size,rfl,hxs.symm,?_⟩⟩ (fun b ob hbx _ hb=>?_)
   (fun o₀ h₀=>by obtain rfl:o=o₀:=Option.some.inj (hx.symm.trans h₀);exact⟨_,hx',rfl,rfl,rfl,fun dx e=>by cases e;exact .inr (fresh_at h)⟩)
  ·obtain⟨o',es,ep,e1,e2,e3,eu,e4⟩:=hn';exact⟨o',es,ep,e1,e2,e3,eu,fun y=>by rw[e4 y];by_cases hy:y=name<;>simp [hy,hmA]⟩
  ·exact (hs.2 b (Nat.ne_of_lt (Heap.lt_size hb))).trans ((Heap.get?_update_ne _ _ _ _ hbx).trans (Heap.get?_push_of_some _ hb))
  ·refine (hs.2 x hxs).trans (Heap.get?_update_self _ hx₁ ?_);have hfr:=(Heap.get?_some_iff.mp hx).2;obtain⟨oc,od,odt,osl⟩:=o;cases odt<;>first | rfl | exact hfr
 ·refine wpAny_bind (wpAny_pure (wpAny_bind (wpAny_bind (wpAny_loadPart hx ?_))));rw[hc];refine wpAny_bind ((looks_clsIn X (exc_cls R)).here ?_);dsimp only;rw[hdx,if_neg (by decide)];refine wpAny_pure ?_;show wpAny _ _ (storeInDict dx (.str name tk) name v) _ _ _;unfold storeInDict newKeyGuard;refine wpAny_bind (wpAny_pure (wpAny_bind (wpAny_nsSet1 hns fun h' hn' hs=>?_)));obtain⟨oD,esD,epD,hoD,hdD,hcD⟩:=hn'.count (Within.cons name v hw);refine wpAny_bind (wpAny_lookBehind hoD (by rw[hdD];exact pastItsLine_dict (Nat.le_trans hcD (by rw[List.length_cons,sizeLine_eq];omega))) ?_);refine wpAny_pure ?_;refine hq h' _ ⟨o,(hs.2 x hne.symm).trans hx,hc,hnc,.inr ⟨dx,hdx,hne,hn'⟩⟩ (fun b ob _ hbd hb=>?_)
   (fun o₀ h₀=>⟨o₀,(hs.2 x hne.symm).trans h₀,rfl,rfl,rfl,fun _ e=>.inl e⟩)
  exact (hs.2 b (hbd o dx hx hdx)).trans hb
theorem exc_store {Q:Unit->Shared->Prop} {ns:List Str} (R:ExcRec K C) (X:K.In h) (hname:findIn K (.ref C) name=some none) (I:h.Inst x C mA)
  (hq:∀ h' tk',h'.Inst x C (fun y=>if y=name then some v else mA y)->
   (∀ b o,b≠x->(∀ o₀ dx,h.get? x=some o₀->o₀.dict=some dx->b≠dx)->h.get? b=some o->h'.get? b=some o)->
   (∀ o₀,h.get? x=some o₀->∃ o₁,h'.get? x=some o₁/\o₁.cls=o₀.cls/\o₁.data=o₀.data/\o₁.slots=o₀.slots/\∀ dx,o₁.dict=some dx->o₀.dict=some dx\/h.get? dx=none)->Q () ⟨h',g,d,tk',os⟩) (hw:Within mA ns) (hsz:ns.length<=1000):
  wpAny (model prog w) A (setAttr (.ref x) name v) Q E ⟨h,g,d,t,os⟩:=by
 obtain⟨o,hx,hc,hnc,hd⟩:=id I;have SF:=PySem.F.store_Exception;have no:notCls o=true:=by
  obtain⟨oc,od,odt,osl⟩:=o;cases odt<;>first | rfl | exact absurd rfl (hnc _)
 have J:∃ od,PySem.W.InstAt h x o C od:=by
  rcases hd with ⟨hdn,_⟩ | ⟨dx,hdx,hne,hns⟩
  ·exact⟨none,hx,hc,no,by rw[hdn];trivial⟩
  ·obtain⟨oD,es,ep,e1,_⟩:=hns;exact⟨some oD,hx,hc,no,by rw[hdx];exact e1⟩
 obtain⟨od,J⟩:=J;refine set_plain X J R.setA ?_;have sub:Looks (model prog w) h (isInstance (.ref x) (.type "object")) true:=
  J.type.andThen (looks_mroIn X (by unfold mroIn;rw[exc_cls R,Option.bind_some,if_neg (by simp),List.contains_cons,exc_has (by decide) R.mro,Bool.or_true]))
 exact codeAny_call_builtin SF.slot.plain SF.entry (@check_slot (model prog w) _ _ _ "object.__setattr__" "object" "__setattr__" (.ref x) [_,v] [] _ SF.kind SF.split sub (SF.args (.ref x) _ v) (exc_entry R X hname I (fun h' tk' a b e=>hq h' tk' a b e) hw hsz))
end
end
section
open Builtin Builtin.ObjectAttr
abbrev excO (C T:Addr):Obj:={cls:=.ref C,data:=.fields #[.ref T,.none,.none,.none,.bool false,.none]}
structure PaperRec (K:Frag) (f:Addr) (i:Int):Prop where
 hf:typeIn K (.ref f)=some (.type "function")
 ex:∃ o fd p1 p2 p3 ds Td oT n tk q1 q2 q3 q4 q5 q6 a1 a2 a3 a4 b1 b2 b3 b4,K.lookup f=some o/\o.data=.func fd/\fd.params=⟨[],[⟨"self",none,p1⟩,⟨"what",none,p2⟩,⟨"at",none,p3⟩],none,[],[],none,ds⟩/\
  fd.defaults=.ref Td/\K.lookup Td=some oT/\oT.data=.seq #[.int i tk] n/\
  fd.body=.stmts [.Expr (.Call (.Attribute (.Name "Exception" q1) "__init__" q2) [.Name "self" q3,.Name "what" q4] [] q5) q6,
   .Assign [.Attribute (.Name "self" a1) "what" a2] (.Name "what" a3) a4,.Assign [.Attribute (.Name "self" b1) "at" b2] (.Name "at" b3) b4]/\q2.endLine=q5.line/\
  (∃ cd oc vs t,fd.code=.ref cd/\K.lookup cd=some oc/\oc.data=.fields vs/\vs[1]? =some (.str fd.qualname t))/\fd.globals=mainGlobals/\fd.builtins=builtinsNs/\
  (∀ x∈fd.scope.names,x.2≠.cell)/\fd.scope.names.lookup ("self":Str)=some .local/\fd.scope.names.lookup ("what":Str)=some .local/\fd.scope.names.lookup ("at":Str)=some .local/\fd.scope.names.lookup ("Exception":Str)=some .globalImplicit/\
  fd.scope.isCoroutine=false/\fd.scope.isGenerator=false/\fd.scope.kind=.function
 exc:globIn K "Exception"=some (.type "Exception")
 ini:findCls K (.type "Exception") (.type "type") "__init__"=some (.val (.builtin "Exception.__init__"))
theorem bind_paper {fd:FuncData} {p1 p2 p3:Pos} {ds:List Expr} {s:Shared} {Td:Addr} {o:Obj} {n:Nat} {x a:Value} {i:Int} {tk:Tok}
  (hp:fd.params=⟨[],[⟨"self",none,p1⟩,⟨"what",none,p2⟩,⟨"at",none,p3⟩],none,[],[],none,ds⟩) (hd:fd.defaults=.ref Td) (ho:s.heap.get? Td=some o) (hs:o.data=.seq #[.int i tk] n):
  BindsTo s fd ⟨[x,a],[]⟩ [("self",x),("what",a),("at",.int i tk)]:=by
 obtain⟨f1,f2,f3,f4,f5,f6,f7,f8,f9,f10,f11,f12,f13,f14,f15⟩:=fd;dsimp only at hp hd;subst hp;subst hd;intro M A E Q hq;show wpAny M A (seqItems? (.ref Td) >>=_) Q E s;refine wpAny_bind (wpAny_seqItems ho hs ?_);exact wpAny_pure hq
section
variable {prog:Program} {w:World} {A:Around} {K:Frag} {C x e:Addr} {E:Value->Shared->Prop} {h:Heap} {g:Array GenState} {d:Drawn} {t:Nat} {os:OsState} {mA:Str->Option Value} {name:Str} {v:Value}
theorem exc_check_init {M:Model} {oe:Obj} {rest:List Value} {Q:Unit->Shared->Prop} (R:ExcRec K C) (X:K.In h) (he:h.get? e=some oe) (hcls:oe.cls=.ref C) (hq:Q () ⟨h,g,d,t,os⟩):
  wpAny M A (checkBuiltinCall "Exception.__init__" ⟨.ref e::rest,[]⟩) Q E ⟨h,g,d,t,os⟩:=by
 have F:=PySem.F.excBase_Exception;have hC:=X _ _ R.cls;have hcB:(Value.ref C::R.bm).contains (.type "Exception")=true:=by rw[List.contains_cons,exc_has (by decide) R.mro,Bool.or_true]
 have hshort:=F.noStar;simp only[checkBuiltinCall,F.initKind,F.initSplit,F.initRow];repeat (first | (with_reducible refine wpAny_loadPart_at he ?_;rw[hcls]) | with_reducible refine wpAny_loadPart_at hC ?_ | (with_reducible refine wpAny_isSubtype_exc hC ?_;rw[hcB]) | wp_step)
 refine wpAny_onRaise ?_;rw[show ∀ (a b:String) (n:Nat),Bind.check ⟨.positional,"*","Exception",.self,[⟨"args",.varPos,false⟩]⟩ a b n (List.map (fun x=>x.fst) ({pos:=Value.ref e::rest}:Args).kw)=pure () from
  fun a b n=>check_star_args _ _ _ _ _ _]
 exact wpAny_pure hq
theorem exc_init_call {T:Addr} {rest:List Value} {Q:Value->Shared->Prop} (R:ExcRec K C) (X:K.In h) (he:h.get? e=some (excO C T)) (hr:rest.length<=100)
  (hq:∀ h',(∀ b o,b≠e->h.get? b=some o->h'.get? b=some o)->(∃ T',h'.get? e=some (excO C T'))->Q .none ⟨h',g,d,t,os⟩):
  wpAny (model prog w) A (call (.builtin "Exception.__init__") (.ref e::rest)) Q E ⟨h,g,d,t,os⟩:=by
 have F:=PySem.F.excBase_Exception;refine wpAny_call (codeAny_call_builtin F.init.plain F.initEntry (exc_check_init R X he rfl ?_));unfold Builtin.«BaseException.__init__»;dsimp only;rw[if_neg (by simp)];unfold newTuple Builtin.BaseException.bexcPut;have he₁:=Heap.get?_push_of_some (h:=h) {cls:=.type "tuple",data:=.seq rest.toArray} he;refine wpAny_bind (wpAny_newObj_type (wpAny_bind (wpAny_bind (wpAny_field he₁ rfl rfl (wpAny_bind (wpAny_setField he₁ rfl (by simp) ?_))))) (by show rest.toArray.size<=sizeLine;rw[List.size_toArray,sizeLine_eq];omega));refine wpAny_letGo (wpAny_pure (hq _ (fun b o n q=>?_) ⟨h.objs.size,?_⟩))
 ·exact (Heap.get?_update_ne _ _ _ _ n).trans (Heap.get?_push_of_some _ q)
 ·exact Heap.get?_update_self _ he₁ rfl
theorem glob_env {s:Shared} {env:Env} {z:Str} {pos:Pos} {Q:Value->Shared->Prop} (X:K.In s.heap) (T:TopB s.heap) (hk:env.scope.kind=.function) (hz:env.kindOf z=some .globalImplicit) (hg:env.globals=mainGlobals) (hb:env.builtins=builtinsNs) (hd:(z==("__debug__":Str))=false)
  (hv:globIn K z=some v) (hq:Q v s):wpAny (model prog w) A (eval (.Name z pos) env) Q E s:=by
 refine wpAny_Name ?_ hd;rw[loadName_read hk hz];unfold globIn at hv;cases q:nsIn K mainGlobals z with
 | none=>rw[q] at hv;cases hv
 | some o=>
  rw[q] at hv;cases o with
  | some w=>
   cases hv;unfold loadGlobal;rw[hg];exact wpAny_bind ((looks_nsIn X q).here (wpAny_pure hq))
  | none=>
   dsimp only at hv;by_cases z':z="__name__"
   ·rw[if_pos z'] at hv;cases hv
   ·rw[if_neg z'] at hv;obtain⟨mg,mb,h1,h2,h3⟩:=T;exact loadGlobal_builtin (by rw[hg];exact h1) (mg_none_of X h1 q) (by rw[hb];exact h2) (h3 z v z' hv) hq
set_option maxRecDepth 20000 in
theorem paper_init {i:Int} {f T:Addr} {what:Value} {Q:Value->Shared->Prop} (R:ExcRec K C) (P:PaperRec K f i) (X:K.In h) (Tb:TopB h) (lim:h.NoLimit) (hroom:A.depth < recursionLimit) (he:h.get? e=some (excO C T))
  (hne:e≠mainGlobals/\e≠builtinsNs/\(∀ a o,K.lookup a=some o->a≠e))
  (hq:∀ h' tk,(∀ b o,b≠e->h.get? b=some o->h'.get? b=some o)->(∃ oe T',h'.get? e=some oe/\oe.cls=.ref C/\oe.data=.fields #[.ref T',.none,.none,.none,.bool false,.none])->Q .none ⟨h',g,d,tk,os⟩):
  wpAny (model prog w) A (call (.ref f) [.ref e,what]) Q E ⟨h,g,d,t,os⟩:=by
 obtain⟨o,fd,p1,p2,p3,ds,Td,oT,n,tk,q1,q2,q3,q4,q5,q6,a1,a2,a3,a4,b1,b2,b3,b4,k1,k2,k3,k4,k5,k6,k7,k8,⟨cd,oc,cvs,ct,c1,c2,c3,c4⟩,k10,k11,k12,k13,k14,k15,k16,k17,k18,k19⟩:=P.ex;have bnd:((("self":Str),Value.ref e)::(("what":Str),what)::(("at":Str),Value.int i tk)::[]).map (·.1) |>.Nodup:=by
  show [("self":Str),("what":Str),("at":Str)].Nodup;decide
 refine wpAny_call (codeAny_call_def hroom (X _ _ k1) k2 lim ⟨cd,oc,cvs,ct,c1,X _ _ c2,c3,c4⟩ k7 (bind_paper k3 k4 (X _ _ k5) k6) k12 ?_ ?_ k17 k18 k19)
 ·intro y hy;simp only[List.mem_cons,List.not_mem_nil,or_false] at hy;rcases hy with rfl | rfl | rfl
  ·exact k13
  ·exact k14
  ·exact k15
 intro h₀ hns hkeep;generalize hA:A.deeper (callEnv fd h.objs.size f)=B;generalize henv:callEnv fd h.objs.size f=env at hA ⊢;have ek:env.scope.kind=.function:=by rw[<- henv];exact k19
 have eL:env.locals=h.objs.size:=by rw[<- henv];rfl
 have enm:∀ z,env.kindOf z=fd.scope.names.lookup z:=fun z=>by rw[<- henv];rfl
 have hi:interactive env=false:=by unfold interactive;rw[ek];rfl
 have eL1:e≠h.objs.size:=Nat.ne_of_lt (Heap.lt_size he);have e0:h₀.get? e=some (excO C T):=hkeep _ _ he;have X0:=X.keeps hkeep;obtain⟨oL,esL,epL,hoL,hnsr⟩:=id hns;have Tb0:TopB h₀:=by
  obtain⟨mg,mb,g1,g2,g3⟩:=Tb;exact⟨mg,mb,g1.keeps hkeep,g2.keeps hkeep,g3⟩
 have evName:∀ (z:Str) (zp:Pos) (u:Value) (s:Shared) (Q:Value->Shared->Prop) (E:Value->Shared->Prop),env.kindOf z=some .local->(z,u)∈((("self":Str),Value.ref e)::(("what":Str),what)::(("at":Str),Value.int i tk)::[])->(z==("__debug__":Str))=false->s.heap.get? h.objs.size=h₀.get? h.objs.size->Q u s->wpAny (model prog w) B (eval (.Name z zp) env) Q E s:=
  fun z zp u s Q E r1 r2 r3 r4 r5=>wpAny_Name (wpAny_loadName_local ek r1 (by rw[eL];exact ns_of_eq r4 hns) (rev_lookup bnd r2) r5) r3
 rw[arm_execs_cons];refine wpAny_bind ?_;rw[exec_Expr _ _ _ hi (noSwap rfl)];refine wpAny_bind (wpAny_standAt (wpAny_bind ?_));rw[arm_eval_Call,base_plain rfl];refine wpAny_bind (glob_env (K:=K) X0 Tb0 ek ((enm _).trans k16) (by rw[<- henv];exact k10) (by rw[<- henv];exact k11) (by decide) P.exc ?_);refine wpAny_bind (wpAny_standAt ?_);unfold methodCall;rw[callForm (by rfl) (by simp)];refine wpAny_bind (wpAny_holding ?_);have F0:Fr h h.objs.size h₀ _:=⟨hns,hkeep,Nat.le_refl _⟩;refine method_type F0 X (by kernel_rfl) (by decide+kernel) P.ini (by decide+kernel) ?_;show wpAny _ _ (methodCallPos true _ env q2 q5 >>=fun cp=>callWith cp (.builtin "Exception.__init__") [] _ _) _ _ _;have mp:methodCallPos true (.Name "Exception" q1) env q2 q5=pure q5:=by
  unfold methodCallPos;rw[k8];simp
 rw[mp];refine wpAny_bind (wpAny_pure ?_);refine callWith_of (P:=fun _=>True) (keywords:=[]) (by rfl) (fun _ _=>⟨.machine,.inr (.inl rfl),.of_pure rfl⟩) ?_;refine evalArgs_tri (by rfl) ?_;rw[starEach_cons rfl,starEach_cons rfl];show wpAny _ _ (spliced ((false,eval (.Name "self" q3) env)::(false,eval (.Name "what" q4) env)::[])) _ _ _;refine Calls.spliced_cons (evName _ _ (.ref e) _ _ _ ((enm _).trans k13) (.head _) (by decide) rfl (Calls.spliced_cons (evName _ _ what _ _ _ ((enm _).trans k14) (.tail _ (.head _)) (by decide) rfl (Calls.spliced_nil ⟨trivial,?_⟩))));refine exc_init_call R X0 e0 (by simp) fun h1 kk1 hT1=>?_;obtain⟨T1,e1⟩:=hT1;refine wpAny_dropValue ?_;have X1:K.In h1:=fun a o q=>kk1 a o (hne.2.2 a o q) (X0 a o q);have L1:h1.get? h.objs.size=h₀.get? h.objs.size:=by
  rw[show h₀.get? h.objs.size=some oL from hoL];exact kk1 _ _ (Ne.symm eL1) hoL
 have I1:h1.Inst e C (fun _=>none):=⟨_,e1,rfl,(fun c q=>nomatch q),.inl ⟨rfl,fun _=>rfl⟩⟩;rw[arm_execs_cons];refine wpAny_bind (plainObj_wpAny_Assign_Attribute (evName "what" _ what _ _ _ ((enm _).trans k14) (.tail _ (.head _)) (by decide) L1 ?_) (by rfl));refine evName "self" _ (.ref e) _ _ _ ((enm _).trans k13) (.head _) (by decide) L1 ?_;refine exc_store (ns:=[]) R X1 R.what I1 (fun h2 tk2 I2 kk2 hd2=>?_) Within.nil (by decide);have e1d:∀ o₀ dx,h1.get? e=some o₀->o₀.dict=some dx->False:=fun o₀ dx q z=>by rw[e1] at q;cases q;cases z
 obtain⟨o2,e2,cl2,dt2,-,dd2⟩:=hd2 _ e1;have kk2':∀ b o,b≠e->h1.get? b=some o->h2.get? b=some o:=fun b o z q=>kk2 b o z (fun o₀ dx z1 z2=>(e1d o₀ dx z1 z2).elim) q;have X2:K.In h2:=fun a o q=>kk2' a o (hne.2.2 a o q) (X1 a o q);have L2:h2.get? h.objs.size=h₀.get? h.objs.size:=by
  rw[<- L1];rw[show h₀.get? h.objs.size=some oL from hoL] at L1;rw[L1];exact kk2' _ _ (Ne.symm eL1) L1
 rw[arm_execs_cons];refine wpAny_bind (plainObj_wpAny_Assign_Attribute (evName "at" _ (.int i tk) _ _ _ ((enm _).trans k15) (.tail _ (.tail _ (.head _))) (by decide) L2 ?_) (by rfl));refine evName "self" _ (.ref e) _ _ _ ((enm _).trans k13) (.head _) (by decide) L2 ?_;refine exc_store (ns:=["what"]) R X2 R.at_ I2 (fun h3 tk3 I3 kk3 hd3=>?_) (Within.cons _ _ Within.nil) (by decide);obtain⟨o3,e3,cl3,dt3,-,-⟩:=hd3 _ e2;rw[arm_execs_nil];refine wpAny_pure (hq h3 tk3 (fun b o z q=>?_) ⟨o3,T1,e3,cl3.trans cl2,dt3.trans dt2⟩);have q1:=kk1 b o z (hkeep b o q);refine kk3 b o z (fun o₀ dx z1 z2 z3=>?_) (kk2' b o z q1);rw[e2] at z1;cases z1;rcases dd2 dx z2 with y | y
 ·exact e1d _ _ e1 y
 ·rw[<- z3,q1] at y;cases y
end
end
section
open Builtin Builtin.ObjectAttr
set_option maxRecDepth 20000
section
variable {prog:Program} {w:World} {A:Around} {K:Frag} {C x e:Addr} {E:Value->Shared->Prop} {h:Heap} {g:Array GenState} {d:Drawn} {t:Nat} {os:OsState} {mA:Str->Option Value} {name:Str} {v:Value}
theorem exc_contains (R:ExcRec K C) {x:Value} (hx:excBase.contains x=true):(Value.ref C::R.bm).contains x=true:=by rw[List.contains_cons,exc_has hx R.mro,Bool.or_true]
theorem exc_containsnt (R:ExcRec K C) {x:String} (hx:excBase.contains (.type x)=false):(Value.ref C::R.bm).contains (.type x)=false:=by rw[List.contains_cons,exc_hasnt hx R.mro];rfl
theorem exc_check_new {M:Model} {rest:List Value} {Q:Unit->Shared->Prop} (R:ExcRec K C) (X:K.In h) (hq:Q () ⟨h,g,d,t,os⟩):wpAny M A (checkBuiltinCall "Exception.__new__" ⟨.ref C::rest,[]⟩) Q E ⟨h,g,d,t,os⟩:=by
 have F:=PySem.F.excBase_Exception;have hC:=X _ _ R.cls;have hcont:=exc_contains R (x:=.type "Exception") (by decide);have hstar:=F.noStar;simp only[checkBuiltinCall,F.newKind,F.newSplit,F.newRow];repeat (first | refine wpAny_loadPart_at hC ?_ | (refine wpAny_isSubtype_exc hC ?_;rw[hcont]) | refine wpAny_staticBase_exc hC ?_ | refine wpAny_madeBy_exc hC ?_ | simp only[bne_self_eq_false,Bool.false_eq_true,if_false] | wp_step)
 exact hq
theorem exc_new {Rr:Result->Shared->Prop} {rest:List Value} (R:ExcRec K C) (X:K.In h)
  (hq:Rr (.ok (.ret (.ref (h.objs.size+1)))) ⟨(h.push {cls:=.type "tuple",data:=.seq rest.toArray}).push (excO C h.objs.size),g,d,t,os⟩) (hrest:rest.length<=sizeLine):
  codeAny (model prog w) A (.builtin "Exception.__new__" ⟨.ref C::rest,[]⟩) Rr ⟨h,g,d,t,os⟩:=by
 have F:=PySem.F.excBase_Exception;have hC:=X _ _ R.cls;have hends:=F.ends;have hcB:=exc_contains R (x:=.type "Exception") (by decide);have hcA:=exc_containsnt R (x:="AttributeError") (by decide);have hcN:=exc_containsnt R (x:="NameError") (by decide);refine codeAny_builtinAt F.entry ?_;unfold Builtin.«BaseException.__new__»;refine PySem.wpAt_bind ?_;show PySem.wpAt _ _ _ (stack >>=_) _ _ _;refine PySem.wpAt_bind (PySem.wpAt_stack fun p below=>PySem.wpAt_of_wpAny ?_)
 wp_walk
 refine PySem.wpAt_of_wpAny ?_;rw[F.owner];repeat (first | with_reducible refine wpAny_madeHere_exc F.canon hC ?_ | with_reducible refine wpAny_loadPart_at hC ?_ | (with_reducible refine wpAny_isSubtype_exc hC ?_;first | rw[hcB] | rw[hcA] | rw[hcN]) | wp_step)
 show Rr _ _;rw[Heap.size_push];exact hq
theorem exc_make {i:Int} {f:Addr} {what:Value} {Q:Value->Shared->Prop} (R:ExcRec K C) (P:PaperRec K f i) (hi:findIn K (.ref C) "__init__"=some (some (.ref f))) (X:K.In h) (Tb:TopB h) (lim:h.NoLimit) (hroom:A.depth+1 < recursionLimit)
  (hmg:(h.get? mainGlobals).isSome=true) (hbt:(h.get? builtinsNs).isSome=true)
  (hq:∀ h' e tk,(∀ b o,h.get? b=some o->h'.get? b=some o)->h.get? e=none->(∃ oe T',h'.get? e=some oe/\oe.cls=.ref C/\oe.data=.fields #[.ref T',.none,.none,.none,.bool false,.none])->Q (.ref e) ⟨h',g,d,tk,os⟩):
  wpAny (model prog w) A (call (.ref C) [what]) Q E ⟨h,g,d,t,os⟩:=by
 have F:=PySem.F.excBase_Exception;have hC:=X _ _ R.cls;have f1:=tc_lookup;have f2:=tc_bind (.ref C);have hT:(⟨h,g,d,t,os⟩:Shared).TypeIs (.ref C) "type":=⟨_,hC,rfl⟩;refine wpAny_call (codeAny_of_tree ?_);show wpAny _ _ (callAny (.ref C) _) _ _ _;repeat (any_goals (first | assumption | with_reducible refine wpAny_loadPart_at hC ?_ | wp_step))
 refine⟨rfl,?_⟩;refine codeAny_call_builtin_at (Code.quiet_builtin _ (by decide+kernel)) entry_typeCall (wpAny_check_type_call_sub hC ?_);repeat (first | with_reducible refine wpAny_loadPart_at hC ?_ | with_reducible refine wpAny_madeBy_exc hC ?_ | wp_step)
 refine codeAny_call_builtin_code (Code.quiet_builtin _ F.quiet) (exc_check_new R X ?_);refine exc_new R X ?_ (by rw[sizeLine_eq];simp);show wpAny _ _ _ _ _ _;have k1:∀ b o,h.get? b=some o->((h.push {cls:=.type "tuple",data:=.seq [what].toArray}).push (excO C h.objs.size)).get? b=some o:=fun b o q=>Heap.get?_push_of_some _ (Heap.get?_push_of_some _ q);have X1:=X.keeps k1;have hget:((h.push {cls:=.type "tuple",data:=.seq [what].toArray}).push (excO C h.objs.size)).get? (h.objs.size+1)=some (excO C h.objs.size):=by heap_get
 have hne:h.get? (h.objs.size+1)=none:=Heap.get?_none_of_le (Nat.le_succ _);have hcC:(Value.ref C::R.bm).contains (.ref C)=true:=by simp
 have hC₁:=k1 _ _ hC;unfold isInstance;repeat (first | with_reducible refine wpAny_loadPart_at hget ?_ | wp_step)
 show wpAny _ _ (isSubtype (.ref C) (.ref C)) _ _ _;refine wpAny_isSubtype_exc hC₁ ?_;rw[hcC];repeat (first | with_reducible refine wpAny_loadPart_at hget ?_ | wp_step)
 show wpAny _ _ (typeLookup (.ref C) _) _ _ _;refine (looks_findIn X1 hi).here ?_;refine wpAny_holding (wpAny_bind ((bind_fn X1 _ P.hf).here ?_));have Tb1:TopB ((h.push {cls:=.type "tuple",data:=.seq [what].toArray}).push (excO C h.objs.size)):=by
  obtain⟨mg,mb,g1,g2,g3⟩:=Tb;exact⟨mg,mb,g1.keeps k1,g2.keeps k1,g3⟩
 refine wpAny_bind (paper_init R P X1 Tb1 (lim.keeps k1) (by exact hroom) hget ⟨fun q=>?_,fun q=>?_,fun a o z q=>?_⟩ fun h' tk kk hE=>?_)
 ·rw[q] at hne;rw[hne] at hmg;cases hmg
 ·rw[q] at hne;rw[hne] at hbt;cases hbt
 ·have:=X a o z;rw[q,hne] at this;cases this
 ·have keep:∀ b o,h.get? b=some o->h'.get? b=some o:=fun b o z=>kk b o (fun q=>by rw[q,hne] at z;cases z) (k1 b o z);have fin:=hq h' _ tk keep hne hE
  wp_walk
  exact fin
theorem exc_raise {M:Model} {env:Env} {s:Shared} {x:Sem Value} {Q:Flow->Shared->Prop} (R:ExcRec K C) (hh:A.handled=none)
  (h:wpAny M A x (fun v s₁=>∃ e oe T,v=.ref e/\K.In s₁.heap/\s₁.heap.get? e=some oe/\oe.cls=.ref C/\oe.data=.fields #[.ref T,.none,.none,.none,.bool false,.none]/\E (.ref e) s₁) E s):
  wpAny M A (raiseStmt env (some x) none) Q E s:=by
 have hcB:=exc_contains R (x:=.type "BaseException") (by decide);unfold raiseStmt;refine wpAny_bind (wpAny_mono h (fun v s₁ h₁=>?_) fun _ _ x=>x);obtain⟨e,oe,T,rfl,X,he,hcl,hdt,hE⟩:=h₁;obtain⟨hp,g,d,tk,os⟩:=s₁;have hC:=X _ _ R.cls;dsimp only at he hC;obtain⟨oc,od,odt,osl⟩:=oe;dsimp only at hcl hdt;subst hcl hdt;repeat (first | with_reducible refine wpAny_loadPart_at he ?_ | with_reducible refine wpAny_loadPart_at hC ?_ | (with_reducible refine wpAny_isSubtype_exc hC ?_;rw[hcB]) | wp_step)
 exact wpAny_raiseNew_none hh hE
end
end
section
open Builtin Builtin.ObjectAttr
structure TfRec (c:Cfg) (tf:Str) where
 R:ExcRec c.K c.tf
 f:Addr
 i:Int
 P:PaperRec c.K f i
 hi:findIn c.K (.ref c.tf) "__init__"=some (some (.ref f))
 glob:globIn c.K tf=some (.ref c.tf)
 keep:keepIn c.K (.ref c.tf)=true
section
variable {c:Cfg} {A:Around} {l:List Env} {tf:Str}
theorem HR_ok (T:TfRec c tf) (hroom:A.depth+1 < recursionLimit):HR c A l tf:=by
 intro sc sm env px cp pos x p hg hs hx D σ s ρ W e V Q E hp;obtain⟨hn,hd⟩:=isG_spec hg;rw[arm_exec_Raise];refine wpAny_bind (wpAny_standAt ?_);show wpAny _ _ (raiseStmt env (some (do let v <- eval (.Call (.Name tf px) [x] [] cp) env;standAt pos;pure v)) none) _ _ _;refine exc_raise T.R W.hh (wpAny_bind ?_);show wpAny _ _ (eval (.Name tf px) env >>=fun f=>callWith cp f [] (backTo cp (starEach [x] env)) (backToKw cp (keywordEach [] env))) _ _ _;refine wpAny_bind (glob_any W.conc e hn hd T.glob ?_);have ha:[x].all notStar=true:=by rw[List.all_cons,hs];rfl
 refine callWith_of (P:=c.K.In) (keywords:=[]) (by rw[noStars ha];rfl) (keep_ref T.keep) ?_;refine evalArgs_tri ha ?_;have hp':(bnd (p ρ).1 fun v=>bnd (ret []) fun vs=>ret (v::vs)) (fun as σ=>match as with | [v]=>(∃ s,v=.str s)/\E σ | _=>False) E σ:=hp;refine Tri.use W (.refl W.conc) (cons_ok hs hx nil_ok D σ s ρ W e V cp).more hp' fun vs s1 D1 σ1 as r1 _ W1 hvs hq=>⟨W1.conc.kin,?_⟩;obtain _ | ⟨hv1,_ | _⟩:=hvs
 ·exact hq.elim
 ·rename_i u a;have C1:=W1.conc;obtain⟨hh,g,d,t,os⟩:=s1;refine exc_make T.R T.P T.hi C1.kin C1.top C1.lim hroom (C1.froz _ C1.mgD).2 (C1.froz _ C1.btD).2 fun h' x tk keep hne hE=>?_;refine wpAny_bind (wpAny_standAt (wpAny_pure ?_));obtain⟨oe,T',he,hcl,hdt⟩:=hE;have r2:Rel c (own env) (Yof l) D1 σ1 ⟨hh,g,d,t,os⟩ D1 σ1 ⟨h',g,d,tk,os⟩:=.grow C1 keep rfl rfl;refine⟨x,oe,T',rfl,(r2.conc).kin,he,hcl,hdt,D1,σ1,r1.trans W.conc r2,⟨x,oe,_,rfl,he,hcl,hdt,⟨C1.free hne,fun z=>?_,gone r1.there hne⟩,.inl rfl⟩,hq.2⟩;have:=(C1.froz _ z).2;rw[show hh.get? x=none from hne] at this;cases this
 ·exact hq.elim
end
end
section
open Builtin Builtin.ObjectAttr
theorem try_leaving {M:Model} {A:Around} {E:Value->Shared->Prop} {s:Shared} {env:Env} {body orelse:Sem Flow} {h₀:ExceptHandler} {hs:List ExceptHandler} {Q:Flow->Shared->Prop}
  (h:wpAny M A body (fun f s₁=>match f with | .next=>wpAny M A orelse Q E s₁ | f=>Q f s₁)
   (fun e s₁=>wpAny M A (leaving env e) (fun _ s₃=>wpAny M A (handleBy e env (h₀::hs)) Q E s₃) E s₁) s):
  wpAny M A (tryStmt false body (h₀::hs) orelse [] env) Q E s:=by
 unfold tryStmt;simp only[List.isEmpty_nil,if_true,List.isEmpty_cons,Bool.false_and,Bool.false_eq_true,if_false];refine wpAny_bind (wpAny_attempt (wpAny_mono h (fun f s₁ h₁=>?_) fun e s₁ h₁=>?_))
 ·cases f<;>first | exact h₁ | exact wpAny_pure h₁
 ·have:(do noteFrame e env;setFlight e none;handleBy e env (h₀::hs):Sem Flow)=(leaving env e >>=fun _=>handleBy e env (h₀::hs)):=by
   unfold leaving;rw[bind_assoc]
  show wpAny M A (do noteFrame e env;setFlight e none;handleBy e env (h₀::hs):Sem Flow) Q E s₁;rw[this];exact wpAny_bind h₁
theorem same_update {h:Heap} {T:Addr} {f:Obj->Obj} {o:Obj} (ho:h.get? T=some o) (hf:f o=o):∀ a ob,h.get? a=some ob->(h.update T f).get? a=some ob:=fun a ob q=>by
 by_cases z:a=T
 ·subst z;rw[q] at ho;cases ho;rw[Heap.get?_update_self f q (by rw[hf];exact (Heap.get?_some_iff.mp q).2),hf]
 ·rw[Heap.get?_update_other _ _ (Ne.symm z)];exact q
theorem set_same {ts:Array Value} {v:Value} {i:Nat} (h:ts[i]? =some v):ts.setIfInBounds i v=ts:=by
 obtain⟨hi,he⟩:=Array.getElem?_eq_some_iff.mp h;apply Array.ext
 ·simp
 ·intro j h1 h2;rw[Array.getElem_setIfInBounds];split
  ·rename_i q;subst q;exact he.symm
  ·rfl
section
variable {c:Cfg} {A:Around} {l:List Env} {tf:Str} {env:Env}
theorem exc_land {M:Model} {D:Addr->Prop} {σ:St} {h:Heap} {s:Shared} {e:Value} {Q:Unit->Shared->Prop} {E:Value->Shared->Prop} (x:Exc c l D σ h s.heap e) (hq:∀ h',(∀ a ob,s.heap.get? a=some ob->h'.get? a=some ob)->Q () {s with heap:=h'}):
  wpAny M A (setFlight e none) Q E s:=by
 obtain⟨ea,oe,vs,rfl,h2,h3,h4,h5,h6⟩:=x;rcases h6 with h6 | ⟨T,oT,ts,g1,g2,g3,g4,g5,g6⟩
 ·unfold setFlight;refine wpAny_bind (wpAny_field h2 h4 h6 ?_);rw[if_neg (by decide)];exact wpAny_pure (hq s.heap fun _ _ q=>q)
 ·refine wpAny_setFlight_none h2 h4 g1 g3 g4 (Array.getElem?_eq_some_iff.mp g6).1 (hq _ (same_update g3 ?_));obtain⟨oc,od,odt,osl⟩:=oT;dsimp only at g4;subst g4;show ({cls:=oc,dict:=od,data:=.fields (ts.setIfInBounds 3 .none),slots:=osl}:Obj)=_;rw[set_same g6]
theorem HT_ok (T:TfRec c tf):HT c A (env::l) env tf:=by
 intro sc sm px cp hp rp pos k body q hg hq D σ s ρ W e V Q E hQ;obtain⟨hn,hd⟩:=isG_spec hg;rw[arm_exec_Try];refine wpAny_bind (wpAny_standAt (try_leaving ?_));refine wpAny_mono (hq D σ s ρ W e V Q _ hQ) ?_ ?_
 ·rintro f s1 ⟨D1,σ1,x,r1,⟨rfl,rfl⟩,hx⟩;show wpAny _ _ (execs [] env) _ _ _;rw[arm_execs_nil];exact wpAny_pure ⟨D1,σ1,(.next,ρ),r1.more,⟨V.relN e r1,trivial⟩,hx⟩
 ·intro w s1 hw;refine wpAny_mono (flies_leaves W hw) ?_ fun _ _ z=>z.elim;rintro _ s2 ⟨D2,σ2,r2,hx,hE⟩;have W2:=W.rel r2;have e2:=e.rel r2;have V2:=V.relN e r2;have hx':=hx;obtain⟨ea,oe,vs,rfl,h2,h3,h4,h5,h6⟩:=hx';refine wpAny_handleBy_cons (codeAny_handlers_test ?_) (by intro q;cases q);refine glob_any W2.conc e2 hn hd T.glob ?_;obtain⟨hh,g,d,t,os⟩:=s2;refine wpAny_excMatches_sub_self (W2.conc.kin _ _ T.R.cls) h2 h3 (exc_has (by decide) T.R.mro) ?_;refine codeAny_handlers_suite (exc_land (c:=c) (l:=l) hx fun h' kk=>?_);rw[arm_execs_cons];refine wpAny_bind ?_;show wpAny _ _ (do standAt rp;let v <- eval (.Constant (.bool true) k cp) env;pure (Flow.ret v)) _ _ _;refine wpAny_bind (wpAny_standAt (wpAny_bind (wpAny_Constant_bool (wpAny_pure (wpAny_pure ?_)))));have r3:Rel c NX (Yof (env::l)) D2 σ2 ⟨hh,g,d,t,os⟩ D2 σ2 ⟨h',g,d,t,os⟩:=.grow W2.conc kk rfl rfl;exact⟨D2,σ2,(.ret (.bool true),ρ),(r2.trans W.conc r3).more,⟨V2.relN e2 r3,Rv.bool true⟩,hE⟩
end
end
def FnS (G:Nat->Option AV) (TT:List FD) (sp:Nat) (spM:List AV->M AV):Nat->Nat->List AV->M AV
 | 0,_,_=>no
 | n+1,f,args=>if f=sp then spM args else match TT[f]? with | some d=>runF (FnS G TT sp spM n) newM G d args | none=>no
structure FnsOk (c:Cfg) (T:Tab) (tf:Str) (TT:List FD) (sp:Nat) (spM:List AV->M AV):Prop where
 gt:GoodT c T
 nw:NewsOk c
 tr:Nonempty (TfRec c tf)
 fns:∀ f d,f≠sp->TT[f]? =some d->∃ sc body sm,FnRec c f d.np sc body sm/\chkTop T tf d.body sc sm body=true
 sp_ok:∀ (A:Around) (l:List Env),A.depth+3 < recursionLimit->A.units+200 < cLine->∀ (D:Addr->Prop) σ s vs as,Wd c A l D σ s->RvL c D s.heap vs as->Tri c A l NX D σ s (call (.ref (c.fa sp)) vs) (RV c) (spM as)
theorem HF_ok {c:Cfg} {T:Tab} {tf:Str} {TT:List FD} {sp:Nat} {spM:List AV->M AV} (O:FnsOk c T tf TT sp spM):∀ (n:Nat) (A:Around) (l:List Env),A.depth+n+3 < recursionLimit->A.units+3 * n+200 < cLine->HF c A l (FnS c.G TT sp spM n) T
 | 0,A,l,_,_=>fun f _ D σ s vs as W hv Q E hp=>hp.elim
 | n+1,A,l,h1,h2=>fun f _ D σ s vs as W hv=>by
  obtain⟨R⟩:=O.tr;intro Q E hp;have hp':(if f=sp then spM as else match TT[f]? with | some d=>runF (FnS c.G TT sp spM n) newM c.G d as | none=>no) Q E σ:=hp;by_cases hf:f=sp
  ·subst hf;rw[if_pos rfl] at hp';exact O.sp_ok A l (by omega) (by omega) D σ s vs as W hv Q E hp'
  rw[if_neg hf] at hp';cases hd:TT[f]? with
  | none=>rw[hd] at hp';exact hp'.elim
  | some d=>
   rw[hd] at hp';obtain⟨sc,body,sm,hr,hc⟩:=O.fns f d hf hd;refine fn_call (nl:=d.nl) (q:=fun ρ=>evSs (FnS c.G TT sp spM n) newM c.G d.body ρ) hr (by omega) (fun env=>?_) W hv Q E hp';have d1:(A.deeper env).depth=A.depth+1:=rfl;have u1:(A.deeper env).units=A.units+3:=rfl;exact topE O.gt (by omega) (HF_ok O n (A.deeper env) (env::l) (by omega) (by omega)) (HN_ok O.nw (by omega) T) (HR_ok R (by omega)) (HT_ok R) d.body sc sm body hc
namespace Law
def f_sign_of:FD:=⟨1,1,(.cons (.ite (.andor false (.cons (.cmp .isin (.loc 0) (.tup (.cons (.int 9) (.cons (.int 10) (.cons (.int 13) .nil))))) (.cons (.cmp2 .le .lt (.int 32) (.loc 0) (.int 127)) (.cons (.andor true (.cons (.cmp2 .lt .lt (.int 160) (.loc 0) (.int 256)) (.cons (.cmp .ne (.loc 0) (.int 173)) .nil))) .nil)))) (.cons (.ret (.loc 0))
  .nil) .nil)
  (.cons (.ite (.cmp2 .le .lt (.int 24) (.loc 0) (.int 32)) (.cons (.ret (.item (.call 1 .nil) (.bin .sub (.loc 0) (.int 24))))
  .nil) .nil)
  (.cons (.ite (.cmp2 .le .lt (.int 128) (.loc 0) (.int 159)) (.cons (.ret (.item (.call 2 .nil) (.bin .sub (.loc 0) (.int 128))))
  .nil) .nil)
  (.cons (.ret (.ite (.cmp .eq (.loc 0) (.int 160)) (.int 8364) (.glob 1)))
  .nil))))⟩
def sf_sign_of:SM:=[("octet",0)]
def f_accent_signs:FD:=⟨0,0,(.cons (.ret (.tup (.cons (.int 728) (.cons (.int 711) (.cons (.int 710) (.cons (.int 729) (.cons (.int 733) (.cons (.int 731) (.cons (.int 730) (.cons (.int 732) .nil))))))))))
  .nil)⟩
def sf_accent_signs:SM:=[]
def f_mark_signs:FD:=⟨0,2,(.cons (.asg (.loc 0) (.tup (.cons (.int 8226) (.cons (.int 8224) (.cons (.int 8225) (.cons (.int 8230) (.cons (.int 8212) (.cons (.int 8211) (.cons (.int 402) (.cons (.int 8260) (.cons (.int 8249) (.cons (.int 8250) (.cons (.int 8722) (.cons (.int 8240) .nil))))))))))))))
  (.cons (.asg (.loc 1) (.tup (.cons (.int 8222) (.cons (.int 8220) (.cons (.int 8221) (.cons (.int 8216) (.cons (.int 8217) (.cons (.int 8218) (.cons (.int 8482) (.cons (.int 64257) (.cons (.int 64258) .nil)))))))))))
  (.cons (.ret (.bin .add (.bin .add (.loc 0) (.loc 1)) (.tup (.cons (.int 321) (.cons (.int 338) (.cons (.int 352) (.cons (.int 376) (.cons (.int 381) (.cons (.int 305) (.cons (.int 322) (.cons (.int 339) (.cons (.int 353) (.cons (.int 382) .nil)))))))))))))
  .nil)))⟩
def sf_mark_signs:SM:=[("marks",0),("quotes",1)]
def B_text_of_units_0:PSs:=(.cons (.asg (.loc 3) (.item (.loc 0) (.loc 2)))
  (.cons (.asg (.loc 2) (.bin .add (.loc 2) (.int 1)))
  (.cons (.ite (.andor true (.cons (.cmp2 .le .lt (.int 55296) (.loc 3) (.int 56320)) (.cons (.cmp .lt (.loc 2) (.bi 0 (.loc 0))) (.cons (.cmp2 .le .lt (.int 56320) (.item (.loc 0) (.loc 2)) (.int 57344)) .nil)))) (.cons (.expr (.meth 1 (.loc 1) (.cons (.bi 3 (.bin .sub (.bin .add (.bin .add (.int 65536) (.bin .mul (.bin .sub (.loc 3) (.int 55296)) (.int 1024))) (.item (.loc 0) (.loc 2))) (.int 56320))) .nil)))
  (.cons (.asg (.loc 2) (.bin .add (.loc 2) (.int 1)))
  .nil)) (.cons (.ite (.cmp2 .le .lt (.int 55296) (.loc 3) (.int 57344)) (.cons (.expr (.meth 1 (.loc 1) (.cons (.bi 3 (.glob 1)) .nil)))
  .nil) (.cons (.expr (.meth 1 (.loc 1) (.cons (.bi 3 (.loc 3)) .nil)))
  .nil))
  .nil))
  .nil)))
def f_text_of_units:FD:=⟨1,4,(.cons (.asg (.loc 1) (.list .nil))
  (.cons (.asg (.loc 2) (.int 0))
  (.cons (.whil (.cmp .lt (.loc 2) (.bi 0 (.loc 0))) B_text_of_units_0)
  (.cons (.ret (.meth 5 (.str "") (.cons (.loc 1) .nil)))
  .nil))))⟩
def sf_text_of_units:SM:=[("units",0),("signs",1),("at",2),("unit",3)]
def f_text_of:FD:=⟨1,4,(.cons (.ite (.not (.meth 6 (.loc 0) (.cons (.glob 0) .nil))) (.cons (.ret (.meth 5 (.str "") (.cons (.comp (.bi 3 (.call 0 (.cons (.loc 3) .nil))) [3] (.seq (.loc 0)) .nil) .nil)))
  .nil) .nil)
  (.cons (.asg (.loc 1) (.comp (.bin .add (.bin .mul (.item (.loc 0) (.loc 2)) (.int 256)) (.item (.loc 0) (.bin .add (.loc 2) (.int 1)))) [2] (.range (.cons (.int 2) (.cons (.bin .sub (.bi 0 (.loc 0)) (.int 1)) (.cons (.int 2) .nil)))) .nil))
  (.cons (.ret (.bin .add (.call 3 (.cons (.loc 1) .nil)) (.ite (.cmp .eq (.bin .mod (.bi 0 (.loc 0)) (.int 2)) (.int 1)) (.bi 3 (.glob 1)) (.str ""))))
  .nil)))⟩
def sf_text_of:SM:=[("octets",0),("units",1)]
def B_home_of_0:PSs:=(.cons (.asg (.sub (.loc 3) (.attr (.loc 2) 4)) (.bool true))
  (.cons (.asgs [(.loc 4),(.loc 5)] (.meth 0 (.attr (.loc 0) 12) (.cons (.attr (.loc 2) 4) (.cons (.tup (.cons (.neg (.int 1)) (.cons .none .nil))) .nil))))
  (.cons (.ite (.cmp .ne (.loc 4) (.attr (.loc 2) 5)) (.cons .brk
  .nil) .nil)
  (.cons (.ite (.not (.isinst (.loc 5) 3)) (.cons (.ret (.loc 2))
  .nil) .nil)
  (.cons (.asg (.loc 2) (.loc 5))
  .nil)))))
def f_home_of:FD:=⟨2,6,(.cons (.asg (.loc 2) (.loc 1))
  (.cons (.asg (.loc 3) (.dictI [] .nil))
  (.cons (.whil (.andor true (.cons (.isinst (.loc 2) 3) (.cons (.cmp .notin (.attr (.loc 2) 4) (.loc 3)) .nil))) B_home_of_0)
  (.cons (.raise_ (.str "a node of the pages is missing"))
  .nil))))⟩
def sf_home_of:SM:=[("shelf",0),("value",1),("here",2),("seen",3),("generation",4),("found",5)]
def f_is_node:FD:=⟨2,3,(.cons (.asg (.loc 2) (.own 47 (.loc 0) (.cons (.loc 1) (.cons (.str "Type") .nil))))
  (.cons (.ite (.andor true (.cons (.isinst (.loc 2) 0) (.cons (.cmp .isin (.attr (.loc 2) 0) (.tup (.cons (.str "Pages") (.cons (.str "Page") .nil)))) .nil))) (.cons (.ret (.cmp .eq (.attr (.loc 2) 0) (.str "Pages")))
  .nil) .nil)
  (.cons (.ret (.cmp .isnot (.own 47 (.loc 0) (.cons (.loc 1) (.cons (.str "Kids") .nil))) .none))
  .nil)))⟩
def sf_is_node:SM:=[("shelf",0),("head",1),("kind",2)]
def f_kids_of:FD:=⟨2,3,(.cons (.asg (.loc 2) (.own 47 (.loc 0) (.cons (.loc 1) (.cons (.str "Kids") .nil))))
  (.cons (.ite (.not (.isinst (.loc 2) 12)) (.cons (.raise_ (.str "a node of the pages without kids"))
  .nil) .nil)
  (.cons (.ret (.loc 2))
  .nil)))⟩
def sf_kids_of:SM:=[("shelf",0),("head",1),("kids",2)]
def B_met_0:PSs:=(.cons (.ite (.cmp .isnot (.own 47 (.loc 0) (.cons (.loc 5) (.cons (.loc 7) .nil))) .none) (.cons (.asg (.sub (.loc 6) (.loc 7)) (.item (.loc 5) (.loc 7)))
  .nil) .nil)
  .nil)
def f_met:FD:=⟨4,8,(.cons (.asg (.loc 4) (.call 5 (.cons (.loc 0) (.cons (.loc 1) .nil))))
  (.cons (.asg (.loc 5) (.own 46 (.loc 0) (.cons (.loc 4) .nil)))
  (.cons (.ite (.not (.isinst (.loc 5) 13)) (.cons (.raise_ (.str "a node of the pages is no dict"))
  .nil) .nil)
  (.cons (.asg (.loc 6) (.bi 6 (.loc 3)))
  (.cons (.for_ [7] (.seq (.glob 2)) B_met_0)
  (.cons (.ret (.new 5 (.cons (.loc 4) (.cons (.loc 5) (.cons (.loc 2) (.cons (.loc 6) (.cons (.not (.call 6 (.cons (.loc 0) (.cons (.loc 5) .nil)))) .nil)))))))
  .nil))))))⟩
def sf_met:SM:=[("shelf",0),("value",1),("above",2),("inherited",3),("reference",4),("head",5),("given",6),("key",7)]
def B_spots_0:PSs:=(.cons (.expr (.meth 1 (.loc 3) (.cons (.tup (.cons (.loc 8) (.cons (.bin .add (.loc 5) (.tup (.cons (.attr (.loc 7) 6) .nil))) (.cons (.attr (.loc 7) 9) .nil)))) .nil)))
  .nil)
def B_spots_1:PSs:=(.cons (.asgs [(.loc 4),(.loc 5),(.loc 6)] (.meth 4 (.loc 3) .nil))
  (.cons (.asg (.loc 7) (.call 8 (.cons (.loc 0) (.cons (.loc 4) (.cons (.loc 5) (.cons (.loc 6) .nil))))))
  (.cons (.ite (.andor false (.cons (.cmp .isin (.attr (.attr (.loc 7) 6) 4) (.loc 2)) (.cons (.andor true (.cons (.cmp .eq (.loc 1) (.list .nil)) (.cons (.attr (.loc 7) 10) .nil))) .nil))) (.cons (.raise_ (.str "a node of the pages stands twice, or the root is a page"))
  .nil) .nil)
  (.cons (.asg (.sub (.loc 2) (.attr (.attr (.loc 7) 6) 4)) (.bool true))
  (.cons (.expr (.meth 1 (.loc 1) (.cons (.loc 7) .nil)))
  (.cons (.ite (.not (.attr (.loc 7) 10)) (.cons (.for_ [8] (.rev (.call 7 (.cons (.loc 0) (.cons (.attr (.loc 7) 3) .nil)))) B_spots_0)
  .nil) .nil)
  .nil))))))
def f_spots:FD:=⟨1,9,(.cons (.asg (.loc 1) (.list .nil))
  (.cons (.asg (.loc 2) (.dictI [] .nil))
  (.cons (.asg (.loc 3) (.list (.cons (.tup (.cons (.meth 0 (.own 48 (.loc 0) .nil) (.cons (.str "Pages") .nil)) (.cons (.tup .nil) (.cons (.dictS [] .nil) .nil)))) .nil)))
  (.cons (.whil (.loc 3) B_spots_1)
  (.cons (.ret (.loc 1))
  .nil)))))⟩
def sf_spots:SM:=[("shelf",0),("found",1),("seen",2),("line",3),("value",4),("above",5),("inherited",6),("spot",7),("kid",8)]
def f_page_spots:FD:=⟨1,2,(.cons (.ret (.comp (.loc 1) [1] (.seq (.call 9 (.cons (.loc 0) .nil))) (.cons (.attr (.loc 1) 10) .nil)))
  .nil)⟩
def sf_page_spots:SM:=[("shelf",0)]
def f_pages:FD:=⟨1,2,(.cons (.ret (.comp (.new 4 (.cons (.attr (.loc 1) 6) (.cons (.call 12 (.cons (.loc 0) (.cons (.loc 1) .nil))) .nil))) [1] (.seq (.call 10 (.cons (.loc 0) .nil))) .nil))
  .nil)⟩
def sf_pages:SM:=[("shelf",0)]
def B_fields_of_0:PSs:=(.cons (.ite (.andor true (.cons (.cmp .isin (.loc 3) (.attr (.loc 1) 9)) (.cons (.cmp .is (.own 47 (.loc 0) (.cons (.attr (.loc 1) 3) (.cons (.loc 3) .nil))) .none) .nil))) (.cons (.asg (.sub (.loc 2) (.loc 3)) (.item (.attr (.loc 1) 9) (.loc 3)))
  .nil) .nil)
  .nil)
def f_fields_of:FD:=⟨2,4,(.cons (.asg (.loc 2) (.bi 6 (.attr (.loc 1) 3)))
  (.cons (.for_ [3] (.seq (.glob 2)) B_fields_of_0)
  (.cons (.ret (.loc 2))
  .nil)))⟩
def sf_fields_of:SM:=[("shelf",0),("spot",1),("found",2),("key",3)]
def f_structure_root:FD:=⟨1,2,(.cons (.asg (.loc 1) (.own 47 (.loc 0) (.cons (.own 48 (.loc 0) .nil) (.cons (.str "StructTreeRoot") .nil))))
  (.cons (.ret (.ite (.isinst (.loc 1) 13) (.loc 1) (.dictS [] .nil)))
  .nil))⟩
def sf_structure_root:SM:=[("shelf",0),("found",1)]
def f_page_places:FD:=⟨1,3,(.cons (.ret (.bi 4 (.comp (.tup (.cons (.attr (.attr (.loc 2) 6) 4) (.cons (.loc 1) .nil))) [1,2] (.enum (.call 11 (.cons (.loc 0) .nil))) .nil)))
  .nil)⟩
def sf_page_places:SM:=[("shelf",0)]
def f_items_of:FD:=⟨2,3,(.cons (.asg (.loc 2) (.own 47 (.loc 0) (.cons (.loc 1) (.cons (.str "K") .nil))))
  (.cons (.ite (.cmp .is (.loc 2) .none) (.cons (.ret (.list .nil))
  .nil) .nil)
  (.cons (.ret (.ite (.isinst (.loc 2) 12) (.loc 2) (.list (.cons (.item (.loc 1) (.str "K")) .nil))))
  .nil)))⟩
def sf_items_of:SM:=[("shelf",0),("head",1),("value",2)]
def f_sort_of:FD:=⟨2,5,(.cons (.asg (.loc 2) (.own 46 (.loc 0) (.cons (.loc 1) .nil)))
  (.cons (.ite (.andor true (.cons (.cmp .eq (.call 28 (.cons (.loc 2) .nil)) (.str "int")) (.cons (.cmp .ge (.loc 2) (.int 0)) .nil))) (.cons (.ret (.str "content"))
  .nil) .nil)
  (.cons (.ite (.not (.isinst (.loc 2) 13)) (.cons (.ret (.str ""))
  .nil) .nil)
  (.cons (.asg (.loc 3) (.own 47 (.loc 0) (.cons (.loc 2) (.cons (.str "Type") .nil))))
  (.cons (.asg (.loc 4) (.ite (.isinst (.loc 3) 0) (.attr (.loc 3) 0) (.str "")))
  (.cons (.ret (.meth 0 (.dictS ["MCR","OBJR"] (.cons (.str "mcr") (.cons (.str "objr") .nil))) (.cons (.loc 4) (.cons (.str "element") .nil))))
  .nil))))))⟩
def sf_sort_of:SM:=[("shelf",0),("item",1),("value",2),("kind",3),("word",4)]
def f_element_of:FD:=⟨5,6,(.cons (.asg (.loc 5) (.ite (.isinst (.loc 1) 3) (.loc 1) .none))
  (.cons (.ite (.cmp .isnot (.loc 5) .none) (.cons (.ite (.cmp .isin (.attr (.loc 5) 4) (.loc 4)) (.cons (.raise_ (.str "an element stands twice"))
  .nil) .nil)
  (.cons (.asg (.sub (.loc 4) (.attr (.loc 5) 4)) (.bool true))
  .nil)) .nil)
  (.cons (.ret (.new 6 (.cons (.loc 5) (.cons (.own 46 (.loc 0) (.cons (.loc 1) .nil)) (.cons (.loc 2) (.cons (.loc 3) .nil))))))
  .nil)))⟩
def sf_element_of:SM:=[("shelf",0),("item",1),("depth",2),("above",3),("seen",4),("reference",5)]
def B_elements_0:PSs:=(.cons (.asgs [(.loc 4),(.loc 5),(.loc 6)] (.meth 4 (.loc 3) .nil))
  (.cons (.ite (.cmp .eq (.call 16 (.cons (.loc 0) (.cons (.loc 4) .nil))) (.str "element")) (.cons (.asg (.loc 7) (.call 17 (.cons (.loc 0) (.cons (.loc 4) (.cons (.loc 5) (.cons (.loc 6) (.cons (.loc 2) .nil)))))))
  (.cons (.asg (.loc 8) (.bi 0 (.loc 1)))
  (.cons (.expr (.meth 1 (.loc 1) (.cons (.loc 7) .nil)))
  (.cons (.expr (.meth 2 (.loc 3) (.cons (.comp (.tup (.cons (.loc 9) (.cons (.bin .add (.loc 5) (.int 1)) (.cons (.loc 8) .nil)))) [9] (.rev (.call 15 (.cons (.loc 0) (.cons (.attr (.loc 7) 3) .nil)))) .nil) .nil)))
  .nil)))) .nil)
  .nil))
def f_elements:FD:=⟨1,11,(.cons (.asg (.loc 1) (.list .nil))
  (.cons (.asg (.loc 2) (.dictI [] .nil))
  (.cons (.asg (.loc 3) (.comp (.tup (.cons (.loc 10) (.cons (.int 0) (.cons (.neg (.int 1)) .nil)))) [10] (.rev (.call 15 (.cons (.loc 0) (.cons (.call 13 (.cons (.loc 0) .nil)) .nil)))) .nil))
  (.cons (.whilE (.cmp .ne (.loc 3) (.list .nil)) B_elements_0)
  (.cons (.ret (.loc 1))
  .nil)))))⟩
def sf_elements:SM:=[("shelf",0),("found",1),("seen",2),("line",3),("item",4),("depth",5),("above",6),("element",7),("here",8)]
def B_role_of_0:PSs:=(.cons (.asg (.sub (.loc 5) (.loc 3)) (.bool true))
  (.cons (.asg (.loc 3) (.attr (.own 47 (.loc 0) (.cons (.loc 4) (.cons (.loc 3) .nil))) 0))
  .nil))
def f_role_of:FD:=⟨2,6,(.cons (.asg (.loc 2) (.own 47 (.loc 0) (.cons (.loc 1) (.cons (.str "S") .nil))))
  (.cons (.asg (.loc 3) (.ite (.isinst (.loc 2) 0) (.attr (.loc 2) 0) (.str "")))
  (.cons (.asg (.loc 4) (.own 47 (.loc 0) (.cons (.call 13 (.cons (.loc 0) .nil)) (.cons (.str "RoleMap") .nil))))
  (.cons (.asg (.loc 5) (.dictS [] .nil))
  (.cons (.whil (.andor true (.cons (.isinst (.loc 4) 13) (.cons (.cmp .notin (.loc 3) (.loc 5)) (.cons (.isinst (.own 47 (.loc 0) (.cons (.loc 4) (.cons (.loc 3) .nil))) 0) .nil)))) B_role_of_0)
  (.cons (.ret (.loc 3))
  .nil))))))⟩
def sf_role_of:SM:=[("shelf",0),("head",1),("name",2),("word",3),("roles",4),("seen",5)]
def f_page_told:FD:=⟨2,3,(.cons (.asg (.loc 2) (.meth 0 (.loc 0) (.cons (.str "Pg") .nil)))
  (.cons (.ret (.ite (.isinst (.loc 2) 3) (.meth 0 (.loc 1) (.cons (.attr (.loc 2) 4) (.cons (.neg (.int 1)) .nil))) (.neg (.int 1))))
  .nil))⟩
def sf_page_told:SM:=[("head",0),("places",1),("value",2)]
def f_content_told:FD:=⟨4,7,(.cons (.asg (.loc 4) (.call 16 (.cons (.loc 0) (.cons (.loc 2) .nil))))
  (.cons (.ite (.cmp .eq (.loc 4) (.str "content")) (.cons (.ret (.tup (.cons (.call 20 (.cons (.attr (.loc 1) 3) (.cons (.loc 3) .nil))) (.cons (.own 46 (.loc 0) (.cons (.loc 2) .nil)) .nil))))
  .nil) .nil)
  (.cons (.ite (.cmp .ne (.loc 4) (.str "mcr")) (.cons (.ret .none)
  .nil) .nil)
  (.cons (.asg (.loc 5) (.own 46 (.loc 0) (.cons (.loc 2) .nil)))
  (.cons (.asg (.loc 6) (.own 47 (.loc 0) (.cons (.loc 5) (.cons (.str "MCID") .nil))))
  (.cons (.ite (.andor false (.cons (.cmp .ne (.call 28 (.cons (.loc 6) .nil)) (.str "int")) (.cons (.cmp .lt (.loc 6) (.int 0)) .nil))) (.cons (.ret .none)
  .nil) .nil)
  (.cons (.ret (.tup (.cons (.call 20 (.cons (.ite (.cmp .isin (.str "Pg") (.loc 5)) (.loc 5) (.attr (.loc 1) 3)) (.cons (.loc 3) .nil))) (.cons (.loc 6) .nil))))
  .nil)))))))⟩
def sf_content_told:SM:=[("shelf",0),("element",1),("item",2),("places",3),("sort",4),("head",5),("number",6)]
def f_contents_of:FD:=⟨3,6,(.cons (.asg (.loc 3) (.comp (.call 21 (.cons (.loc 0) (.cons (.loc 1) (.cons (.loc 5) (.cons (.loc 2) .nil))))) [5] (.seq (.call 15 (.cons (.loc 0) (.cons (.attr (.loc 1) 3) .nil)))) .nil))
  (.cons (.ret (.comp (.loc 4) [4] (.seq (.loc 3)) (.cons (.cmp .isnot (.loc 4) .none) .nil)))
  .nil))⟩
def sf_contents_of:SM:=[("shelf",0),("element",1),("places",2),("told_ones",3)]
def f_objects_of:FD:=⟨2,5,(.cons (.asg (.loc 2) (.comp (.own 46 (.loc 0) (.cons (.loc 4) .nil)) [4] (.seq (.call 15 (.cons (.loc 0) (.cons (.attr (.loc 1) 3) .nil)))) (.cons (.cmp .eq (.call 16 (.cons (.loc 0) (.cons (.loc 4) .nil))) (.str "objr")) .nil)))
  (.cons (.ret (.comp (.item (.loc 3) (.str "Obj")) [3] (.seq (.loc 2)) (.cons (.isinst (.meth 0 (.loc 3) (.cons (.str "Obj") .nil)) 3) .nil)))
  .nil))⟩
def sf_objects_of:SM:=[("shelf",0),("element",1),("heads",2)]
def B_structure_rows_0:PSs:=(.cons (.asg (.loc 4) (.call 22 (.cons (.loc 0) (.cons (.loc 3) (.cons (.loc 1) .nil)))))
  (.cons (.asg (.loc 5) (.ite (.cmp .ne (.loc 4) (.list .nil)) (.item (.item (.loc 4) (.int 0)) (.int 0)) (.call 20 (.cons (.attr (.loc 3) 3) (.cons (.loc 1) .nil)))))
  (.cons (.expr (.meth 1 (.loc 2) (.cons (.tup (.cons (.attr (.loc 3) 11) (.cons (.call 19 (.cons (.loc 0) (.cons (.attr (.loc 3) 3) .nil))) (.cons (.loc 5) (.cons (.bi 7 (.comp (.item (.loc 6) (.int 1)) [6] (.seq (.loc 4)) .nil)) .nil))))) .nil)))
  .nil)))
def f_structure_rows:FD:=⟨1,7,(.cons (.asg (.loc 1) (.call 14 (.cons (.loc 0) .nil)))
  (.cons (.asg (.loc 2) (.list .nil))
  (.cons (.for_ [3] (.seq (.call 18 (.cons (.loc 0) .nil))) B_structure_rows_0)
  (.cons (.ret (.loc 2))
  .nil))))⟩
def sf_structure_rows:SM:=[("shelf",0),("places",1),("rows",2),("element",3),("pairs",4),("page",5)]
def f_own_text:FD:=⟨2,3,(.cons (.asg (.loc 2) (.own 47 (.loc 0) (.cons (.attr (.loc 1) 3) (.cons (.str "ActualText") .nil))))
  (.cons (.ret (.ite (.isinst (.loc 2) 1) (.call 4 (.cons (.attr (.loc 2) 1) .nil)) .none))
  .nil))⟩
def sf_own_text:SM:=[("shelf",0),("element",1),("value",2)]
def B_gathered_text_0:PSs:=(.cons (.ite (.cmp .eq (.call 16 (.cons (.loc 0) (.cons (.loc 6) .nil))) (.str "element")) (.cons (.expr (.meth 1 (.loc 5) (.cons (.meth 4 (.loc 4) (.cons (.int 0) .nil)) .nil)))
  .nil) (.cons (.expr (.meth 1 (.loc 5) (.cons (.meth 0 (.loc 3) (.cons (.call 21 (.cons (.loc 0) (.cons (.loc 1) (.cons (.loc 6) (.cons (.loc 2) .nil))))) (.cons (.str "") .nil))) .nil)))
  .nil))
  .nil)
def f_gathered_text:FD:=⟨5,7,(.cons (.asg (.loc 5) (.list .nil))
  (.cons (.for_ [6] (.seq (.call 15 (.cons (.loc 0) (.cons (.attr (.loc 1) 3) .nil)))) B_gathered_text_0)
  (.cons (.ret (.meth 5 (.str "") (.cons (.loc 5) .nil)))
  .nil)))⟩
def sf_gathered_text:SM:=[("shelf",0),("element",1),("places",2),("texts",3),("kid_texts",4),("signs",5),("item",6)]
def B_element_texts_0:PSs:=(.cons (.asg (.loc 7) (.call 25 (.cons (.loc 0) (.cons (.item (.loc 3) (.loc 6)) .nil))))
  (.cons (.asg (.sub (.loc 4) (.loc 6)) (.ite (.cmp .is (.loc 7) .none) (.call 26 (.cons (.loc 0) (.cons (.item (.loc 3) (.loc 6)) (.cons (.loc 2) (.cons (.loc 1) (.cons (.item (.loc 5) (.loc 6)) .nil)))))) (.loc 7)))
  (.cons (.ite (.cmp .ge (.attr (.item (.loc 3) (.loc 6)) 8) (.int 0)) (.cons (.expr (.meth 3 (.item (.loc 5) (.attr (.item (.loc 3) (.loc 6)) 8)) (.cons (.int 0) (.cons (.item (.loc 4) (.loc 6)) .nil))))
  .nil) .nil)
  .nil)))
def f_element_texts:FD:=⟨2,9,(.cons (.asg (.loc 2) (.call 14 (.cons (.loc 0) .nil)))
  (.cons (.asg (.loc 3) (.call 18 (.cons (.loc 0) .nil)))
  (.cons (.asg (.loc 4) (.bin .mul (.list (.cons (.str "") .nil)) (.bi 0 (.loc 3))))
  (.cons (.asg (.loc 5) (.comp (.list .nil) [8] (.seq (.loc 3)) .nil))
  (.cons (.for_ [6] (.range (.cons (.bin .sub (.bi 0 (.loc 3)) (.int 1)) (.cons (.neg (.int 1)) (.cons (.neg (.int 1)) .nil)))) B_element_texts_0)
  (.cons (.ret (.loc 4))
  .nil))))))⟩
def sf_element_texts:SM:=[("shelf",0),("texts",1),("places",2),("rows",3),("found",4),("kid_rows",5),("at",6),("text",7)]
def f_kind_of:FD:=⟨1,1,(.cons (.ite (.cmp .is (.loc 0) .none) (.cons (.ret (.str "null"))
  .nil) .nil)
  (.cons (.ite (.isinst (.loc 0) 10) (.cons (.ret (.str "truth"))
  .nil) .nil)
  (.cons (.ite (.isinst (.loc 0) 11) (.cons (.ret (.str "int"))
  .nil) .nil)
  (.cons (.ite (.isinst (.loc 0) 8) (.cons (.ret (.str "real"))
  .nil) .nil)
  (.cons (.ite (.isinst (.loc 0) 0) (.cons (.ret (.str "name"))
  .nil) .nil)
  (.cons (.ite (.isinst (.loc 0) 1) (.cons (.ret (.str "string"))
  .nil) .nil)
  (.cons (.ite (.isinst (.loc 0) 12) (.cons (.ret (.str "array"))
  .nil) .nil)
  (.cons (.ite (.isinst (.loc 0) 13) (.cons (.ret (.str "dict"))
  .nil) .nil)
  (.cons (.ite (.isinst (.loc 0) 2) (.cons (.ret (.str "stream"))
  .nil) .nil)
  (.cons (.ite (.isinst (.loc 0) 3) (.cons (.ret (.str "ref"))
  .nil) .nil)
  (.cons (.setattr .none 0 (.andor true .nil))
  .nil)))))))))))⟩
def sf_kind_of:SM:=[("value",0)]
def B_law_tape_0:PSs:=(.cons (.asg (.loc 1) (.bin .add (.bin .mul (.loc 1) (.int 4099)) (.bi 1 (.bi 2 (.loc 3)))))
  (.cons (.asg (.loc 2) (.bin .mod (.bin .add (.bin .mul (.loc 2) (.int 523)) (.bi 2 (.loc 3))) (.int 1000000007)))
  .nil))
def f_law_tape:FD:=⟨1,4,(.cons (.asgs [(.loc 1),(.loc 2)] (.tup (.cons (.int 0) (.cons (.int 0) .nil))))
  (.cons (.for_ [3] (.seq (.upto (.loc 0) (.int 63))) B_law_tape_0)
  (.cons (.ret (.list (.cons (.loc 1) (.cons (.loc 2) (.cons (.int 0) .nil)))))
  .nil)))⟩
def sf_law_tape:SM:=[("script",0),("digits",1),("seed",2),("cell",3)]
def f_law_draw:FD:=⟨2,3,(.cons (.ite (.cmp .eq (.item (.loc 0) (.int 0)) (.int 0)) (.cons (.asg (.sub (.loc 0) (.int 2)) (.bin .add (.item (.loc 0) (.int 2)) (.int 1)))
  (.cons (.asg (.sub (.loc 0) (.int 0)) (.bin .mod (.bin .pow (.bin .add (.item (.loc 0) (.int 1)) (.bin .mul (.int 70001) (.item (.loc 0) (.int 2)))) (.int 3)) (.int 1000000007)))
  .nil)) .nil)
  (.cons (.asg (.loc 2) (.bin .mod (.item (.loc 0) (.int 0)) (.loc 1)))
  (.cons (.asg (.sub (.loc 0) (.int 0)) (.bin .fdiv (.item (.loc 0) (.int 0)) (.loc 1)))
  (.cons (.ret (.loc 2))
  .nil))))⟩
def sf_law_draw:SM:=[("tape",0),("many",1),("digit",2)]
def B_law_dressed_0:PSs:=(.cons (.asg (.loc 5) (.bin .add (.int 100) (.bi 0 (.loc 1))))
  (.cons (.asg (.sub (.loc 1) (.loc 5)) (.tup (.cons (.int 0) (.cons (.loc 3) .nil))))
  (.cons (.asg (.loc 3) (.new 3 (.cons (.loc 5) (.cons (.int 0) .nil))))
  .nil)))
def f_law_dressed:FD:=⟨3,6,(.cons (.asg (.loc 3) (.loc 2))
  (.cons (.for_ [4] (.range (.cons (.item (.tup (.cons (.int 0) (.cons (.int 1) (.cons (.int 0) (.cons (.int 2) .nil))))) (.call 30 (.cons (.loc 0) (.cons (.int 4) .nil)))) .nil)) B_law_dressed_0)
  (.cons (.ret (.loc 3))
  .nil)))⟩
def sf_law_dressed:SM:=[("tape",0),("table",1),("bare",2),("here",3),("hop",4),("fresh",5)]
def B_law_roles_0:PSs:=(.cons (.asg (.loc 6) (.call 30 (.cons (.loc 0) (.cons (.int 7) .nil))))
  (.cons (.ite (.cmp .lt (.loc 6) (.int 5)) (.cons (.asg (.sub (.loc 3) (.loc 5)) (.item (.glob 4) (.loc 6)))
  (.cons (.asg (.sub (.loc 4) (.loc 5)) (.call 31 (.cons (.loc 0) (.cons (.loc 1) (.cons (.new 0 (.cons (.item (.glob 4) (.loc 6)) .nil)) .nil)))))
  .nil)) .nil)
  (.cons (.ite (.cmp .eq (.loc 6) (.int 5)) (.cons (.asg (.sub (.loc 4) (.loc 5)) (.call 31 (.cons (.loc 0) (.cons (.loc 1) (.cons (.new 1 (.cons (.bytes [65]) .nil)) .nil)))))
  .nil) .nil)
  .nil)))
def f_law_roles:FD:=⟨2,7,(.cons (.asg (.loc 2) (.call 30 (.cons (.loc 0) (.cons (.int 5) .nil))))
  (.cons (.asgs [(.loc 3),(.loc 4)] (.tup (.cons (.dictS [] .nil) (.cons (.dictS [] .nil) .nil))))
  (.cons (.for_ [5] (.seq (.glob 4)) B_law_roles_0)
  (.cons (.ite (.cmp .eq (.loc 2) (.int 0)) (.cons (.ret (.tup (.cons (.dictS [] .nil) (.cons .none .nil))))
  .nil) .nil)
  (.cons (.ite (.cmp .eq (.loc 2) (.int 1)) (.cons (.ret (.tup (.cons (.dictS [] .nil) (.cons (.call 31 (.cons (.loc 0) (.cons (.loc 1) (.cons (.int 5) .nil)))) .nil))))
  .nil) .nil)
  (.cons (.ret (.tup (.cons (.loc 3) (.cons (.call 31 (.cons (.loc 0) (.cons (.loc 1) (.cons (.loc 4) .nil)))) .nil))))
  .nil))))))⟩
def sf_law_roles:SM:=[("tape",0),("table",1),("way",2),("plain",3),("laid",4),("word",5),("goal",6)]
def f_law_place:FD:=⟨2,3,(.cons (.asg (.loc 2) (.call 30 (.cons (.loc 0) (.cons (.int 6) .nil))))
  (.cons (.ite (.cmp .lt (.loc 2) (.int 3)) (.cons (.ret (.tup (.cons (.new 3 (.cons (.bin .add (.int 3) (.loc 2)) (.cons (.int 0) .nil))) (.cons (.meth 7 (.loc 1) (.cons (.bin .add (.int 3) (.loc 2)) .nil)) .nil))))
  .nil) .nil)
  (.cons (.ite (.cmp .eq (.loc 2) (.int 3)) (.cons (.ret (.tup (.cons (.new 3 (.cons (.int 99) (.cons (.int 0) .nil))) (.cons (.neg (.int 1)) .nil))))
  .nil) .nil)
  (.cons (.ret (.ite (.cmp .eq (.loc 2) (.int 4)) (.tup (.cons (.dictS [] .nil) (.cons (.neg (.int 1)) .nil))) (.tup (.cons .none (.cons .none .nil)))))
  .nil))))⟩
def sf_law_place:SM:=[("tape",0),("order",1),("way",2)]
def f_law_nothing:FD:=⟨3,6,(.cons (.asgs [(.loc 3),(.loc 4)] (.tup (.cons (.call 31 (.cons (.loc 0) (.cons (.loc 1) (.cons (.new 0 (.cons (.str "MCR") .nil)) .nil)))) (.cons (.new 0 (.cons (.str "OBJR") .nil)) .nil))))
  (.cons (.asg (.loc 5) (.list (.cons (.dictS ["Type"] (.cons (.loc 3) .nil)) (.cons (.dictS ["Type","MCID"] (.cons (.loc 3) (.cons (.bin .sub (.neg (.int 1)) (.loc 2)) .nil))) (.cons (.dictS ["Type","MCID"] (.cons (.loc 3) (.cons (.bool true) .nil))) .nil)))))
  (.cons (.asg (.loc 5) (.bin .add (.loc 5) (.list (.cons (.dictS ["Type","MCID","Pg"] (.cons (.loc 3) (.cons (.new 3 (.cons (.int 99) (.cons (.int 0) .nil))) (.cons (.new 3 (.cons (.int 3) (.cons (.int 0) .nil))) .nil)))) (.cons (.dictS ["Type","MCID"] (.cons (.loc 3) (.cons (.new 0 (.cons (.str "A") .nil)) .nil))) .nil)))))
  (.cons (.asg (.loc 5) (.bin .add (.loc 5) (.list (.cons (.dictS ["Type"] (.cons (.loc 4) .nil)) (.cons (.dictS ["Type","Obj"] (.cons (.loc 4) (.cons (.dictS [] .nil) .nil))) (.cons (.dictS ["Type","Obj"] (.cons (.loc 4) (.cons (.loc 2) .nil))) (.cons .none (.cons (.list (.cons (.loc 2) .nil)) (.cons (.bin .sub (.neg (.int 1)) (.loc 2)) (.cons (.bool true) .nil))))))))))
  (.cons (.asg (.loc 5) (.bin .add (.loc 5) (.list (.cons (.new 0 (.cons (.str "A") .nil)) (.cons (.new 1 (.cons (.bytes [48]) .nil)) (.cons (.new 3 (.cons (.int 99) (.cons (.int 0) .nil))) (.cons (.new 3 (.cons (.int 9) (.cons (.int 0) .nil))) .nil)))))))
  (.cons (.ret (.item (.loc 5) (.call 30 (.cons (.loc 0) (.cons (.bi 0 (.loc 5)) .nil)))))
  .nil))))))⟩
def sf_law_nothing:SM:=[("tape",0),("table",1),("digit",2),("mark",3),("link",4),("some",5)]
def f_law_thing:FD:=⟨4,11,(.cons (.asg (.loc 4) (.item (.loc 1) (.str "table")))
  (.cons (.asg (.loc 5) (.call 30 (.cons (.loc 0) (.cons (.int 6) .nil))))
  (.cons (.ite (.andor true (.cons (.cmp .lt (.loc 5) (.ite (.cmp .eq (.loc 3) (.int 0)) (.int 4) (.int 2))) (.cons (.cmp .lt (.loc 3) (.int 4)) (.cons (.cmp .gt (.item (.loc 1) (.str "left")) (.int 0)) .nil)))) (.cons (.ret (.call 38 (.cons (.loc 0) (.cons (.loc 1) (.cons (.loc 3) .nil)))))
  .nil) .nil)
  (.cons (.asg (.loc 6) (.call 30 (.cons (.loc 0) (.cons (.int 4) .nil))))
  (.cons (.ite (.cmp .eq (.loc 5) (.int 5)) (.cons (.asg (.loc 7) (.call 34 (.cons (.loc 0) (.cons (.loc 4) (.cons (.loc 6) .nil)))))
  (.cons (.ret (.tup (.cons (.call 31 (.cons (.loc 0) (.cons (.loc 4) (.cons (.loc 7) .nil)))) (.cons (.dictS ["is"] (.cons (.str "nothing") .nil)) (.cons (.andor true (.cons (.cmp .isnot (.loc 7) .none) (.cons (.not (.isinst (.loc 7) 12)) .nil))) .nil)))))
  .nil)) .nil)
  (.cons (.ite (.cmp .eq (.loc 5) (.int 4)) (.cons (.asg (.loc 8) (.dictS ["Type","Obj"] (.cons (.call 31 (.cons (.loc 0) (.cons (.loc 4) (.cons (.new 0 (.cons (.str "OBJR") .nil)) .nil)))) (.cons (.new 3 (.cons (.bin .add (.int 6) (.loc 6)) (.cons (.int 0) .nil))) .nil))))
  (.cons (.ret (.tup (.cons (.call 31 (.cons (.loc 0) (.cons (.loc 4) (.cons (.loc 8) .nil)))) (.cons (.dictS ["is","number"] (.cons (.str "object") (.cons (.bin .add (.int 6) (.loc 6)) .nil))) (.cons (.bool true) .nil)))))
  .nil)) .nil)
  (.cons (.ite (.cmp .eq (.loc 5) (.int 3)) (.cons (.asgs [(.loc 9),(.loc 10)] (.call 33 (.cons (.loc 0) (.cons (.item (.loc 1) (.str "order")) .nil))))
  (.cons (.asg (.loc 8) (.dictS ["Type","MCID"] (.cons (.call 31 (.cons (.loc 0) (.cons (.loc 4) (.cons (.new 0 (.cons (.str "MCR") .nil)) .nil)))) (.cons (.call 31 (.cons (.loc 0) (.cons (.loc 4) (.cons (.loc 6) .nil)))) .nil))))
  (.cons (.ite (.cmp .isnot (.loc 9) .none) (.cons (.asg (.sub (.loc 8) (.str "Pg")) (.loc 9))
  .nil) .nil)
  (.cons (.ret (.tup (.cons (.call 31 (.cons (.loc 0) (.cons (.loc 4) (.cons (.loc 8) .nil)))) (.cons (.dictS ["is","page","number"] (.cons (.str "content") (.cons (.ite (.cmp .is (.loc 10) .none) (.loc 2) (.loc 10)) (.cons (.loc 6) .nil)))) (.cons (.bool true) .nil)))))
  .nil)))) .nil)
  (.cons (.ret (.tup (.cons (.call 31 (.cons (.loc 0) (.cons (.loc 4) (.cons (.loc 6) .nil)))) (.cons (.dictS ["is","page","number"] (.cons (.str "content") (.cons (.loc 2) (.cons (.loc 6) .nil)))) (.cons (.bool true) .nil)))))
  .nil))))))))⟩
def sf_law_thing:SM:=[("tape",0),("world",1),("home",2),("deep",3),("table",4),("way",5),("digit",6),("bare",7),("head",8),("given",9),("page",10)]
def f_law_words_told:FD:=⟨3,6,(.cons (.asg (.loc 3) (.call 30 (.cons (.loc 0) (.cons (.int 7) .nil))))
  (.cons (.ite (.cmp .lt (.loc 3) (.int 5)) (.cons (.asg (.sub (.loc 2) (.str "S")) (.call 31 (.cons (.loc 0) (.cons (.loc 1) (.cons (.new 0 (.cons (.item (.glob 4) (.loc 3)) .nil)) .nil)))))
  .nil) .nil)
  (.cons (.ite (.cmp .eq (.loc 3) (.int 5)) (.cons (.asg (.sub (.loc 2) (.str "S")) (.call 31 (.cons (.loc 0) (.cons (.loc 1) (.cons (.new 1 (.cons (.bytes [65]) .nil)) .nil)))))
  .nil) .nil)
  (.cons (.asg (.loc 4) (.call 30 (.cons (.loc 0) (.cons (.int 8) .nil))))
  (.cons (.ite (.cmp .lt (.loc 4) (.int 4)) (.cons (.asg (.loc 5) (.list (.cons (.new 1 (.cons (.bytes [111,119,110]) .nil)) (.cons (.new 1 (.cons (.bytes [254,255,3,177]) .nil)) (.cons (.new 1 (.cons (.bytes []) .nil)) (.cons (.new 0 (.cons (.str "own") .nil)) .nil))))))
  (.cons (.asg (.sub (.loc 2) (.str "ActualText")) (.call 31 (.cons (.loc 0) (.cons (.loc 1) (.cons (.item (.loc 5) (.loc 4)) .nil)))))
  .nil)) .nil)
  (.cons (.ite (.cmp .eq (.call 30 (.cons (.loc 0) (.cons (.int 2) .nil))) (.int 1)) (.cons (.asg (.sub (.loc 2) (.str "Type")) (.new 0 (.cons (.str "StructElem") .nil)))
  .nil) .nil)
  (.cons (.ret (.tup (.cons (.ite (.cmp .lt (.loc 3) (.int 5)) (.item (.glob 4) (.loc 3)) (.str "")) (.cons (.ite (.cmp .lt (.loc 4) (.int 3)) (.item (.tup (.cons (.str "own") (.cons (.bi 3 (.int 945)) (.cons (.str "") .nil)))) (.loc 4)) .none) .nil))))
  .nil)))))))⟩
def sf_law_words_told:SM:=[("tape",0),("table",1),("head",2),("role",3),("way",4),("some",5)]
def f_law_row_put:FD:=⟨4,7,(.cons (.asg (.loc 4) (.comp (.item (.loc 6) (.int 0)) [6] (.seq (.loc 3)) .nil))
  (.cons (.asg (.loc 5) (.call 30 (.cons (.loc 0) (.cons (.int 3) .nil))))
  (.cons (.ite (.andor true (.cons (.cmp .eq (.bi 0 (.loc 4)) (.int 0)) (.cons (.cmp .eq (.loc 5) (.int 1)) .nil))) (.cons (.asg (.sub (.loc 2) (.str "K")) (.new 3 (.cons (.int 99) (.cons (.int 0) .nil))))
  .nil) (.cons (.ite (.andor true (.cons (.cmp .eq (.bi 0 (.loc 4)) (.int 1)) (.cons (.cmp .eq (.loc 5) (.int 0)) (.cons (.item (.item (.loc 3) (.int 0)) (.int 2)) .nil)))) (.cons (.asg (.sub (.loc 2) (.str "K")) (.item (.loc 4) (.int 0)))
  .nil) (.cons (.ite (.andor false (.cons (.cmp .gt (.bi 0 (.loc 4)) (.int 0)) (.cons (.cmp .eq (.loc 5) (.int 2)) .nil))) (.cons (.asg (.sub (.loc 2) (.str "K")) (.call 31 (.cons (.loc 0) (.cons (.loc 1) (.cons (.loc 4) .nil)))))
  .nil) .nil)
  .nil))
  .nil))
  (.cons (.ret (.loc 4))
  .nil))))⟩
def sf_law_row_put:SM:=[("tape",0),("table",1),("head",2),("things",3),("row",4),("way",5)]
def f_law_element:FD:=⟨3,10,(.cons (.asg (.loc 3) (.item (.loc 1) (.str "table")))
  (.cons (.asg (.sub (.loc 1) (.str "left")) (.bin .sub (.item (.loc 1) (.str "left")) (.int 1)))
  (.cons (.asg (.loc 4) (.dictS ["is","number","head"] (.cons (.str "element") (.cons (.int 0) (.cons (.dictS [] .nil) .nil)))))
  (.cons (.ite (.cmp .gt (.call 30 (.cons (.loc 0) (.cons (.int 3) .nil))) (.int 0)) (.cons (.asg (.sub (.loc 4) (.str "number")) (.bin .add (.int 100) (.bi 0 (.loc 3))))
  (.cons (.asg (.sub (.loc 3) (.item (.loc 4) (.str "number"))) (.tup (.cons (.int 0) (.cons (.item (.loc 4) (.str "head")) .nil))))
  .nil)) .nil)
  (.cons (.asgs [(.loc 5),(.loc 6)] (.call 33 (.cons (.loc 0) (.cons (.item (.loc 1) (.str "order")) .nil))))
  (.cons (.asg (.sub (.loc 4) (.str "page")) (.ite (.cmp .is (.loc 6) .none) (.neg (.int 1)) (.loc 6)))
  (.cons (.ite (.cmp .isnot (.loc 5) .none) (.cons (.asg (.sub (.item (.loc 4) (.str "head")) (.str "Pg")) (.loc 5))
  .nil) .nil)
  (.cons (.asgs [(.sub (.loc 4) (.str "word")),(.sub (.loc 4) (.str "own"))] (.call 36 (.cons (.loc 0) (.cons (.loc 3) (.cons (.item (.loc 4) (.str "head")) .nil)))))
  (.cons (.asg (.loc 7) (.comp (.call 35 (.cons (.loc 0) (.cons (.loc 1) (.cons (.item (.loc 4) (.str "page")) (.cons (.bin .add (.loc 2) (.int 1)) .nil))))) [9] (.range (.cons (.call 30 (.cons (.loc 0) (.cons (.int 4) .nil))) .nil)) .nil))
  (.cons (.asg (.sub (.loc 4) (.str "row")) (.call 37 (.cons (.loc 0) (.cons (.loc 3) (.cons (.item (.loc 4) (.str "head")) (.cons (.loc 7) .nil))))))
  (.cons (.asg (.sub (.loc 4) (.str "things")) (.comp (.item (.loc 8) (.int 1)) [8] (.seq (.loc 7)) .nil))
  (.cons (.ret (.tup (.cons (.ite (.cmp .gt (.item (.loc 4) (.str "number")) (.int 0)) (.new 3 (.cons (.item (.loc 4) (.str "number")) (.cons (.int 0) .nil))) (.item (.loc 4) (.str "head"))) (.cons (.loc 4) (.cons (.bool true) .nil)))))
  .nil))))))))))))⟩
def sf_law_element:SM:=[("tape",0),("world",1),("deep",2),("table",3),("one",4),("given",5),("page",6),("things",7)]
def B_law_flat_0:PSs:=(.cons (.ite (.cmp .eq (.item (.loc 4) (.str "is")) (.str "element")) (.cons (.expr (.meth 1 (.loc 3) (.cons (.tup (.cons (.loc 4) (.cons (.loc 1) (.cons (.loc 2) .nil)))) .nil)))
  (.cons (.expr (.call 39 (.cons (.item (.loc 4) (.str "things")) (.cons (.bin .add (.loc 1) (.int 1)) (.cons (.bin .sub (.bi 0 (.loc 3)) (.int 1)) (.cons (.loc 3) .nil))))))
  .nil)) .nil)
  .nil)
def f_law_flat:FD:=⟨4,5,(.cons (.for_ [4] (.seq (.loc 0)) B_law_flat_0)
  .nil)⟩
def sf_law_flat:SM:=[("things",0),("deep",1),("above",2),("found",3),("one",4)]
def B_law_comes_again_0:PSs:=(.cons (.asg (.loc 2) (.meth 0 (.loc 0) (.cons (.loc 2) (.cons (.str "") .nil))))
  (.cons (.ite (.cmp .eq (.loc 2) (.loc 1)) (.cons (.ret (.bool true))
  .nil) .nil)
  .nil))
def f_law_comes_again:FD:=⟨2,4,(.cons (.asg (.loc 2) (.loc 1))
  (.cons (.for_ [3] (.range (.cons (.int 5) .nil)) B_law_comes_again_0)
  (.cons (.ret (.bool false))
  .nil)))⟩
def sf_law_comes_again:SM:=[("plain",0),("word",1),("here",2),("turn",3)]
def B_law_role_0:PSs:=(.cons (.asg (.loc 2) (.item (.loc 0) (.loc 2)))
  .nil)
def f_law_role:FD:=⟨2,3,(.cons (.asg (.loc 2) (.loc 1))
  (.cons (.whil (.andor true (.cons (.cmp .isin (.loc 2) (.loc 0)) (.cons (.not (.call 40 (.cons (.loc 0) (.cons (.loc 2) .nil)))) .nil))) B_law_role_0)
  (.cons (.ret (.loc 2))
  .nil)))⟩
def sf_law_role:SM:=[("plain",0),("word",1),("here",2)]
def B_law_text_0:PSs:=(.cons (.ite (.cmp .eq (.item (.loc 3) (.str "is")) (.str "element")) (.cons (.asg (.loc 2) (.bin .add (.loc 2) (.call 42 (.cons (.loc 3) (.cons (.loc 1) .nil)))))
  .nil) .nil)
  (.cons (.ite (.cmp .eq (.item (.loc 3) (.str "is")) (.str "content")) (.cons (.asg (.loc 2) (.bin .add (.loc 2) (.meth 0 (.loc 1) (.cons (.tup (.cons (.item (.loc 3) (.str "page")) (.cons (.item (.loc 3) (.str "number")) .nil))) (.cons (.str "") .nil)))))
  .nil) .nil)
  .nil))
def f_law_text:FD:=⟨2,4,(.cons (.ite (.cmp .isnot (.item (.loc 0) (.str "own")) .none) (.cons (.ret (.item (.loc 0) (.str "own")))
  .nil) .nil)
  (.cons (.asg (.loc 2) (.str ""))
  (.cons (.for_ [3] (.seq (.item (.loc 0) (.str "things"))) B_law_text_0)
  (.cons (.ret (.loc 2))
  .nil))))⟩
def sf_law_text:SM:=[("one",0),("texts",1),("signs",2),("kid",3)]
def B_law_rows_0:PSs:=(.cons (.asg (.loc 6) (.comp (.loc 9) [9] (.seq (.item (.loc 3) (.str "things"))) (.cons (.cmp .eq (.item (.loc 9) (.str "is")) (.str "content")) .nil)))
  (.cons (.asg (.loc 7) (.ite (.cmp .gt (.bi 0 (.loc 6)) (.int 0)) (.item (.item (.loc 6) (.int 0)) (.str "page")) (.item (.loc 3) (.str "page"))))
  (.cons (.expr (.meth 1 (.loc 2) (.cons (.tup (.cons (.loc 4) (.cons (.call 41 (.cons (.loc 1) (.cons (.item (.loc 3) (.str "word")) .nil))) (.cons (.loc 7) (.cons (.bi 7 (.comp (.item (.loc 8) (.str "number")) [8] (.seq (.loc 6)) .nil)) .nil))))) .nil)))
  .nil)))
def f_law_rows:FD:=⟨2,10,(.cons (.asg (.loc 2) (.list .nil))
  (.cons (.for_ [3,4,5] (.seq (.loc 0)) B_law_rows_0)
  (.cons (.ret (.loc 2))
  .nil)))⟩
def sf_law_rows:SM:=[("flat",0),("plain",1),("due",2),("one",3),("deep",4),("above",5),("contents",6),("page",7)]
def f_law_is_refused:FD:=⟨2,2,(.cons (.try_ (.cons (.ite (.cmp .eq (.loc 1) (.int 0)) (.cons (.expr (.call 18 (.cons (.loc 0) .nil)))
  .nil) (.cons (.ite (.cmp .eq (.loc 1) (.int 1)) (.cons (.expr (.call 24 (.cons (.loc 0) .nil)))
  .nil) (.cons (.expr (.call 27 (.cons (.loc 0) (.cons (.dictS [] .nil) .nil))))
  .nil))
  .nil))
  .nil) (.cons (.ret (.bool true))
  .nil))
  (.cons (.ret (.bool false))
  .nil))⟩
def sf_law_is_refused:SM:=[("shelf",0),("way",1)]
def B_law_0:PSs:=(.cons (.asg (.sub (.loc 7) (.loc 8)) (.tup (.cons (.int 0) (.cons (.dictS ["Type","Parent"] (.cons (.new 0 (.cons (.str "Page") .nil)) (.cons (.new 3 (.cons (.int 2) (.cons (.int 0) .nil))) .nil))) .nil))))
  .nil)
def f_law:FD:=⟨1,48,(.cons (.asg (.loc 1) (.call 29 (.cons (.loc 0) .nil)))
  (.cons (.asgs [(.loc 2),(.loc 3),(.loc 4),(.loc 5)] (.tup (.cons (.cmp .eq (.call 30 (.cons (.loc 1) (.cons (.int 3) .nil))) (.int 0)) (.cons (.call 30 (.cons (.loc 1) (.cons (.int 7) .nil))) (.cons (.call 30 (.cons (.loc 1) (.cons (.int 8) .nil))) (.cons (.call 30 (.cons (.loc 1) (.cons (.int 4) .nil))) .nil))))))
  (.cons (.asg (.loc 6) (.item (.glob 5) (.call 30 (.cons (.loc 1) (.cons (.int 6) .nil)))))
  (.cons (.asg (.loc 7) (.dictI [2,9] (.cons (.tup (.cons (.int 0) (.cons (.dictS ["Type","Kids","Count"] (.cons (.new 0 (.cons (.str "Pages") .nil)) (.cons (.comp (.new 3 (.cons (.loc 47) (.cons (.int 0) .nil))) [47] (.seq (.loc 6)) .nil) (.cons (.int 3) .nil)))) .nil))) (.cons (.tup (.cons (.int 0) (.cons (.new 2 (.cons (.dictS [] .nil) (.cons (.bytes []) .nil))) .nil))) .nil))))
  (.cons (.for_ [8] (.seq (.loc 6)) B_law_0)
  (.cons (.asgs [(.loc 9),(.loc 10)] (.call 32 (.cons (.loc 1) (.cons (.loc 7) .nil))))
  (.cons (.asg (.loc 11) (.dictS ["table","left","order"] (.cons (.loc 7) (.cons (.int 6) (.cons (.loc 6) .nil)))))
  (.cons (.asg (.loc 12) (.comp (.call 35 (.cons (.loc 1) (.cons (.loc 11) (.cons (.neg (.int 1)) (.cons (.int 0) .nil))))) [46] (.range (.cons (.bin .add (.int 1) (.call 30 (.cons (.loc 1) (.cons (.int 3) .nil)))) .nil)) .nil))
  (.cons (.asg (.loc 13) (.dictS ["Type"] (.cons (.new 0 (.cons (.str "StructTreeRoot") .nil)) .nil)))
  (.cons (.asg (.loc 14) (.call 37 (.cons (.loc 1) (.cons (.loc 7) (.cons (.loc 13) (.cons (.loc 12) .nil))))))
  (.cons (.ite (.cmp .isnot (.loc 10) .none) (.cons (.asg (.sub (.loc 13) (.str "RoleMap")) (.loc 10))
  .nil) .nil)
  (.cons (.asg (.sub (.loc 7) (.int 1)) (.tup (.cons (.int 0) (.cons (.dictS ["Type","Pages","StructTreeRoot"] (.cons (.new 0 (.cons (.str "Catalog") .nil)) (.cons (.new 3 (.cons (.int 2) (.cons (.int 0) .nil))) (.cons (.call 31 (.cons (.loc 1) (.cons (.loc 7) (.cons (.loc 13) .nil)))) .nil)))) .nil))))
  (.cons (.asg (.loc 15) (.new 7 (.cons (.loc 7) (.cons (.dictS ["Root"] (.cons (.new 3 (.cons (.int 1) (.cons (.int 0) .nil))) .nil)) .nil))))
  (.cons (.asg (.loc 16) (.list .nil))
  (.cons (.expr (.call 39 (.cons (.comp (.item (.loc 45) (.int 1)) [45] (.seq (.loc 12)) .nil) (.cons (.int 0) (.cons (.neg (.int 1)) (.cons (.loc 16) .nil))))))
  (.cons (.asg (.loc 17) (.call 18 (.cons (.loc 15) .nil)))
  (.cons (.ite (.cmp .ne (.comp (.tup (.cons (.ite (.cmp .is (.attr (.loc 41) 6) .none) (.int 0) (.attr (.attr (.loc 41) 6) 4)) (.cons (.attr (.loc 41) 11) (.cons (.attr (.loc 41) 8) .nil)))) [41] (.seq (.loc 17)) .nil) (.comp (.tup (.cons (.item (.loc 42) (.str "number")) (.cons (.loc 43) (.cons (.loc 44) .nil)))) [42,43,44] (.seq (.loc 16)) .nil)) (.cons (.ret (.bool false))
  .nil) .nil)
  (.cons (.ite (.cmp .ne (.call 24 (.cons (.loc 15) .nil)) (.call 43 (.cons (.loc 16) (.cons (.loc 9) .nil)))) (.cons (.ret (.bool false))
  .nil) .nil)
  (.cons (.ite (.cmp .ne (.comp (.comp (.attr (.loc 36) 4) [36] (.seq (.call 23 (.cons (.loc 15) (.cons (.loc 35) .nil)))) .nil) [35] (.seq (.loc 17)) .nil) (.comp (.comp (.item (.loc 40) (.str "number")) [40] (.seq (.item (.loc 37) (.str "things"))) (.cons (.cmp .eq (.item (.loc 40) (.str "is")) (.str "object")) .nil)) [37,38,39] (.seq (.loc 16)) .nil)) (.cons (.ret (.bool false))
  .nil) .nil)
  (.cons (.asg (.loc 18) (.bi 5 (.comp2 (.tup (.cons (.tup (.cons (.loc 33) (.cons (.loc 34) .nil))) (.cons (.bin .add (.item (.str "pqrs") (.bin .add (.loc 33) (.int 1))) (.item (.str "0123") (.loc 34))) .nil))) [33] (.seq (.tup (.cons (.neg (.int 1)) (.cons (.int 0) (.cons (.int 1) (.cons (.int 2) .nil)))))) [34] (.range (.cons (.int 4) .nil)) (.cons (.cmp .ne (.bin .add (.loc 33) (.bin .mul (.int 2) (.loc 34))) (.int 5)) .nil))))
  (.cons (.ite (.cmp .ne (.call 27 (.cons (.loc 15) (.cons (.loc 18) .nil))) (.comp (.call 42 (.cons (.loc 30) (.cons (.loc 18) .nil))) [30,31,32] (.seq (.loc 16)) .nil)) (.cons (.ret (.bool false))
  .nil) .nil)
  (.cons (.asg (.loc 19) (.comp (.item (.loc 27) (.str "number")) [27,28,29] (.seq (.loc 16)) (.cons (.cmp .gt (.item (.loc 27) (.str "number")) (.int 0)) .nil)))
  (.cons (.ite (.andor false (.cons (.not (.loc 2)) (.cons (.cmp .eq (.bi 0 (.loc 19)) (.int 0)) .nil))) (.cons (.ret (.bool true))
  .nil) .nil)
  (.cons (.asg (.loc 20) (.bin .add (.list (.cons (.tup (.cons (.loc 13) (.cons (.loc 14) .nil))) .nil)) (.comp (.tup (.cons (.item (.loc 24) (.str "head")) (.cons (.item (.loc 24) (.str "row")) .nil))) [24,25,26] (.seq (.loc 16)) .nil)))
  (.cons (.asgs [(.loc 21),(.loc 22)] (.item (.loc 20) (.bin .mod (.loc 4) (.bi 0 (.loc 20)))))
  (.cons (.asg (.loc 23) (.bin .mod (.loc 5) (.bin .add (.bi 0 (.loc 22)) (.int 1))))
  (.cons (.asg (.sub (.loc 21) (.str "K")) (.bin .add (.bin .add (.upto (.loc 22) (.loc 23)) (.list (.cons (.new 3 (.cons (.item (.loc 19) (.bin .mod (.loc 3) (.bi 0 (.loc 19)))) (.cons (.int 0) .nil))) .nil))) (.fro (.loc 22) (.loc 23))))
  (.cons (.ret (.andor true (.cons (.call 44 (.cons (.loc 15) (.cons (.int 0) .nil))) (.cons (.call 44 (.cons (.loc 15) (.cons (.int 1) .nil))) (.cons (.call 44 (.cons (.loc 15) (.cons (.int 2) .nil))) .nil)))))
  .nil))))))))))))))))))))))))))))⟩
def sf_law:SM:=[("script",0),("tape",1),("is_again",2),("which",3),("where",4),("spot",5),("order",6),("table",7),("place",8),("plain",9),("laid",10),("world",11),("things",12),("root",13),("row",14),("shelf",15),("flat",16),("heard",17),("texts",18),("numbered",19),("holders",20),("head",21),("elder",22),("at",23)]
def B_fetch_0:PSs:=(.cons (.ite (.not (.isinst (.loc 2) 3)) (.cons (.ret (.loc 2))
  .nil) .nil)
  (.cons (.asgs [(.loc 4),(.loc 5)] (.meth 0 (.attr (.loc 0) 12) (.cons (.attr (.loc 2) 4) (.cons (.tup (.cons (.neg (.int 1)) (.cons .none .nil))) .nil))))
  (.cons (.ite (.cmp .ne (.loc 4) (.attr (.loc 2) 5)) (.cons (.ret .none)
  .nil) .nil)
  (.cons (.asg (.loc 2) (.loc 5))
  .nil))))
def m_fetch:FD:=⟨2,6,(.cons (.asg (.loc 2) (.loc 1))
  (.cons (.for_ [3] (.range (.cons (.glob 3) .nil)) B_fetch_0)
  (.cons (.ret (.ite (.isinst (.loc 2) 3) .none (.loc 2)))
  .nil)))⟩
def sm_fetch:SM:=[("self",0),("value",1),("here",2),("hop",3),("generation",4),("found",5)]
def m_get:FD:=⟨3,3,(.cons (.ret (.own 46 (.loc 0) (.cons (.meth 0 (.loc 1) (.cons (.loc 2) .nil)) .nil)))
  .nil)⟩
def sm_get:SM:=[("self",0),("head",1),("key",2)]
def m_root:FD:=⟨1,2,(.cons (.asg (.loc 1) (.own 47 (.loc 0) (.cons (.attr (.loc 0) 13) (.cons (.str "Root") .nil))))
  (.cons (.ret (.ite (.isinst (.loc 1) 13) (.loc 1) (.dictS [] .nil)))
  .nil))⟩
def sm_root:SM:=[("self",0),("found",1)]
def TT:List FD:=[f_sign_of,f_accent_signs,f_mark_signs,f_text_of_units,f_text_of,f_home_of,f_is_node,f_kids_of,f_met,f_spots,f_page_spots,f_pages,f_fields_of,f_structure_root,f_page_places,f_items_of,f_sort_of,f_element_of,f_elements,f_role_of,f_page_told,f_content_told,f_contents_of,f_objects_of,f_structure_rows,f_own_text,f_gathered_text,f_element_texts,f_kind_of,f_law_tape,f_law_draw,f_law_dressed,f_law_roles,f_law_place,f_law_nothing,f_law_thing,f_law_words_told,f_law_row_put,f_law_element,f_law_flat,f_law_comes_again,f_law_role,f_law_text,f_law_rows,f_law_is_refused,f_law,m_fetch,m_get,m_root]
def SS:List SM:=[sf_sign_of,sf_accent_signs,sf_mark_signs,sf_text_of_units,sf_text_of,sf_home_of,sf_is_node,sf_kids_of,sf_met,sf_spots,sf_page_spots,sf_pages,sf_fields_of,sf_structure_root,sf_page_places,sf_items_of,sf_sort_of,sf_element_of,sf_elements,sf_role_of,sf_page_told,sf_content_told,sf_contents_of,sf_objects_of,sf_structure_rows,sf_own_text,sf_gathered_text,sf_element_texts,sf_kind_of,sf_law_tape,sf_law_draw,sf_law_dressed,sf_law_roles,sf_law_place,sf_law_nothing,sf_law_thing,sf_law_words_told,sf_law_row_put,sf_law_element,sf_law_flat,sf_law_comes_again,sf_law_role,sf_law_text,sf_law_rows,sf_law_is_refused,sf_law,sm_fetch,sm_get,sm_root]
def TB:Tab:=⟨[("sign_of":Str),("accent_signs":Str),("mark_signs":Str),("text_of_units":Str),("text_of":Str),("home_of":Str),("is_node":Str),("kids_of":Str),("met":Str),("spots":Str),("page_spots":Str),("pages":Str),("fields_of":Str),("structure_root":Str),("page_places":Str),("items_of":Str),("sort_of":Str),("element_of":Str),("elements":Str),("role_of":Str),("page_told":Str),("content_told":Str),("contents_of":Str),("objects_of":Str),("structure_rows":Str),("own_text":Str),("gathered_text":Str),("element_texts":Str),("kind_of":Str),("_law_tape":Str),("_law_draw":Str),("_law_dressed":Str),("_law_roles":Str),("_law_place":Str),("_law_nothing":Str),("_law_thing":Str),("_law_words_told":Str),("_law_row_put":Str),("_law_element":Str),("_law_flat":Str),("_law_comes_again":Str),("_law_role":Str),("_law_text":Str),("_law_rows":Str),("_law_is_refused":Str),("law":Str),Str.empty,Str.empty,Str.empty],
 List.replicate 46 Str.empty++[("fetch":Str),("get":Str),("root":Str)],
 [("Name":Str),("String":Str),("Stream":Str),("Reference":Str),("Page":Str),("Spot":Str),("Element":Str),("Shelf":Str),("Decimal":Str)],[("MARK":Str),("UNKNOWN":Str),("INHERITED":Str),("MOST_HOPS":Str),("_law_words":Str),("_law_orders":Str)]⟩
end Law
def codeIn (K:Frag) (code:Value) (q:Str):Bool:=match code with
 | .ref cd=>(match K.lookup cd with
  | some ⟨_,_,.fields vs,_⟩=>(match (vs[1]? :Option Value) with | some (Value.str q' _)=>q'==q | _=>false)
  | _=>false)
 | _=>false
theorem codeIn_spec {K:Frag} {code:Value} {q:Str} (h:codeIn K code q=true):∃ cd oc vs t,code=.ref cd/\K.lookup cd=some oc/\oc.data=.fields vs/\vs[1]? =some (.str q t):=by
 unfold codeIn at h;split at h
 ·rename_i cd;split at h
  ·rename_i c d vs sl e;split at h
   ·rename_i q' t e';rw[beq_iff_eq] at h;subst h;exact⟨cd,_,vs,t,rfl,e,rfl,e'⟩
   ·cases h
  ·cases h
 ·cases h
def parsOk (sc:Scope) (sm:SM):List Str->Nat->Bool
 | [],_=>true
 | x::r,i=>sm.lookup x==some i&&(sc.names.lookup x==some .local||sc.names.lookup x==some .cell)&&parsOk sc sm r (i+1)
theorem parsOk_spec {sc:Scope} {sm:SM}:∀ {l:List Str} {k:Nat},parsOk sc sm l k=true->∀ i x,l[i]? =some x->sm.lookup x=some (k+i)/\(sc.names.lookup x=some .local\/sc.names.lookup x=some .cell)
 | [],_,_,i,x,e=>by simp at e
 | y::r,k,h,i,x,e=>by
  unfold parsOk at h;simp only[Bool.and_eq_true,Bool.or_eq_true,beq_iff_eq] at h;obtain⟨⟨h1,h2⟩,h3⟩:=h;cases i with
  | zero=>cases e;exact⟨h1,h2⟩
  | succ j=>
   have:=parsOk_spec h3 j x (by simpa using e);rw[Nat.add_assoc,Nat.add_comm 1 j] at this;exact this
def chkFn (K:Frag) (T:Tab) (tf:Str) (a:Addr) (d:FD) (sm:SM):Bool:=match K.lookup a with
 | some ⟨_,_,.func fd,_⟩=>
  (match fd.params,fd.body with
   | ⟨[],ps,none,[],[],none,[]⟩,.stmts body=>fd.defaults==.none&&fd.closure.isEmpty&&fd.globals==mainGlobals&&fd.builtins==builtinsNs&&codeIn K fd.code fd.qualname&&d.np==ps.length&&noDup (ps.map (·.arg))&&
     parsOk fd.scope sm (ps.map (·.arg)) 0&&fd.scope.kind==.function&&!fd.scope.isCoroutine&&!fd.scope.isGenerator&&noDup (sm.map (·.2))&&chkTop T tf d.body fd.scope sm body
   | _,_=>false)
 | _=>false
theorem chkFn_spec {c:Cfg} {T:Tab} {tf:Str} {f:Nat} {d:FD} {sm:SM} (h:chkFn c.K T tf (c.fa f) d sm=true):∃ sc body sm,FnRec c f d.np sc body sm/\chkTop T tf d.body sc sm body=true:=by
 unfold chkFn at h;split at h
 ·rename_i oc od fd sl e;split at h
  ·rename_i ps body e1 e2;simp only[Bool.and_eq_true,beq_iff_eq,Bool.not_eq_true',List.isEmpty_iff] at h;obtain⟨⟨⟨⟨⟨⟨⟨⟨⟨⟨⟨⟨h1,h2⟩,h3⟩,h4⟩,h5⟩,h6⟩,h7⟩,h8⟩,h9⟩,h10⟩,h11⟩,h12⟩,h13⟩:=h;refine⟨fd.scope,body,sm,⟨⟨_,fd,ps,e,rfl,e1,h1,rfl,e2,h2,h3,h4,codeIn_spec h5,h6,noDup_spec h7,fun i x q=>?_⟩,h9,h10,h11,noDup_spec h12⟩,h13⟩;have:=parsOk_spec h8 i x q;rwa [Nat.zero_add] at this
  ·cases h
 ·cases h
mutual
def rvIn (K:Frag):AV->Value->Bool
 | .none,v=>v==.none
 | .bool b,v=>v==.bool b
 | .int i,v=>match v with | .int j _=>i==j | _=>false
 | .str i,v=>match v with | .str j _=>i==j | _=>false
 | .bytes i,v=>match v with | .bytes j _=>i==j.toList | _=>false
 | .tup l,v=>match v with
  | .ref a=>(match K.lookup a with
   | some ⟨cl,none,.seq vs _,sl⟩=>cl==.type "tuple"&&sl.toList.isEmpty&&rvLIn K l vs.toList
   | _=>false)
  | _=>false
 | .ref _,_=>false
 | .inst _ _,_=>false
def rvLIn (K:Frag):List AV->List Value->Bool
 | [],vs=>vs.isEmpty
 | a::l,vs=>match vs with | v::vs=>rvIn K a v&&rvLIn K l vs | []=>false
end
section
variable {c:Cfg} {D:Addr->Prop} {h:Heap}
mutual
theorem rvIn_spec (X:c.K.In h) (hD:∀ a o,c.K.lookup a=some o->D a):∀ (a:AV) (v:Value),rvIn c.K a v=true->Rv c D h v a
 | .none,v,e=>by unfold rvIn at e;rw[beq_iff_eq] at e;rw[e];exact .none
 | .bool b,v,e=>by unfold rvIn at e;rw[beq_iff_eq] at e;rw[e];exact .bool b
 | .int i,v,e=>by
  unfold rvIn at e;split at e
  ·rw[beq_iff_eq] at e;rw[e];exact .int _ _
  ·cases e
 | .str i,v,e=>by
  unfold rvIn at e;split at e
  ·rw[beq_iff_eq] at e;rw[e];exact .str _ _
  ·cases e
 | .bytes i,v,e=>by
  unfold rvIn at e;split at e
  ·rw[beq_iff_eq] at e;rw[e];exact .bytes _ _
  ·cases e
 | .tup l,v,e=>by
  unfold rvIn at e;split at e
  ·rename_i a;split at e
   ·rename_i cl vs n sl q;rw[Bool.and_eq_true,Bool.and_eq_true,beq_iff_eq] at e;obtain⟨⟨rfl,e0⟩,e⟩:=e;have e1:sl=#[]:=Array.toList_eq_nil_iff.mp (List.isEmpty_iff.mp e0);subst e1;exact .tup (hD _ _ q) (X _ _ q) (rvLIn_spec X hD l vs.toList e)
   ·cases e
  ·cases e
 | .ref _,_,e=>by cases e
 | .inst _ _,_,e=>by cases e
theorem rvLIn_spec (X:c.K.In h) (hD:∀ a o,c.K.lookup a=some o->D a):∀ (a:List AV) (v:List Value),rvLIn c.K a v=true->RvL c D h v a
 | [],v,e=>by unfold rvLIn at e;rw[List.isEmpty_iff.mp e];exact .nil
 | a::l,v,e=>by
  unfold rvLIn at e;split at e
  ·rw[Bool.and_eq_true] at e;exact .cons (rvIn_spec X hD a _ e.1) (rvLIn_spec X hD l _ e.2)
  ·cases e
end
end
def clsB (K:Frag) (C:Addr) (k:Nat):Bool:=makesIn K C&&plainOver K C&&(clsIn K C).any (·.hasDict)&&(findIn K (.ref C) "__setattr__"==some (some (.builtin "object.__setattr__")))&&(fieldsOf k).all fun f=>takerIn K C (attrName f)==some none
theorem clsB_spec {K:Frag} {C:Addr} {k:Nat} (h:clsB K C k=true):ClsRec K C k:=by
 unfold clsB at h;simp only[Bool.and_eq_true,beq_iff_eq,List.all_eq_true] at h;exact⟨h.1.1.1.1,h.1.1.1.2,h.1.1.2,h.1.2,h.2⟩
def initFn (K:Frag) (C:Addr):Option (Addr×Obj×FuncData×List Stmt):=match findIn K (.ref C) "__init__" with
 | some (some (.ref f))=>(match K.lookup f with
  | some ⟨c,d,.func fd,sl⟩=>(match fd.body with | .stmts sts=>some (f,⟨c,d,.func fd,sl⟩,fd,sts) | _=>none)
  | _=>none)
 | _=>none
theorem initFn_spec {K:Frag} {C f:Addr} {o:Obj} {fd:FuncData} {sts:List Stmt} (h:initFn K C=some (f,o,fd,sts)):findIn K (.ref C) "__init__"=some (some (.ref f))/\K.lookup f=some o/\o.data=.func fd/\fd.body=.stmts sts:=by
 unfold initFn at h;split at h
 ·rename_i f' e;split at h
  ·rename_i c d fd' sl e';split at h
   ·rename_i sts' e'';cases h;exact⟨e,e',rfl,e''⟩
   ·cases h
  ·cases h
 ·cases h
def initB (K:Frag) (C:Addr) (k:Nat) (orNew:Bool) (P:FuncData->Bool):Bool:=clsB K C k&&match initFn K C with
 | some (f,o,fd,sts)=>typeIn K (.ref f)==some (.type "function")&&codeIn K fd.code fd.qualname&&fd.scope.names.all (fun x=>x.2 != .cell)&&fd.scope.names.lookup ("self":Str)==some .local&&(fieldsOf k).all (fun g=>fd.scope.names.lookup (attrName g)==some .local)&&
   initLines orNew (fieldsOf k) sts&&!fd.scope.isCoroutine&&!fd.scope.isGenerator&&fd.scope.kind==.function&&P fd
 | none=>false
theorem initB_spec {K:Frag} {C:Addr} {k:Nat} {orNew:Bool} {P:FuncData->Bool} (h:initB K C k orNew P=true):∃ f o fd sts,InitRec K C k orNew f o fd sts/\P fd=true:=by
 unfold initB at h;rw[Bool.and_eq_true] at h;obtain⟨h0,h⟩:=h;split at h
 ·rename_i f o fd sts e;obtain⟨e1,e2,e3,e4⟩:=initFn_spec e;simp only[Bool.and_eq_true,beq_iff_eq,List.all_eq_true,bne_iff_ne,Bool.not_eq_true'] at h;obtain⟨⟨⟨⟨⟨⟨⟨⟨⟨h1,h2⟩,h3⟩,h4⟩,h5⟩,h6⟩,h7⟩,h8⟩,h9⟩,h10⟩:=h;exact⟨f,o,fd,sts,⟨clsB_spec h0,e1,h1,e2,e3,codeIn_spec h2,e4,h3,h4,h5,h6,h7,h8,h9⟩,h10⟩
 ·cases h
def plainP (k:Nat) (fd:FuncData):Bool:=match fd.params with
 | ⟨[],ps,none,[],[],none,[]⟩=>fd.defaults==.none&&ps.map (·.arg)==("self":Str)::(fieldsOf k).map attrName
 | _=>false
def dfltP (K:Frag) (a b d:Str) (vs:List Value) (fd:FuncData):Bool:=match fd.params with
 | ⟨[],[⟨x,none,_⟩,⟨y,none,_⟩,⟨z,none,_⟩],none,[],[],none,_⟩=>x==a&&y==b&&z==d&&(match fd.defaults with
  | .ref Td=>(match K.lookup Td with | some ⟨_,_,.seq ws _,_⟩=>ws.toList==vs | _=>false)
  | _=>false)
 | _=>false
theorem dfltP_spec {K:Frag} {a b d:Str} {vs:List Value} {fd:FuncData} (h:dfltP K a b d vs fd=true):∃ p1 p2 p3 ds Td oT n,fd.params=⟨[],[⟨a,none,p1⟩,⟨b,none,p2⟩,⟨d,none,p3⟩],none,[],[],none,ds⟩/\fd.defaults=.ref Td/\K.lookup Td=some oT/\oT.data=.seq vs.toArray n:=by
 unfold dfltP at h;split at h
 ·rename_i x p1 y p2 z p3 ds e;simp only[Bool.and_eq_true,beq_iff_eq] at h;obtain⟨⟨⟨rfl,rfl⟩,rfl⟩,h⟩:=h;split at h
  ·rename_i Td e';split at h
   ·rename_i c dd ws n sl e'';rw[beq_iff_eq] at h;exact⟨p1,p2,p3,ds,Td,_,n,e,e',e'',by show Data.seq ws n=_;rw[<- h]⟩
   ·cases h
  ·cases h
 ·cases h
def newsB (K:Frag) (ca:Nat->Addr):Bool:=[0,2,3,4,5,6].all (fun k=>initB K (ca k) k false (plainP k))&&initB K (ca 1) 1 false (dfltP K "self" "octets" "is_hex" [.bool false])&&initB K (ca 7) 7 true (dfltP K "self" "table" "trailer" [.none,.none])
theorem newsB_spec {c:Cfg} (h:newsB c.K c.ca=true):NewsOk c:=by
 unfold newsB at h;simp only[Bool.and_eq_true,List.all_eq_true] at h;obtain⟨⟨h1,h2⟩,h3⟩:=h;refine⟨fun k hk=>?_,?_,?_⟩
 ·obtain⟨f,o,fd,sts,I,hp⟩:=initB_spec (h1 k hk);unfold plainP at hp;split at hp
  ·rename_i ps e;rw[Bool.and_eq_true,beq_iff_eq,beq_iff_eq] at hp;exact⟨f,o,fd,sts,ps,I,e,hp.1,hp.2⟩
  ·cases hp
 ·obtain⟨f,o,fd,sts,I,hp⟩:=initB_spec h2;obtain⟨p1,p2,p3,ds,Td,oT,n,e1,e2,e3,e4⟩:=dfltP_spec hp;exact⟨f,o,fd,sts,p1,p2,p3,ds,Td,oT,n,I,e1,e2,e3,e4⟩
 ·obtain⟨f,o,fd,sts,I,hp⟩:=initB_spec h3;obtain⟨p1,p2,p3,ds,Td,oT,n,e1,e2,e3,e4⟩:=dfltP_spec hp;exact⟨f,o,fd,sts,p1,p2,p3,ds,Td,oT,n,I,e1,e2,e3,e4⟩
def allIx {α:Type} (P:Nat->α->Bool):List α->Nat->Bool
 | [],_=>true
 | x::r,i=>P i x&&allIx P r (i+1)
theorem allIx_spec {α:Type} {P:Nat->α->Bool}:∀ {l:List α} {k:Nat},allIx P l k=true->∀ i x,l[i]? =some x->P (k+i) x=true
 | [],_,_,i,x,e=>by simp at e
 | y::r,k,h,i,x,e=>by
  unfold allIx at h;rw[Bool.and_eq_true] at h;cases i with
  | zero=>cases e;exact h.1
  | succ j=>
   have:=allIx_spec h.2 j x (by simpa using e);rw[Nat.add_assoc,Nat.add_comm 1 j] at this;exact this
def ownB (K:Frag) (C f:Addr) (x:Str):Bool:=(findIn K (.ref C) "__getattribute__"==some (some (.builtin "object.__getattribute__")))&&(findIn K (.ref C) "__getattr__"==some none)&&(findIn K (.ref C) x==some (some (.ref f)))&&
 (typeIn K (.ref f)==some (.type "function"))&&keepIn K (.ref f)&&(fieldsOf 7).all fun g=>attrName g != x
def tabB (K:Frag) (ca fa:Nat->Addr) (G:Nat->Option AV) (T:Tab):Bool:=isiOk K ca&&ownOk K ca&&classOk K&&allIx (fun f x=>x==Str.empty||(globIn K x==some (.ref (fa f))&&keepIn K (.ref (fa f)))) T.fns 0&&
 allIx (fun f x=>x==Str.empty||ownB K (ca 7) (fa f) x) T.mths 0&&allIx (fun k x=>globIn K x==some (.ref (ca k))&&keepIn K (.ref (ca k))) T.cls 0&&
 allIx (fun g x=>match G g with | some v=>(match globIn K x with | some w=>rvIn K v w | none=>false) | none=>true) T.glbs 0&&bis.all fun p=>globIn K p.1==some p.2
theorem tabB_spec {c:Cfg} {T:Tab} (h:tabB c.K c.ca c.fa c.G T=true):GoodT c T:=by
 unfold tabB at h;simp only[Bool.and_eq_true] at h;obtain⟨⟨⟨⟨⟨⟨⟨h1,h2⟩,h3⟩,h4⟩,h5⟩,h6⟩,h7⟩,h8⟩:=h;refine⟨⟨h1,h2,h3⟩,fun f x e n=>?_,fun f x e n=>?_,fun k x e=>?_,fun g x v e hv=>?_,fun p m=>?_⟩
 ·have:=allIx_spec h4 f x e;rw[Nat.zero_add,Bool.or_eq_true,Bool.and_eq_true,beq_iff_eq,beq_iff_eq] at this;exact this.resolve_left n
 ·have:=allIx_spec h5 f x e;rw[Nat.zero_add,Bool.or_eq_true,beq_iff_eq] at this;have:=this.resolve_left n;unfold ownB at this;simp only[Bool.and_eq_true,beq_iff_eq,List.all_eq_true,bne_iff_ne,ne_eq] at this;exact⟨this.1.1.1.1.1,this.1.1.1.1.2,this.1.1.1.2,this.1.1.2,this.1.2,this.2⟩
 ·have:=allIx_spec h6 k x e;rw[Nat.zero_add,Bool.and_eq_true,beq_iff_eq] at this;exact this
 ·have:=allIx_spec h7 g x e;rw[Nat.zero_add,hv] at this;dsimp only at this;split at this
  ·rename_i w e';exact⟨w,e',fun D h X hD=>rvIn_spec X hD v w this⟩
  ·cases this
 ·have:=List.all_eq_true.mp h8 p m;rwa [beq_iff_eq] at this
def paperB (K:Frag) (f:Addr) (i:Int):Bool:=typeIn K (.ref f)==some (.type "function")&&globIn K "Exception"==some (.type "Exception")&&(match findCls K (.type "Exception") (.type "type") "__init__" with | some (.val v)=>v==.builtin "Exception.__init__" | _=>false)&&match K.lookup f with
 | some ⟨_,_,.func fd,_⟩=>(match fd.params,fd.defaults,fd.body with
  | ⟨[],[⟨x,none,_⟩,⟨y,none,_⟩,⟨z,none,_⟩],none,[],[],none,_⟩,.ref Td,.stmts [.Expr (.Call (.Attribute (.Name n1 _) n2 q2) [.Name n3 _,.Name n4 _] [] q5) _,.Assign [.Attribute (.Name n5 _) n6 _] (.Name n7 _) _,.Assign [.Attribute (.Name n8 _) n9 _] (.Name n10 _) _]=>
   x==("self":Str)&&y==("what":Str)&&z==("at":Str)&&n1==("Exception":Str)&&n2==("__init__":Str)&&n3==("self":Str)&&n4==("what":Str)&&n5==("self":Str)&&n6==("what":Str)&&n7==("what":Str)&&n8==("self":Str)&&n9==("at":Str)&&n10==("at":Str)&&
   q2.endLine==q5.line&&(match K.lookup Td with | some ⟨_,_,.seq ws _,_⟩=>(match ws.toList with | [.int j _]=>j==i | _=>false) | _=>false)&&codeIn K fd.code fd.qualname&&fd.globals==mainGlobals&&fd.builtins==builtinsNs&&fd.scope.names.all (fun x=>x.2 != .cell)&&
   fd.scope.names.lookup ("self":Str)==some .local&&fd.scope.names.lookup ("what":Str)==some .local&&fd.scope.names.lookup ("at":Str)==some .local&&fd.scope.names.lookup ("Exception":Str)==some .globalImplicit&&!fd.scope.isCoroutine&&!fd.scope.isGenerator&&fd.scope.kind==.function
  | _,_,_=>false)
 | _=>false
theorem paperB_spec {K:Frag} {f:Addr} {i:Int} (h:paperB K f i=true):PaperRec K f i:=by
 unfold paperB at h;simp only[Bool.and_eq_true,beq_iff_eq] at h;obtain⟨⟨⟨h1,h2⟩,h3⟩,h⟩:=h;have h3':findCls K (.type "Exception") (.type "type") "__init__"=some (.val (.builtin "Exception.__init__")):=by
  split at h3
  ·rename_i v e;rw[beq_iff_eq] at h3;rw[e,h3]
  ·cases h3
 refine⟨h1,?_,h2,h3'⟩;split at h
 ·rename_i oc od fd sl e;split at h
  ·rename_i x p1 y p2 z p3 ds Td n1 q1 n2 q2 n3 q3 n4 q4 q5 q6 n5 a1 n6 a2 n7 a3 a4 n8 b1 n9 b2 n10 b3 b4 e1 e2 e3;simp only[Bool.and_eq_true,beq_iff_eq,List.all_eq_true,bne_iff_ne,Bool.not_eq_true'] at h;obtain⟨⟨⟨⟨⟨⟨⟨⟨⟨⟨⟨⟨⟨⟨⟨⟨⟨⟨⟨⟨⟨⟨⟨⟨⟨g1,g2⟩,g3⟩,g4⟩,g5⟩,g6⟩,g7⟩,g8⟩,g9⟩,g10⟩,g11⟩,g12⟩,g13⟩,g14⟩,g15⟩,g16⟩,g17⟩,g18⟩,g19⟩,g20⟩,g21⟩,g22⟩,g23⟩,g24⟩,g25⟩,g26⟩:=h;subst g1 g2 g3 g4 g5 g6 g7 g8 g9 g10 g11 g12 g13;split at g15
   ·rename_i tc td ws n tsl te;split at g15
    ·rename_i j tk we;rw[beq_iff_eq] at g15;subst g15;exact⟨_,fd,p1,p2,p3,ds,Td,_,n,tk,q1,q2,q3,q4,q5,q6,a1,a2,a3,a4,b1,b2,b3,b4,e,rfl,e1,e2,te,by show Data.seq ws n=_;rw[<- we],e3,g14,codeIn_spec g16,g17,g18,g19,g20,g21,g22,g23,g24,g25,g26⟩
    ·cases g15
   ·cases g15
  ·cases h
 ·cases h
def fnAll (K:Frag) (T:Tab) (tf:Str):Nat->List FD->List SM->List Nat->Bool
 | k,d::ds,m::ms,a::as=>(k==29||chkFn K T tf a d m)&&fnAll K T tf (k+1) ds ms as
 | _,[],_,_=>true
 | _,_,_,_=>false
theorem fnAll_at {K:Frag} {T:Tab} {tf:Str}:∀ {ds:List FD} {ms:List SM} {as:List Nat} {k:Nat},fnAll K T tf k ds ms as=true->∀ f d,k+f≠29->ds[f]? =some d->∃ sm,chkFn K T tf (as.getD f 0) d sm=true
 | d::ds,m::ms,a::as,k,h,f,d',hf,e=>by
  unfold fnAll at h;rw[Bool.and_eq_true,Bool.or_eq_true,beq_iff_eq] at h;cases f with
  | zero=>cases e;exact⟨m,h.1.resolve_left hf⟩
  | succ f=>exact fnAll_at h.2 f d' (by omega) (by simpa using e)
 | [],_,_,_,_,f,d,_,e=>by simp at e
 | _::_,[],_,_,h,_,_,_,_=>by cases h
 | _::_,_::_,[],_,h,_,_,_,_=>by cases h
theorem fnAll_spec {K:Frag} {T:Tab} {tf:Str} {ds:List FD} {ms:List SM} {as:List Nat} (h:fnAll K T tf 0 ds ms as=true) (f:Nat) (d:FD) (hf:f≠29) (e:ds[f]? =some d):∃ sm,chkFn K T tf (as.getD f 0) d sm=true:=
 fnAll_at h f d (by omega) e
def uptoS (sa:Nat) (as:List AV):AV->AV->M AV
 | .ref a,.int i=>req (a=sa/\0<=i/\i < 2 ^ 60/\as.length<=2 ^ 20) (mk (.list (as.take i.toNat)))
 | _,_=>no
section
variable {c:Cfg} {A:Around} {l:List Env} {X Y D D₁:Addr->Prop} {σ σ₁:St} {s s₁:Shared} {sc:Scope} {sm:SM} {env:Env} {ρ:Frame}
theorem slice_endK {x:Str} {px:Pos} {sl:Expr} {a:Nat} {vl vu:Value} {lo hi:Option Int} {as as':List AV} {Q:AV->St->Prop} {E:Value->Shared->Prop} (C:Conc c D σ s.heap) {vs:Array Value} {so:Obj} (e1:s.heap.get? a=some so) (hcl:so.cls=.type "list") (hdt:∃ n,so.data=.seq vs n) (r1:RvL c D s.heap vs.toList as) (pl:IsPart vl lo) (pu:IsPart vu hi)
  (hsl:∃ p q pos,sl=.Slice p q none pos) (hlen:as.length<=2 ^ 20) (hpick:∀ vs:Array Value,RvL c D s.heap vs.toList as->RvL c D s.heap (slicePick vs lo hi none).toList as') (hp:mk (.list as') Q (fun _=>True) σ):
  wpAny (model c.prog c.w) A (newFields "slice" [vl,vu,.none]) (fun i s₂=>wpAny (model c.prog c.w) A (subscriptTail (.Name x px) sl (.ref a) i) (fun v s'=>∃ D' σ' b,Rel c X (Yof l) D σ s D' σ' s'/\Rv c D' s'.heap v b/\Q b σ') E s₂) E s:=by
 have l1:=r1.length;rw[Array.length_toList] at l1;obtain⟨p,q,pos,rfl⟩:=hsl;refine wpAny_newObj_type ?_ (by simp [sizeOk,sizeLine_eq]);refine slice_listK (items:=vs) ⟨_,e1,hcl,hdt⟩ pl pu ?_ (by rfl) (fun _=>rfl) (by rw[l1,sizeLine_eq];omega);have r0:Rel c X (Yof l) D σ s D σ {s with heap:=s.heap.push {cls:=.type "slice",data:=.fields #[vl,vu,.none]}}:=.grow C (fun a ob e=>Heap.get?_push_of_some _ e) rfl rfl;obtain⟨D',σ',b,r2,h2,h3⟩:=doneList (X:=X) (l:=l) (Q:=Q) (s:={s with heap:=s.heap.push {cls:=.type "slice",data:=.fields #[vl,vu,.none]}}) r0.conc 0 s.toks ((hpick vs r1).mono r0.fz) hp;refine⟨D',σ',b,r0.trans C r2,?_,h3⟩;have:(s.heap.push {cls:=.type "slice",data:=.fields #[vl,vu,.none]}).objs.size=s.heap.objs.size+1:=Heap.size_push ..;rw[<- this];exact h2
theorem uptoK_ok {x:Str} {y:Expr} {p q:Frame->MB} {px pos sp:Pos} {sa:Nat} {so:Obj} {vs:Array Value} {as:List AV} (hk:c.K.lookup sa=some so) (hcl:so.cls=.type "list") (hdt:∃ n,so.data=.seq vs n) (hrv:∀ (D:Addr->Prop) (h:Heap),c.K.In h->(∀ a o,c.K.lookup a=some o->D a)->RvL c D h vs.toList as) (hx:EvOk c A l sc sm env (.Name x px) p) (hy:EvOk c A l sc sm env y q):
  EvOk c A l sc sm env (.Subscript (.Name x px) (.Slice none (some y) none sp) pos) fun ρ=>both (bnd (p ρ).1 fun a=>bnd (q ρ).1 fun b=>uptoS sa as a b):=fun D σ s ρ W e V=>by
 refine both_ok W ?_;intro Q E hp;refine Subscript_ ?_;refine Tri.use W (.refl W.conc) (hx D σ s ρ W e V).1 hp fun v s1 D1 σ1 a r1 _ W1 hv hq=>?_;rw[arm_eval_Slice];refine wpAny_bind (wpAny_pure (wpAny_bind (wpAny_holding ?_)));refine Tri.use W r1 (hy D1 σ1 s1 ρ W1 (e.rel r1) (V.relN e r1)).1 hq fun w s2 D2 σ2 b r2 r2' W2 hw hq=>?_;refine wpAny_bind (wpAny_holding (wpAny_pure ?_));have hv2:=hv.mono r2.fz;cases hv2<;>cases hw<;>first | exact hq.elim | skip
 rename_i a i t;obtain⟨⟨rfl,h0,h1,h2⟩,hq⟩:=hq;refine wpAny_mono (slice_endK (x:=x) (px:=px) (sl:=.Slice none (some y) none sp) (l:=l) (X:=NX) (Q:=Q) (E:=fun _ _=>False) W2.conc (W2.conc.kin _ _ hk) hcl hdt (hrv _ _ W2.conc.kin W2.conc.kD) .none (.int i t) ⟨_,_,_,rfl⟩ h2 (fun vs r=>?_) hq) ?_ fun _ _ z=>z.elim
 ·obtain⟨m,rfl⟩:=Int.eq_ofNat_of_zero_le h0;rw[slicePick_upto'];exact r.take _
 ·intro i' s3 h3;refine wpAny_mono h3 ?_ fun _ _ z=>z.elim;rintro v s4 ⟨D3,σ3,b,r3,h4,h5⟩;exact⟨D3,σ3,b,r2'.trans W.conc r3,h4,h5⟩
end
def seqF (p q:Frame->M (Fl×Frame)):Frame->M (Fl×Frame):=fun ρ=>bnd (p ρ) fun x=>(match x.1 with | .next=>q x.2 | _=>ret x)
def noF:Nat->List AV->M AV:=fun _ _=>no
def st1:PS:=.asgs [.loc 1,.loc 2] (.tup (.cons (.int 0) (.cons (.int 0) .nil)))
def stB:PSs:=.cons (.asg (.loc 1) (.bin .add (.bin .mul (.loc 1) (.int 4099)) (.bi 1 (.bi 2 (.loc 3))))) (.cons (.asg (.loc 2) (.bin .mod (.bin .add (.bin .mul (.loc 2) (.int 523)) (.bi 2 (.loc 3))) (.int 1000000007))) .nil)
def st3:PS:=.ret (.list (.cons (.loc 1) (.cons (.loc 2) (.cons (.int 0) .nil))))
def tapeIt (G:Nat->Option AV) (sa:Nat) (as:List AV):Frame->M It:=fun ρ=>bnd (both (bnd (ev noF newM G (.loc 0) ρ).1 fun a=>bnd (ev noF newM G (.int 63) ρ).1 fun b=>uptoS sa as a b)).1 seqM
def tapeFor (G:Nat->Option AV) (sa:Nat) (as:List AV):Frame->M (Fl×Frame):=fun ρ=>
 bnd (tapeIt G sa as ρ) fun I=>bnd (calm (forM I.ok stopF (fun v x=>bnd (tgtM x.2 [3] v) fun ρ'=>evSs noF newM G stB ρ') I.items (.next,ρ))) fun x=>ret (endF x)
def tapeQ (G:Nat->Option AV) (sa:Nat) (as:List AV):Frame->M (Fl×Frame):=
 seqF (fun ρ=>evS noF newM G st1 ρ) (seqF (tapeFor G sa as) (seqF (fun ρ=>evS noF newM G st3 ρ) fun ρ=>ret (.next,ρ)))
def tapeM (G:Nat->Option AV) (sa:Nat) (l:List AV) (as:List AV):M AV:=fun Q E σ=>as.length=1/\
 bnd (tapeQ G sa l (as.map some++List.replicate (4 - 1) none)) (fun x=>ret (match x.1 with | .ret v=>v | _=>.none)) Q E σ
def chkTape (T:Tab) (tf:Str) (sc:Scope) (sm:SM):List Stmt->Bool
 | [s1,.For target (.Subscript (.Name x px) (.Slice none (some y) none sp) p) fb [] fp,s3]=>chkS T tf st1 sc sm s1&&notSet (.Subscript (.Name x px) (.Slice none (some y) none sp) p)&&tgtOk sc sm target [3]&&chkE T (.loc 0) sc sm (.Name x px)&&chkE T (.int 63) sc sm y&&chkSs T tf stB sc sm fb&&chkS T tf st3 sc sm s3
 | _=>false
def chkFnP (K:Frag) (a:Addr) (np:Nat) (sm:SM) (P:Scope->List Stmt->Bool):Bool:=match K.lookup a with
 | some ⟨_,_,.func fd,_⟩=>
  (match fd.params,fd.body with
   | ⟨[],ps,none,[],[],none,[]⟩,.stmts body=>fd.defaults==.none&&fd.closure.isEmpty&&fd.globals==mainGlobals&&fd.builtins==builtinsNs&&codeIn K fd.code fd.qualname&&np==ps.length&&noDup (ps.map (·.arg))&&
     parsOk fd.scope sm (ps.map (·.arg)) 0&&fd.scope.kind==.function&&!fd.scope.isCoroutine&&!fd.scope.isGenerator&&noDup (sm.map (·.2))&&P fd.scope body
   | _,_=>false)
 | _=>false
theorem chkFnP_spec {c:Cfg} {f np:Nat} {sm:SM} {P:Scope->List Stmt->Bool} (h:chkFnP c.K (c.fa f) np sm P=true):∃ sc body,FnRec c f np sc body sm/\P sc body=true:=by
 unfold chkFnP at h;split at h
 ·rename_i oc od fd sl e;split at h
  ·rename_i ps body e1 e2;simp only[Bool.and_eq_true,beq_iff_eq,Bool.not_eq_true',List.isEmpty_iff] at h;obtain⟨⟨⟨⟨⟨⟨⟨⟨⟨⟨⟨⟨h1,h2⟩,h3⟩,h4⟩,h5⟩,h6⟩,h7⟩,h8⟩,h9⟩,h10⟩,h11⟩,h12⟩,h13⟩:=h;refine⟨fd.scope,body,⟨⟨_,fd,ps,e,rfl,e1,h1,rfl,e2,h2,h3,h4,codeIn_spec h5,h6,noDup_spec h7,fun i x q=>?_⟩,h9,h10,h11,noDup_spec h12⟩,h13⟩;have:=parsOk_spec h8 i x q;rwa [Nat.zero_add] at this
  ·cases h
 ·cases h
theorem tape_ok {c:Cfg} {T:Tab} {tf:Str} {f:Nat} {sm:SM} {sa:Nat} {so:Obj} {vs:Array Value} {as:List AV} (gt:GoodT c T) (nw:NewsOk c) (tr:TfRec c tf) (hk:c.K.lookup sa=some so) (hcl:so.cls=.type "list") (hdt:∃ n,so.data=.seq vs n)
  (hrv:∀ (D:Addr->Prop) (h:Heap),c.K.In h->(∀ a o,c.K.lookup a=some o->D a)->RvL c D h vs.toList as) (hc:chkFnP c.K (c.fa f) 1 sm (fun sc body=>chkTape T tf sc sm body)=true):
  ∀ (A:Around) (l:List Env),A.depth+3 < recursionLimit->A.units+200 < cLine->∀ (D:Addr->Prop) σ s vs as',Wd c A l D σ s->RvL c D s.heap vs as'->Tri c A l NX D σ s (call (.ref (c.fa f)) vs) (RV c) (tapeM c.G sa as as'):=by
 intro A l h1 h2 D σ s vs' as' W hv;obtain⟨sc,body,hr,hb⟩:=chkFnP_spec hc;refine fn_call (nl:=4) (q:=tapeQ c.G sa as) hr (by omega) (fun env=>?_) W hv;have d1:(A.deeper env).depth=A.depth+1:=rfl;have u1:(A.deeper env).units=A.units+3:=rfl;have hf:HF c (A.deeper env) (env::l) noF T:=fun f _ D σ s vs as W hv Q E hp=>hp.elim;have hn:HN c (A.deeper env) (env::l) newM T:=HN_ok nw (by omega) T;have hR:=HR_ok (l:=env::l) (A:=A.deeper env) tr (by omega);have hT:=HT_ok (l:=l) (env:=env) (A:=A.deeper env) tr;unfold chkTape at hb;split at hb
 ·rename_i s1 target x px y sp p fb fp s3;simp only[Bool.and_eq_true] at hb;obtain⟨⟨⟨⟨⟨⟨b1,b2⟩,b3⟩,b4⟩,b5⟩,b6⟩,b7⟩:=hb;refine top_st (stE gt (by omega) hf hn hR hT st1 sc sm s1 b1) (top_st (for_ok b2 b3 (seq_it (uptoK_ok hk hcl hdt hrv (evE gt (by omega) hf hn (.loc 0) sc sm env _ b4) (evE gt (by omega) hf hn (.int 63) sc sm env _ b5))) (stsE gt (by omega) hf hn hR hT stB sc sm fb b6)) (top_st (stE gt (by omega) hf hn hR hT st3 sc sm s3 b7) top_nil))
 ·cases hb
def GG:Nat->Option AV
 | 0=>some (.bytes [254,255])
 | 1=>some (.int 65533)
 | 2=>some (.tup [.str "Resources",.str "MediaBox",.str "CropBox",.str "Rotate"])
 | 3=>some (.int 30)
 | 4=>some (.tup [.str "A",.str "B",.str "C",.str "D",.str "E"])
 | 5=>some (.tup [.tup [.int 3,.int 4,.int 5],.tup [.int 3,.int 5,.int 4],.tup [.int 4,.int 3,.int 5],.tup [.int 4,.int 5,.int 3],.tup [.int 5,.int 3,.int 4],.tup [.int 5,.int 4,.int 3]])
 | _=>none
def lawM (sa:Nat) (l:List Int):List AV->M AV:=FnS GG Law.TT 29 (tapeM GG sa (l.map .int)) 100 45
def LawTrue:Prop:=∀ (sa:Nat) (l:List Int),l.length<=63->lawM sa l [.ref sa] (fun v _=>v=.bool true) (fun _=>False) (fun _=>none)
end Mine
section
set_option maxRecDepth 100000
set_option maxHeartbeats 0
open_top hd for PySem.Challenge.rw_pq0807_01
end
open PySem.Calls
namespace Mine
def xq:List Nat:=[386,372,379,393,398,448,455,462,469,476,488,493,483,521,526,533,540,547,552,559,566,573,578,583,588,595,602,607,265,622,629,636,643,650,657,664,671,676,681,688,695,702,709,714,721,726,299,306,355]
def xr:List Nat:=[183,205,226,254,416,437,510,363,155]
noncomputable def KK (P:Params) (sa:Addr) (so:Obj):Frag:=hd.heap_39 P++[(sa,so)]
noncomputable def cfg (prog:Program) (w:World) (sa:Addr) (so:Obj):Cfg:={prog:=prog,w:=w,K:=KK w.params sa so,ca:=fun k=>xr.getD k 0,fa:=fun f=>xq.getD f 0,tf:=59,G:=GG}
theorem mJ (P:Params) (sa:Addr) (so:Obj):tabB (KK P sa so) (fun k=>xr.getD k 0) (fun f=>xq.getD f 0) GG Law.TB=true:=by kernel_rfl
theorem jW (P:Params) (sa:Addr) (so:Obj):newsB (KK P sa so) (fun k=>xr.getD k 0)=true:=by kernel_rfl
theorem mK (P:Params) (sa:Addr) (so:Obj):paperB (KK P sa so) 36 (-1)=true:=by kernel_rfl
theorem sE (P:Params) (sa:Addr) (so:Obj):(KK P sa so).lookup 59=some (excClassObj "TreeFault" "TreeFault" 59 58 [.ref 46] [.ref 46,.type "Exception",.type "BaseException",.type "object"] true [] [] false none none (some (.ref 50)) none (some (.str "TreeFault" 236)) (some (.str "TreeFault" 244)) (some (.bool true)) "Exception.__new__"):=by kernel_rfl
theorem pF (P:Params) (sa:Addr) (so:Obj):findIn (KK P sa so) (.ref 59) "__setattr__"=some (some (.builtin "object.__setattr__")):=by kernel_rfl
theorem pG (P:Params) (sa:Addr) (so:Obj):findIn (KK P sa so) (.ref 59) "what"=some none:=by kernel_rfl
theorem uN (P:Params) (sa:Addr) (so:Obj):findIn (KK P sa so) (.ref 59) "at"=some none:=by kernel_rfl
theorem pI (P:Params) (sa:Addr) (so:Obj):findIn (KK P sa so) (.ref 59) "__init__"=some (some (.ref 36)):=by kernel_rfl
theorem pJ (P:Params) (sa:Addr) (so:Obj):globIn (KK P sa so) "TreeFault"=some (.ref 59):=by kernel_rfl
theorem pK (P:Params) (sa:Addr) (so:Obj):keepIn (KK P sa so) (.ref 59)=true:=by kernel_rfl
noncomputable def qt (prog:Program) (w:World) (sa:Addr) (so:Obj):TfRec (cfg prog w sa so) "TreeFault":=
 {R:={nm:=_,q:=_,N:=_,bs:=_,bm:=_,sn:=_,sub:=_,ab:=_,col:=_,k0:=_,k1:=_,k2:=_,k3:=_,k5:=_,cls:=sE w.params sa so,mro:=rfl,setA:=pF w.params sa so,what:=pG w.params sa so,at_:=uN w.params sa so},
  f:=36,i:=-1,P:=paperB_spec (mK w.params sa so),hi:=pI w.params sa so,glob:=pJ w.params sa so,keep:=pK w.params sa so}
theorem sF (P:Params) (sa:Addr) (so:Obj):fnAll (KK P sa so) Law.TB "TreeFault" 0 Law.TT Law.SS xq=true:=by kernel_rfl
theorem mL (P:Params) (sa:Addr) (so:Obj):chkFnP (KK P sa so) 622 1 Law.sf_law_tape (fun sc body=>chkTape Law.TB "TreeFault" sc Law.sf_law_tape body)=true:=by kernel_rfl
theorem sG (prog:Program) (w:World) {sa:Addr} {so:Obj} {vs:Array Value} {as:List AV} (hk:(KK w.params sa so).lookup sa=some so) (hcl:so.cls=.type "list") (hdt:∃ n,so.data=.seq vs n) (hrv:∀ (c:Cfg) (D:Addr->Prop) (h:Heap),RvL c D h vs.toList as):
  FnsOk (cfg prog w sa so) Law.TB "TreeFault" Law.TT 29 (tapeM GG sa as) where
 gt:=tabB_spec (mJ w.params _ _)
 nw:=newsB_spec (jW w.params _ _)
 tr:=⟨qt prog w _ _⟩
 fns:=fun f d hf e=>by
  obtain⟨sm,h⟩:=fnAll_spec (sF w.params _ _) f d hf e;exact chkFn_spec (c:=cfg prog w sa so) (f:=f) h
 sp_ok:=tape_ok (c:=cfg prog w sa so) (tabB_spec (mJ w.params _ _)) (newsB_spec (jW w.params _ _)) (qt prog w _ _) hk hcl hdt (fun D h _ _=>hrv _ D h) (mL w.params _ _)
theorem mM (P:Params):nsIn (hd.heap_39 P) mainGlobals "law"=some (some (.ref 726)):=by kernel_rfl
theorem at2 (P:Params) (sa:Addr) (so:Obj):∃ o,(KK P sa so).lookup 2=some o:=Option.isSome_iff_exists.mp (by kernel_rfl)
theorem Bc (P:Params) (sa:Addr) (so:Obj):∃ o,(KK P sa so).lookup 3=some o:=Option.isSome_iff_exists.mp (by kernel_rfl)
theorem uO {P:Params} {sa:Addr} {so:Obj} {h:Heap} (KX:(hd.heap_39 P).In h) (hs:h.get? sa=some so):(KK P sa so).In h/\(KK P sa so).lookup sa=some so:=by
 have e:∀ a,(KK P sa so).lookup a=match (hd.heap_39 P).lookup a with | some o=>some o | none=>if a==sa then some so else none:=fun a=>by
  unfold KK;rw[List.lookup_append];cases (hd.heap_39 P).lookup a with
  | some o=>rfl
  | none=>
   show List.lookup a [(sa,so)]=_;rw[List.lookup_cons];cases a==sa<;>rfl
 refine⟨fun a o q=>?_,?_⟩
 ·rw[e a] at q;cases z:(hd.heap_39 P).lookup a with
  | some o'=>rw[z] at q;cases q;exact KX a _ z
  | none=>
   rw[z] at q;dsimp only at q;split at q
   ·rename_i y;cases q;rw[beq_iff_eq.mp y];exact hs
   ·cases q
 ·rw[e sa];cases z:(hd.heap_39 P).lookup sa with
  | some o'=>have:=KX sa _ z;rw[hs] at this;cases this;rfl
  | none=>dsimp only;rw[beq_self_eq_true];rfl
theorem mN {c:Cfg} {D:Addr->Prop} {h:Heap}:∀ {vs:List Value} {l:List Int},IntsAre vs l->RvL c D h vs (l.map .int)
 | _,_,x=>by
  induction x with
  | nil=>exact .nil
  | cons _ _ _ ih=>exact .cons (.int _ _) ih
theorem pL {K:Frag} {h:Heap} (X:K.In h) {a:Addr} {m:Str->Option Value} (N:h.Ns a m) {x:Str} {v:Value} (e:nsIn K a x=some (some v)):m x=some v:=by
 obtain⟨o,es,ep,h1,h2,h3,h4⟩:=N;unfold nsIn at e;split at e
 ·rename_i c d es' n sl q;have:=X _ _ q;rw[h1] at this;cases this;cases h2;rw[<- h4 x];split at e
  ·rename_i en he;cases e;unfold nsFind findBy;rw[<- Array.find?_toList,he];rfl
  ·split at e<;>cases e
 ·cases e
theorem joined (hL:LawTrue):PySem.Challenge.rw_pq0807_01.Holds:=hd (by
 k_fill
 intro w s₀ s₁ mg mb G Y fa o pm cd doc dV kV ho zm hcd hD hmg hg args vals as xu xw Bd zo Be;have KX:=kIn_of Y;have xx:mg "law"=some (.ref fa):=hmg;clear ho zm hcd hD hmg Y;have fE:=pL KX G.T.g (mM w.params);rw[xx] at fE;cases fE;have T:=G.T
 wrow_args xu xw Bd zo Be
 rename_i l C5 fV C6 C7 hl2 as4 C8 sa vals C9 uP xy hW hR uQ hr hlen htr;obtain⟨so,Bf,hcl,hdt⟩:=uP;obtain⟨KI,Bg⟩:=uO KX Bf;obtain⟨o2,e2⟩:=at2 w.params sa so;obtain⟨o3,e3⟩:=Bc w.params sa so;have NS:=T.seer (by decide+kernel);obtain⟨mm,⟨oS,_,_,Bh,_⟩,_⟩:=NS.mods;obtain⟨oB,_,_,Bi,_⟩:=id T.b;have C:Conc (cfg Challenge.rw_pq0807_01.row.prog w sa so) (fun a=>(∃ o,(KK w.params sa so).lookup a=some o)\/a=sysModules\/a=builtinsNs) (fun _=>none) s₁.heap:=by
  refine⟨fun a o e=>(by cases e),fun a d=>⟨rfl,?_⟩,KI,fun a o e=>.inl ⟨o,e⟩,T.nolimit,.inl ⟨o2,e2⟩,.inr (.inl rfl),.inl ⟨o3,e3⟩,.inr (.inr rfl),⟨mg,mb,T.g,T.b,fun x v hx e=>by rw[T.builtins x hx];exact e⟩⟩;rcases d with ⟨o,d⟩ | rfl | rfl
  ·rw[KI a o d];rfl
  ·rw[Bh];rfl
  ·rw[Bi];rfl
 have W:Wd (cfg Challenge.rw_pq0807_01.row.prog w sa so) callerA [] _ (fun _=>none) s₁:=⟨C,rfl,rfl,fun e m=>(by cases m)⟩;have O:=sG Challenge.rw_pq0807_01.row.prog w (sa:=sa) (so:=so) (vs:=vals.toArray) (as:=l.map .int) Bg hcl hdt (fun c D h=>mN uQ);have H:=HF_ok O 100 callerA [] (by decide) (by decide) 45 (.inl (by decide)) _ _ s₁ [.ref sa] [.ref sa] W (.cons (.ref sa) .nil) (fun v _=>v=.bool true) (fun _=>False) (hL sa l (by omega));refine wpAny_mono H ?_ ?_
 ·rintro v s' ⟨D',σ',a,r,hv,rfl⟩;cases hv;refine⟨.inl ⟨_,.bool true,[],rfl,fun _=>by rfl,.bool true,by wrow_post,fun _=>⟨List.nodup_nil,fun a m=>by cases m⟩⟩,.of_keep fun b o e=>?_,r.os,.of_eq (r.gens.trans hg)⟩;exact (r.keep b o e rfl (fun z=>z)).1 (fun ⟨env,m,_⟩=>by cases m)
 ·rintro e s' ⟨_,_,_,_,z⟩;exact z.elim)
abbrev FF (sa:Nat) (l:List AV) (n:Nat):=FnS GG Law.TT 29 (tapeM GG sa l) n
theorem cb {α:Type} {σ:St} {E:St->Prop} {a:Nat} {o:AO} {f:AO->M α} {Q:α->St->Prop} (h:σ a=some o):look a f Q E σ=f o Q E σ:=by
 apply propext;constructor
 ·rintro⟨o',e,h'⟩;rw[h] at e;cases e;exact h'
 ·exact fun h'=>⟨o,h,h'⟩
def cS (o:Option AO) (f:AO->Prop):Prop:=o.elim False f
theorem aw {α:Type} {σ:St} {E:St->Prop} {a:Nat} {f:AO->M α} {Q:α->St->Prop}:look a f Q E σ=cS (σ a) fun o=>f o Q E σ:=by
 cases h:σ a with
 | none=>exact propext ⟨fun ⟨o,e,_⟩=>by (rw[h] at e;cases e),fun h=>h.elim⟩
 | some o=>exact cb h
theorem aW {o:AO} {f:AO->Prop}:cS (some o) f=f o:=Eq.trans rfl rfl
def mB (o:Option AV) (f:AV->Prop):Prop:=o.elim False f
theorem bM {o:AV} {f:AV->Prop}:mB (some o) f=f o:=Eq.trans rfl rfl
theorem iw {σ:St} {E:St->Prop} {o:Option AV} {Q:AV->St->Prop}:(match o with | some v=>ret v | none=>(no:M AV)) Q E σ=mB o fun v=>Q v σ:=by cases o<;>rfl
def bz (o:AO) (f:List AV->Prop):Prop:=match o with | .list l=>f l | _=>False
theorem gx {l:List AV} {f:List AV->Prop}:bz (.list l) f=f l:=Eq.trans rfl rfl
def mO (o:AO) (f:List (Str×AV)->Prop):Prop:=match o with | .dS l=>f l | _=>False
theorem jX {l:List (Str×AV)} {f:List (Str×AV)->Prop}:mO (.dS l) f=f l:=Eq.trans rfl rfl
def wy (o:AO) (f:List (Int×AV)->Prop):Prop:=match o with | .dI l=>f l | _=>False
theorem qu {l:List (Int×AV)} {f:List (Int×AV)->Prop}:wy (.dI l) f=f l:=Eq.trans rfl rfl
def uR (o:AO) (f:List AV->Prop) (g:List (Int×AV)->Prop):Prop:=match o with | .list l=>f l | .dI es=>g es | _=>False
theorem mP {l:List AV} {f:List AV->Prop} {g}:uR (.list l) f g=f l:=Eq.trans rfl rfl
theorem qv {l:List (Int×AV)} {f:List AV->Prop} {g}:uR (.dI l) f g=g l:=Eq.trans rfl rfl
def bN:AO->Nat
 | .list _=>12
 | .dS _=>13
 | .dI _=>13
 | .dT _=>14
 | .obj _ _ _=>15
 | .own=>15
section
variable {α β:Type} {σ:St} {E:St->Prop} {a b:Nat} {v w:AV} {i j:Int} {s t:Str} {l k:List AV}
theorem mQ {p:M α} {f:α->M β} {Q:β->St->Prop}:bnd p f Q E σ=p (fun a σ'=>f a Q E σ') E σ:=Eq.trans rfl rfl
theorem qw {x:α} {Q:α->St->Prop}:ret x Q E σ=Q x σ:=Eq.trans rfl rfl
theorem qx {p:Prop} {m:M α} {Q:α->St->Prop}:req p m Q E σ=(p/\m Q E σ):=Eq.trans rfl rfl
theorem sH {m:M α} {Q:α->St->Prop}:calm m Q E σ=m Q (fun _=>False) σ:=Eq.trans rfl rfl
theorem pM {m:M AV}:(both m).1=m:=Eq.trans rfl rfl
theorem af {o:AO}:put σ a o a=some o:=if_pos rfl
theorem ae {o:AO} (h:b≠a):put σ a o b=σ b:=if_neg h
theorem eF {o p:AO}:put (put σ a o) a p=put σ a p:=by
 funext b;unfold put;split<;>rfl
theorem fresh_ne {o:AO} (h1:σ a=none) (h2:σ b=some o):b≠a:=fun e=>by rw[e,h1] at h2;cases h2
theorem gy {Q:AV->St->Prop}:binM .add (.int i) (.int j) Q E σ=Q (.int (i+j)) σ:=Eq.trans rfl rfl
theorem eO {Q:AV->St->Prop}:binM .add (.str s) (.str t) Q E σ=(s.length+t.length<=sizeLine/\Q (.str (s++t)) σ):=Eq.trans rfl rfl
theorem mR {Q:AV->St->Prop}:binM .add (.tup l) (.tup k) Q E σ=(l.length+k.length<=1000000/\Q (.tup (l++k)) σ):=Eq.trans rfl rfl
theorem mS {Q:AV->St->Prop}:binM .add (.ref a) (.ref b) Q E σ=cS (σ a) fun x=>cS (σ b) fun y=>bz x fun l=>bz y fun k=>l.length+k.length<=1000000/\∀ d,σ d=none->Q (.ref d) (put σ d (.list (l++k))):=by
 refine aw.trans ?_;congr;funext x;refine aw.trans ?_;cases x<;>(cases σ b with | none=>rfl | some y=>cases y<;>rfl)
theorem qy {Q:AV->St->Prop}:binM .sub (.int i) (.int j) Q E σ=Q (.int (i - j)) σ:=Eq.trans rfl rfl
theorem jY {Q:AV->St->Prop}:binM .mul (.int i) (.int j) Q E σ=((-(2 ^ 60) < j/\j < 2 ^ 60)/\Q (.int (i * j)) σ):=Eq.trans rfl rfl
theorem mT {Q:AV->St->Prop}:binM .mul (.ref a) (.int i) Q E σ=cS (σ a) fun x=>bz x fun l=>(l.length * i.toNat<=1000000/\0<=i/\i < 2 ^ 60)/\∀ d,σ d=none->Q (.ref d) (put σ d (.list (List.replicate i.toNat l).flatten)):=by
 refine aw.trans ?_;congr;funext x;cases x<;>rfl
theorem qz {Q:AV->St->Prop}:binM .mod (.int i) (.int j) Q E σ=(0 < j/\Q (.int (i%j)) σ):=Eq.trans rfl rfl
theorem mU {Q:AV->St->Prop}:binM .fdiv (.int i) (.int j) Q E σ=((0 < j/\j < 2 ^ 60)/\Q (.int (i / j)) σ):=Eq.trans rfl rfl
theorem qA {Q:AV->St->Prop}:binM .pow (.int i) (.int j) Q E σ=((0<=i/\i < 2 ^ 60/\j=3)/\Q (.int (i ^ 3)) σ):=Eq.trans rfl rfl
theorem qB {Q:AV->St->Prop}:negM (.int i) Q E σ=Q (.int (-i)) σ:=Eq.trans rfl rfl
theorem mV {Q:Bool->St->Prop}:cmpM .eq (.int i) (.int j) Q E σ=Q (i==j) σ:=Eq.trans rfl rfl
theorem jZ {Q:Bool->St->Prop}:cmpM .ne (.int i) (.int j) Q E σ=Q (!(i==j)) σ:=Eq.trans rfl rfl
theorem qC {Q:Bool->St->Prop}:cmpM .eq (.str s) (.str t) Q E σ=Q (s==t) σ:=Eq.trans rfl rfl
theorem qD {Q:Bool->St->Prop}:cmpM .ne (.str s) (.str t) Q E σ=Q (!(s==t)) σ:=Eq.trans rfl rfl
theorem qE {Q:Bool->St->Prop}:cmpM .lt (.int i) (.int j) Q E σ=Q (decide (i < j)) σ:=Eq.trans rfl rfl
theorem qF {Q:Bool->St->Prop}:cmpM .le (.int i) (.int j) Q E σ=Q (decide (i<=j)) σ:=Eq.trans rfl rfl
theorem qG {Q:Bool->St->Prop}:cmpM .gt (.int i) (.int j) Q E σ=Q (decide (i >j)) σ:=Eq.trans rfl rfl
theorem qI {Q:Bool->St->Prop}:cmpM .ge (.int i) (.int j) Q E σ=Q (decide (i>=j)) σ:=Eq.trans rfl rfl
theorem uS {Q:Bool->St->Prop}:cmpM .is v .none Q E σ=Q (isNone v) σ:=by cases v<;>rfl
theorem j3 {Q:Bool->St->Prop}:cmpM .isnot v .none Q E σ=Q (!isNone v) σ:=by cases v<;>rfl
theorem uT {Q:Bool->St->Prop} {ys:List Int} (h:allInt l=some ys):cmpM .isin (.int i) (.tup l) Q E σ=Q (ys.any (· ==i)) σ:=by
 show (match allInt l with | some ys=>ret (ys.any (· ==i)) | none=>no) Q E σ=_;rw[h];rfl
theorem sI {Q:Bool->St->Prop} {ys:List Str} (h:allStr l=some ys):cmpM .isin (.str s) (.tup l) Q E σ=Q (ys.any (· ==s)) σ:=by
 show (match allStr l with | some ys=>ret (ys.any (· ==s)) | none=>no) Q E σ=_;rw[h];rfl
theorem qJ {Q:Bool->St->Prop}:cmpM .isin (.str s) (.ref a) Q E σ=cS (σ a) fun x=>mO x fun es=>Q (atKey es s).isSome σ:=by
 refine aw.trans ?_;congr;funext x;cases x<;>rfl
theorem qK {Q:Bool->St->Prop}:cmpM .isin (.int i) (.ref a) Q E σ=cS (σ a) fun x=>wy x fun es=>Q (atKey es i).isSome σ:=by
 refine aw.trans ?_;congr;funext x;cases x<;>rfl
theorem mW {Q:Bool->St->Prop}:cmpM .notin (.str s) (.ref a) Q E σ=cS (σ a) fun x=>mO x fun es=>Q (!(atKey es s).isSome) σ:=by
 refine aw.trans ?_;congr;funext x;cases x<;>rfl
theorem mY {Q:Bool->St->Prop}:cmpM .notin (.int i) (.ref a) Q E σ=cS (σ a) fun x=>wy x fun es=>Q (!(atKey es i).isSome) σ:=by
 refine aw.trans ?_;congr;funext x;cases x<;>rfl
theorem lj {Q:Bool->St->Prop} (h1:σ a=some (.list l)) (h2:σ b=some (.list k)) (h:l.length≠k.length) (q:Q false σ):cmpM .eq (.ref a) (.ref b) Q E σ:=⟨l,k,h1,h2,.inl ⟨h,q⟩⟩
theorem dM {Q:Bool->St->Prop} (h1:σ a=some (.list l)) (h2:σ b=some (.list k)) (h:l.length≠k.length) (q:Q true σ):cmpM .ne (.ref a) (.ref b) Q E σ:=⟨l,k,h1,h2,.inl ⟨h,q⟩⟩
theorem ll {Q:Bool->St->Prop} (h1:σ a=some (.list [])) (h2:σ b=some (.list [])) (q:Q true σ):cmpM .eq (.ref a) (.ref b) Q E σ:=⟨[],[],h1,h2,.inr ⟨.list [],.list h1 .nil,.list h2 .nil,by decide,q⟩⟩
theorem fW {Q:Bool->St->Prop} (h1:σ a=some (.list [])) (h2:σ b=some (.list [])) (q:Q false σ):cmpM .ne (.ref a) (.ref b) Q E σ:=⟨[],[],h1,h2,.inr ⟨.list [],.list h1 .nil,.list h2 .nil,by decide,q⟩⟩
theorem cD {Q:Bool->St->Prop} {d:PyData} (h1:Dat σ (.ref a) d) (h2:Dat σ (.ref b) d) (hs:SeqAt.shaped d=true) (q:Q false σ):cmpM .ne (.ref a) (.ref b) Q E σ:=by
 cases h1 with | list e1 r1=>cases h2 with | list e2 r2=>exact⟨_,_,e1,e2,.inr ⟨_,.list e1 r1,.list e2 r2,hs,q⟩⟩
theorem gz {Q:AV->St->Prop}:itemM (.tup l) (.int i) Q E σ=((0<=i/\i < 2 ^ 60)/\mB l[i.toNat]? fun v=>Q v σ):=by
 show (_/\(match l[i.toNat]? with | some v=>ret v | none=>no) Q E σ)=_;rw[iw]
theorem j4 {Q:AV->St->Prop} {c:Nat} (h:s.cps[i.toNat]? =some c):itemM (.str s) (.int i) Q E σ=((0<=i/\i < 2 ^ 60)/\Q (.str ⟨#[c]⟩) σ):=by
 show (_/\(match s.cps[i.toNat]? with | some c=>ret (AV.str ⟨#[c]⟩) | none=>no) Q E σ)=_;rw[h];rfl
theorem gA {Q:AV->St->Prop}:itemM (.ref a) (.int i) Q E σ=cS (σ a) fun x=>uR x (fun l=>(0<=i/\i < 2 ^ 60)/\mB l[i.toNat]? fun v=>Q v σ) fun es=>mB (atKey es i) fun v=>Q v σ:=by
 refine aw.trans ?_;congr;funext x;cases x<;>first | rfl | skip
 ·rename_i l;show (_/\(match l[i.toNat]? with | some v=>ret v | none=>no) Q E σ)=_;rw[iw];rfl
 ·rename_i es;show (match atKey es i with | some v=>ret v | none=>no) Q E σ=_;rw[iw];rfl
theorem j5 {Q:AV->St->Prop}:itemM (.ref a) (.str s) Q E σ=cS (σ a) fun x=>mO x fun es=>mB (atKey es s) fun v=>Q v σ:=by
 refine aw.trans ?_;congr;funext x;cases x<;>first | rfl | skip
 rename_i es;show (match atKey es s with | some v=>ret v | none=>no) Q E σ=_;rw[iw];rfl
theorem mZ {Q:AV->St->Prop}:setItemM (.ref a) (.int i) v Q E σ=cS (σ a) fun x=>uR x (fun l=>(0<=i/\i < 2 ^ 60/\i.toNat < l.length)/\Q .none (put σ a (.list (l.set i.toNat v)))) fun es=>es.length<=1000000/\Q .none (put σ a (.dI (putK es i v))):=by
 refine aw.trans ?_;congr;funext x;cases x<;>rfl
theorem m7 {Q:AV->St->Prop}:setItemM (.ref a) (.str s) v Q E σ=cS (σ a) fun x=>mO x fun es=>es.length<=1000000/\Q .none (put σ a (.dS (putK es s v))):=by
 refine aw.trans ?_;congr;funext x;cases x<;>rfl
theorem m8 {Q:AV->St->Prop}:uptoM (.ref a) (.int i) Q E σ=cS (σ a) fun x=>bz x fun l=>(0<=i/\i < 2 ^ 60/\l.length<=2 ^ 20)/\∀ d,σ d=none->Q (.ref d) (put σ d (.list (l.take i.toNat))):=by
 refine aw.trans ?_;congr;funext x;cases x<;>rfl
theorem qL {Q:AV->St->Prop}:froM (.ref a) (.int i) Q E σ=cS (σ a) fun x=>bz x fun l=>(0<=i/\i < 2 ^ 60/\l.length<=2 ^ 20)/\∀ d,σ d=none->Q (.ref d) (put σ d (.list (l.drop i.toNat))):=by
 refine aw.trans ?_;congr;funext x;cases x<;>rfl
theorem qM {b:Bool} {Q:Bool->St->Prop}:truthM (.bool b) Q E σ=Q b σ:=Eq.trans rfl rfl
theorem qN {Q:Bool->St->Prop}:truthM (.ref a) Q E σ=cS (σ a) fun x=>bz x fun l=>l.length<=1000000/\Q (!l.isEmpty) σ:=by
 refine aw.trans ?_;congr;funext x;cases x<;>rfl
theorem qO {Q:Unit->St->Prop}:recvM 1 (.ref a) Q E σ=cS (σ a) fun x=>bz x fun l=>Q () σ:=by
 refine aw.trans ?_;congr;funext x;cases x<;>rfl
theorem qP {Q:Unit->St->Prop}:recvM 2 (.ref a) Q E σ=cS (σ a) fun x=>bz x fun l=>Q () σ:=by
 refine aw.trans ?_;congr;funext x;cases x<;>rfl
theorem qQ {Q:Unit->St->Prop}:recvM 3 (.ref a) Q E σ=cS (σ a) fun x=>bz x fun l=>Q () σ:=by
 refine aw.trans ?_;congr;funext x;cases x<;>rfl
theorem qR {Q:Unit->St->Prop}:recvM 4 (.ref a) Q E σ=cS (σ a) fun x=>bz x fun l=>Q () σ:=by
 refine aw.trans ?_;congr;funext x;cases x<;>rfl
theorem qS {Q:Unit->St->Prop}:recvM 5 (.str s) Q E σ=Q () σ:=Eq.trans rfl rfl
theorem qT {Q:Unit->St->Prop} {bs:List UInt8}:recvM 6 (.bytes bs) Q E σ=Q () σ:=Eq.trans rfl rfl
theorem qU {Q:Unit->St->Prop}:recvM 7 (.tup l) Q E σ=Q () σ:=Eq.trans rfl rfl
theorem qV {Q:AV->St->Prop}:methM 0 (.ref a) [.str s] Q E σ=cS (σ a) fun x=>mO x fun es=>Q ((atKey es s).getD .none) σ:=by
 refine aw.trans ?_;congr;funext x;cases x<;>rfl
theorem m9 {Q:AV->St->Prop}:methM 0 (.ref a) [.str s,v] Q E σ=cS (σ a) fun x=>mO x fun es=>Q ((atKey es s).getD v) σ:=by
 refine aw.trans ?_;congr;funext x;cases x<;>rfl
theorem qW {Q:AV->St->Prop}:methM 0 (.ref a) [.int i,v] Q E σ=cS (σ a) fun x=>wy x fun es=>Q ((atKey es i).getD v) σ:=by
 refine aw.trans ?_;congr;funext x;cases x<;>rfl
theorem qX {Q:AV->St->Prop} {es:List (List Int×AV)} {ks:List Int} (hl:σ a=some (.dT es)) (hk:allInt l=some ks):methM 0 (.ref a) [.tup l,v] Q E σ=Q ((atKey es ks).getD v) σ:=by
 refine (cb hl).trans ?_;show (match allInt l with | some k=>ret ((atKey es k).getD v) | none=>no) Q E σ=_;rw[hk];rfl
theorem qY {Q:AV->St->Prop} {es:List (List Int×AV)} (hl:σ a=some (.dT es)) (hk:(es.all fun e=>tkh e.1 != 0xFCA86420)=true):methM 0 (.ref a) [.none,v] Q E σ=Q v σ:=by
 refine (cb hl).trans ?_;exact propext ⟨fun h=>h.2,fun h=>⟨hk,h⟩⟩
theorem qZ {Q:Unit->St->Prop}:recvM 0 (.ref a) Q E σ=cS (σ a) fun x=>(bN x=13\/bN x=14)/\Q () σ:=by
 refine aw.trans ?_;congr;funext x;cases x<;>exact propext ⟨fun h=>by first | exact⟨.inl rfl,h⟩ | exact⟨.inr rfl,h⟩ | exact h.elim,fun h=>by first | exact h.2 | (rcases h.1 with h | h<;>cases h)⟩
theorem rd {Q:AV->St->Prop}:methM 1 (.ref a) [v] Q E σ=cS (σ a) fun x=>bz x fun l=>l.length<=1000000/\Q .none (put σ a (.list (l++[v]))):=by
 refine aw.trans ?_;congr;funext x;cases x<;>rfl
theorem uU {Q:AV->St->Prop} (hl:σ a=some (.list l)) (hk:σ b=some (.list k)) (h0:a≠b/\l.length+k.length<=1000000):methM 2 (.ref a) [.ref b] Q E σ=Q .none (put σ a (.list (l++k))):=by
 refine (cb hl).trans ((cb hk).trans ?_);exact propext ⟨fun h=>h.2,fun h=>⟨h0,h⟩⟩
theorem rf {Q:AV->St->Prop}:methM 3 (.ref a) [.int 0,v] Q E σ=cS (σ a) fun x=>bz x fun l=>l.length<=1000000/\Q .none (put σ a (.list (v::l))):=by
 refine aw.trans ?_;congr;funext x;cases x<;>first | rfl | exact propext ⟨fun h=>⟨h.1.2,h.2⟩,fun h=>⟨⟨rfl,h.1⟩,h.2⟩⟩
theorem j6 {Q:AV->St->Prop} (hl:σ a=some (.list (l++[v]))) (h0:l.length < 1000000):methM 4 (.ref a) [] Q E σ=Q v (put σ a (.list l)):=by
 refine (cb hl).trans ?_;show (_/\(match (l++[v]).getLast? with | some w=>setA a (.list (l++[v]).dropLast) w | none=>no) Q E σ)=_;rw[List.getLast?_append,List.dropLast_concat];exact propext ⟨fun h=>h.2,fun h=>⟨by rw[List.length_append];exact h0,h⟩⟩
theorem sJ {Q:AV->St->Prop} (hl:σ a=some (.list (v::l))) (h0:l.length<=1000000):methM 4 (.ref a) [.int 0] Q E σ=Q v (put σ a (.list l)):=by
 refine (cb hl).trans ?_;exact propext ⟨fun h=>h.2,fun h=>⟨⟨rfl,h0⟩,h⟩⟩
theorem sL {Q:AV->St->Prop} {ys:List Str} (hl:σ a=some (.list l)) (hy:allStr l=some ys) (h0:(ys.map fun y:Str=>y.length).sum<=1000000):methM 5 (.str Str.empty) [.ref a] Q E σ=Q (.str (joinS ys)) σ:=by
 refine (cb hl).trans ?_;show (match allStr l with | some ys=>req (Str.empty=Str.empty/\(ys.map fun y:Str=>y.length).sum<=1000000) (ret (AV.str (joinS ys))) | none=>no) Q E σ=_;rw[hy];exact propext ⟨fun h=>h.2,fun h=>⟨⟨rfl,h0⟩,h⟩⟩
theorem rg {Q:AV->St->Prop}:biM 0 (.ref a) Q E σ=cS (σ a) fun x=>uR x (fun l=>l.length<=1000000/\Q (.int l.length) σ) fun es=>es.length<=1000000/\Q (.int es.length) σ:=by
 refine aw.trans ?_;congr;funext x;cases x<;>rfl
theorem nc {Q:AV->St->Prop} {bs:List UInt8}:biM 0 (.bytes bs) Q E σ=(bs.length<=1000000/\Q (.int bs.length) σ):=Eq.trans rfl rfl
theorem rh {Q:AV->St->Prop}:biM 1 (.int i) Q E σ=Q (.int i.natAbs) σ:=Eq.trans rfl rfl
theorem ri {Q:AV->St->Prop}:biM 2 (.int i) Q E σ=Q (.int i) σ:=Eq.trans rfl rfl
theorem ix {Q:AV->St->Prop}:biM 3 (.int i) Q E σ=((0<=i/\i<=1114111)/\Q (.str ⟨#[i.toNat]⟩) σ):=Eq.trans rfl rfl
theorem j7 {Q:AV->St->Prop}:biM 7 (.ref a) Q E σ=cS (σ a) fun x=>bz x fun l=>l.length<=1000000/\Q (.tup l) σ:=by
 refine aw.trans ?_;congr;funext x;cases x<;>rfl
theorem ng {Q:AV->St->Prop}:biM 6 (.ref a) Q E σ=cS (σ a) fun x=>mO x fun es=>es.length<=1000000/\∀ b,σ b=none->Q (.ref b) (put σ b (.dS es)):=by
 refine aw.trans ?_;congr;funext x;cases x<;>rfl
theorem rj {b:Bool} {t:Nat} {Q:Bool->St->Prop}:instM (.bool b) t Q E σ=Q (t==10||t==11) σ:=Eq.trans rfl rfl
theorem rm {t:Nat} {Q:Bool->St->Prop}:instM (.int i) t Q E σ=Q (t==11) σ:=Eq.trans rfl rfl
theorem rn {t:Nat} {Q:Bool->St->Prop}:instM .none t Q E σ=Q false σ:=Eq.trans rfl rfl
theorem rq {c t:Nat} {vs:List AV} {Q:Bool->St->Prop}:instM (.inst c vs) t Q E σ=(c∈[0,1,2,3,4,5,6,7]/\Q (t==c) σ):=Eq.trans rfl rfl
theorem eP {t:Nat} {Q:Bool->St->Prop}:instM (.ref a) t Q E σ=cS (σ a) fun x=>(bN x=12\/bN x=13)/\Q (t==bN x) σ:=by
 refine aw.trans ?_;congr;funext x;cases x<;>exact propext ⟨fun h=>by first | exact⟨.inl rfl,h⟩ | exact⟨.inr rfl,h⟩ | exact h.elim,fun h=>by first | exact h.2 | (rcases h.1 with h | h<;>cases h)⟩
theorem ni {c x:Nat} {vs:List AV} {Q:AV->St->Prop}:attrM (.inst c vs) x Q E σ=mB (fieldAt (fieldsOf c) vs x) fun v=>Q v σ:=by
 show (match fieldAt (fieldsOf c) vs x with | some v=>ret v | none=>no) Q E σ=_;rw[iw]
theorem nq {Q:It->St->Prop}:seqM (.tup l) Q E σ=Q ⟨l,fun _=>True⟩ σ:=Eq.trans rfl rfl
theorem jd {Q:It->St->Prop}:seqM (.ref a) Q E σ=cS (σ a) fun x=>bz x fun l=>Q ⟨l,fun σ=>σ a=some (.list l)⟩ σ:=by
 refine aw.trans ?_;congr;funext x;cases x<;>rfl
theorem nu {Q:It->St->Prop}:revM (.ref a) Q E σ=cS (σ a) fun x=>bz x fun l=>Q ⟨l.reverse,fun σ=>σ a=some (.list l)⟩ σ:=by
 refine aw.trans ?_;congr;funext x;cases x<;>rfl
theorem j8 {Q:It->St->Prop}:enumM (.ref a) Q E σ=cS (σ a) fun x=>bz x fun l=>Q ⟨number 0 l,fun σ=>σ a=some (.list l)⟩ σ:=by
 refine aw.trans ?_;congr;funext x;cases x<;>rfl
end
theorem aN {α:Type} {E:St->Prop} {σ:St} {p:M α} {Q Q':α->St->Prop} (h:∀ a σ,Q a σ=Q' a σ):p Q E σ=p Q' E σ:=by
 rw[show Q=Q' from funext fun a=>funext fun σ=>h a σ]
def xA (o:Option (Option AV)) (f:AV->Prop):Prop:=match o with | some (some v)=>f v | _=>False
theorem cu {v:AV} {f:AV->Prop}:xA (some (some v)) f=f v:=Eq.trans rfl rfl
def cf (F:Nat->List AV->M AV) (e:PE):Frame->M AV:=fun ρ=>(ev F newM GG e ρ).1
def cm (F:Nat->List AV->M AV) (ifs:PEs):Frame->M Bool:=fun ρ=>evTs F newM GG true ifs ρ
def uV (F:Nat->List AV->M AV) (it:PIt):Frame->M It:=fun ρ=>evIt F newM GG it ρ
def iy (F:Nat->List AV->M AV) (t:List Nat) (b:PSs):AV->Fl×Frame->M (Fl×Frame):=fun v x=>bnd (tgtM x.2 t v) fun ρ'=>evSs F newM GG b ρ'
def eg (F:Nat->List AV->M AV) (c:PE):Frame->M Bool:=fun ρ=>(ev F newM GG c ρ).2
def gB (F:Nat->List AV->M AV) (b:PSs):Frame->M (Fl×Frame):=fun ρ=>evSs F newM GG b ρ
section
variable {F:Nat->List AV->M AV} {ρ:Frame} {Q:AV->St->Prop} {B:Bool->St->Prop} {R:Fl×Frame->St->Prop} {E:St->Prop} {σ:St}
theorem nv:(ev F newM GG .none ρ).1 Q E σ=Q .none σ:=Eq.trans rfl rfl
theorem nz {b:Bool}:(ev F newM GG (.bool b) ρ).1 Q E σ=Q (.bool b) σ:=Eq.trans rfl rfl
theorem iz {i:Int}:(ev F newM GG (.int i) ρ).1 Q E σ=Q (.int i) σ:=Eq.trans rfl rfl
theorem nB {i:Str}:(ev F newM GG (.str i) ρ).1 Q E σ=Q (.str i) σ:=Eq.trans rfl rfl
theorem j9 {i:List UInt8}:(ev F newM GG (.bytes i) ρ).1 Q E σ=Q (.bytes i) σ:=Eq.trans rfl rfl
theorem fX {i:Nat}:(ev F newM GG (.loc i) ρ).1 Q E σ=xA ρ[i]? fun v=>Q v σ:=by
 show (match ρ[i]? with | some (some v)=>ret v | _=>(no:M AV)) Q E σ=_;cases ρ[i]? with
 | none=>rfl
 | some o=>cases o<;>rfl
theorem ru {i:Nat}:(ev F newM GG (.loc i) ρ).2 B E σ=xA ρ[i]? fun v=>truthM v B E σ:=by
 show (match ρ[i]? with | some (some v)=>ret v | _=>(no:M AV)) _ E σ=_;cases ρ[i]? with
 | none=>rfl
 | some o=>cases o<;>rfl
theorem uW:(ev F newM GG (.glob 0) ρ).1 Q E σ=Q (.bytes [254,255]) σ:=Eq.trans rfl rfl
theorem uX:(ev F newM GG (.glob 1) ρ).1 Q E σ=Q (.int 65533) σ:=Eq.trans rfl rfl
theorem uY:(ev F newM GG (.glob 2) ρ).1 Q E σ=Q (.tup [.str "Resources",.str "MediaBox",.str "CropBox",.str "Rotate"]) σ:=Eq.trans rfl rfl
theorem uZ:(ev F newM GG (.glob 3) ρ).1 Q E σ=Q (.int 30) σ:=Eq.trans rfl rfl
theorem u0:(ev F newM GG (.glob 4) ρ).1 Q E σ=Q (.tup [.str "A",.str "B",.str "C",.str "D",.str "E"]) σ:=Eq.trans rfl rfl
theorem u4:(ev F newM GG (.glob 5) ρ).1 Q E σ=Q (.tup [.tup [.int 3,.int 4,.int 5],.tup [.int 3,.int 5,.int 4],.tup [.int 4,.int 3,.int 5],.tup [.int 4,.int 5,.int 3],.tup [.int 5,.int 3,.int 4],.tup [.int 5,.int 4,.int 3]]) σ:=Eq.trans rfl rfl
theorem j' {op:Bop} {a b:PE}:(ev F newM GG (.bin op a b) ρ).1 Q E σ=(ev F newM GG a ρ).1 (fun x σ=>(ev F newM GG b ρ).1 (fun y σ=>binM op x y Q E σ) E σ) E σ:=Eq.trans rfl rfl
theorem rx {a:PE}:(ev F newM GG (.neg a) ρ).1 Q E σ=(ev F newM GG a ρ).1 (fun x σ=>negM x Q E σ) E σ:=Eq.trans rfl rfl
theorem rz {a:PE}:(ev F newM GG (.not a) ρ).2 B E σ=(ev F newM GG a ρ).2 (fun x σ=>B (!x) σ) E σ:=Eq.trans rfl rfl
theorem rA {a:PE}:(ev F newM GG (.not a) ρ).1 Q E σ=(ev F newM GG a ρ).1 (fun x σ=>truthM x (fun t σ=>Q (.bool !t) σ) E σ) E σ:=Eq.trans rfl rfl
theorem rB {op:Cop} {a b:PE}:(ev F newM GG (.cmp op a b) ρ).1 Q E σ=(ev F newM GG a ρ).1 (fun x σ=>(ev F newM GG b ρ).1 (fun y σ=>cmpM op x y (fun t σ=>Q (.bool t) σ) E σ) E σ) E σ:=Eq.trans rfl rfl
theorem ka {op:Cop} {a b:PE}:(ev F newM GG (.cmp op a b) ρ).2 B E σ=(ev F newM GG a ρ).1 (fun x σ=>(ev F newM GG b ρ).1 (fun y σ=>cmpM op x y B E σ) E σ) E σ:=Eq.trans rfl rfl
theorem nE {o1 o2:Cop} {a b c:PE}:(ev F newM GG (.cmp2 o1 o2 a b c) ρ).2 B E σ=(ev F newM GG a ρ).1 (fun x σ=>(ev F newM GG b ρ).1 (fun y σ=>cmpM o1 x y (fun t σ=>if t=true then (ev F newM GG c ρ).1 (fun z σ=>cmpM o2 y z B E σ) E σ else B false σ) E σ) E σ) E σ:=by
 show (ev F newM GG a ρ).1 (fun x σ=>(ev F newM GG b ρ).1 (fun y σ=>cmpM o1 x y (fun t σ=>(if t=true then bnd (ev F newM GG c ρ).1 (fun z=>cmpM o2 y z) else ret false) B E σ) E σ) E σ) E σ=_;refine aN fun x σ=>?_;refine aN fun y σ=>?_;refine aN fun t σ=>?_;split<;>rfl
theorem kb {k:Bool} {l:PEs}:(ev F newM GG (.andor k l) ρ).1 Q E σ=evAnd F newM GG k l ρ Q E σ:=Eq.trans rfl rfl
theorem kc {k:Bool} {l:PEs}:(ev F newM GG (.andor k l) ρ).2 B E σ=evTs F newM GG k l ρ B E σ:=Eq.trans rfl rfl
theorem rC {k:Bool} {e:PE}:evAnd F newM GG k (.cons e .nil) ρ Q E σ=(ev F newM GG e ρ).1 Q E σ:=Eq.trans rfl rfl
theorem rD {k:Bool} {e e':PE} {r:PEs}:evAnd F newM GG k (.cons e (.cons e' r)) ρ Q E σ=(ev F newM GG e ρ).1 (fun v σ=>truthM v (fun t σ=>if t=k then evAnd F newM GG k (.cons e' r) ρ Q E σ else Q v σ) E σ) E σ:=by
 show (ev F newM GG e ρ).1 (fun v σ=>truthM v (fun t σ=>(if t=k then evAnd F newM GG k (.cons e' r) ρ else ret v) Q E σ) E σ) E σ=_;refine aN fun x σ=>?_;refine aN fun t σ=>?_;split<;>rfl
theorem eQ {k:Bool}:evTs F newM GG k .nil ρ B E σ=B k σ:=Eq.trans rfl rfl
theorem gC {k:Bool} {e:PE} {r:PEs}:evTs F newM GG k (.cons e r) ρ B E σ=(ev F newM GG e ρ).2 (fun t σ=>if t=k then evTs F newM GG k r ρ B E σ else B t σ) E σ:=by
 show (ev F newM GG e ρ).2 (fun t σ=>(if t=k then evTs F newM GG k r ρ else ret t) B E σ) E σ=_;refine aN fun t σ=>?_;split<;>rfl
theorem rE {c a b:PE}:(ev F newM GG (.ite c a b) ρ).1 Q E σ=(ev F newM GG c ρ).2 (fun t σ=>if t=true then (ev F newM GG a ρ).1 Q E σ else (ev F newM GG b ρ).1 Q E σ) E σ:=by
 show (ev F newM GG c ρ).2 (fun t σ=>(if t=true then (ev F newM GG a ρ).1 else (ev F newM GG b ρ).1) Q E σ) E σ=_;refine aN fun t σ=>?_;split<;>rfl
theorem je {f:Nat} {l:PEs}:(ev F newM GG (.call f l) ρ).1 Q E σ=evs F newM GG l ρ (fun vs σ=>F f vs Q E σ) E σ:=Eq.trans rfl rfl
theorem nF {f:Nat} {l:PEs}:(ev F newM GG (.call f l) ρ).2 B E σ=evs F newM GG l ρ (fun vs σ=>F f vs (fun v σ=>truthM v B E σ) E σ) E σ:=Eq.trans rfl rfl
theorem rG {c:Nat} {l:PEs}:(ev F newM GG (.new c l) ρ).1 Q E σ=evs F newM GG l ρ (fun vs σ=>newM c vs Q E σ) E σ:=Eq.trans rfl rfl
theorem u5 {f:Nat} {a:PE}:(ev F newM GG (.bi f a) ρ).1 Q E σ=(ev F newM GG a ρ).1 (fun x σ=>biM f x Q E σ) E σ:=Eq.trans rfl rfl
theorem iB {a:PE} {t:Nat}:(ev F newM GG (.isinst a t) ρ).1 Q E σ=(ev F newM GG a ρ).1 (fun x σ=>instM x t (fun b σ=>Q (.bool b) σ) E σ) E σ:=Eq.trans rfl rfl
theorem iC {a:PE} {t:Nat}:(ev F newM GG (.isinst a t) ρ).2 B E σ=(ev F newM GG a ρ).1 (fun x σ=>instM x t B E σ) E σ:=Eq.trans rfl rfl
theorem nG {m:Nat} {o:PE} {l:PEs}:(ev F newM GG (.meth m o l) ρ).1 Q E σ=(ev F newM GG o ρ).1 (fun v σ=>recvM m v (fun _ σ=>evs F newM GG l ρ (fun vs σ=>methM m v vs Q E σ) E σ) E σ) E σ:=Eq.trans rfl rfl
theorem nJ {m:Nat} {o:PE} {l:PEs}:(ev F newM GG (.meth m o l) ρ).2 B E σ=(ev F newM GG o ρ).1 (fun v σ=>recvM m v (fun _ σ=>evs F newM GG l ρ (fun vs σ=>methM m v vs (fun v σ=>truthM v B E σ) E σ) E σ) E σ) E σ:=Eq.trans rfl rfl
def xB (v:AV) (f:Prop):Prop:=match v with | .inst 7 _=>f | _=>False
theorem rH {vs:List AV} {f:Prop}:xB (.inst 7 vs) f=f:=Eq.trans rfl rfl
theorem rI {f:Nat} {o:PE} {l:PEs}:(ev F newM GG (.own f o l) ρ).1 Q E σ=(ev F newM GG o ρ).1 (fun v σ=>xB v (evs F newM GG l ρ (fun vs σ=>F f (v::vs) Q E σ) E σ)) E σ:=by
 show (ev F newM GG o ρ).1 (fun v σ=>(match v with | .inst 7 _=>bnd (evs F newM GG l ρ) fun vs=>F f (v::vs) | _=>(no:M AV)) Q E σ) E σ=_;refine aN fun v σ=>?_;unfold xB;split<;>rfl
theorem nK {a:PE} {x:Nat}:(ev F newM GG (.attr a x) ρ).2 B E σ=(ev F newM GG a ρ).1 (fun v σ=>attrM v x (fun v σ=>truthM v B E σ) E σ) E σ:=Eq.trans rfl rfl
theorem nM {a:PE} {x:Nat}:(ev F newM GG (.attr a x) ρ).1 Q E σ=(ev F newM GG a ρ).1 (fun v σ=>attrM v x Q E σ) E σ:=Eq.trans rfl rfl
theorem gD {a i:PE}:(ev F newM GG (.item a i) ρ).1 Q E σ=(ev F newM GG a ρ).1 (fun x σ=>(ev F newM GG i ρ).1 (fun y σ=>itemM x y Q E σ) E σ) E σ:=Eq.trans rfl rfl
theorem nO {a i:PE}:(ev F newM GG (.upto a i) ρ).1 Q E σ=(ev F newM GG a ρ).1 (fun x σ=>(ev F newM GG i ρ).1 (fun y σ=>uptoM x y Q E σ) E σ) E σ:=Eq.trans rfl rfl
theorem rJ {a i:PE}:(ev F newM GG (.fro a i) ρ).1 Q E σ=(ev F newM GG a ρ).1 (fun x σ=>(ev F newM GG i ρ).1 (fun y σ=>froM x y Q E σ) E σ) E σ:=Eq.trans rfl rfl
theorem nP {l:PEs}:(ev F newM GG (.list l) ρ).1 Q E σ=evs F newM GG l ρ (fun vs σ=>vs.length<=1000/\∀ a,σ a=none->Q (.ref a) (put σ a (.list vs))) E σ:=Eq.trans rfl rfl
theorem nQ {l:PEs}:(ev F newM GG (.tup l) ρ).1 Q E σ=evs F newM GG l ρ (fun vs σ=>vs.length<=1000/\Q (.tup vs) σ) E σ:=Eq.trans rfl rfl
theorem ke {ks:List Str} {l:PEs}:(ev F newM GG (.dictS ks l) ρ).1 Q E σ=evs F newM GG l ρ (fun vs σ=>ks.length=vs.length/\∀ a,σ a=none->Q (.ref a) (put σ a (.dS (ks.zip vs)))) E σ:=Eq.trans rfl rfl
theorem kh {ks:List Int} {l:PEs}:(ev F newM GG (.dictI ks l) ρ).1 Q E σ=evs F newM GG l ρ (fun vs σ=>ks.length=vs.length/\∀ a,σ a=none->Q (.ref a) (put σ a (.dI (ks.zip vs)))) E σ:=Eq.trans rfl rfl
theorem nR {elt:PE} {t:List Nat} {it:PIt} {ifs:PEs}:(ev F newM GG (.comp elt t it ifs) ρ).1 Q E σ=evIt F newM GG it ρ (fun I σ=>forM I.ok (fun _=>ret false) (compF t ρ (cm F ifs) (cf F elt)) I.items [] (fun vs σ=>∀ a,σ a=none->Q (.ref a) (put σ a (.list vs))) (fun _=>False) σ) E σ:=Eq.trans rfl rfl
theorem kj {elt:PE} {t t2:List Nat} {it it2:PIt} {ifs:PEs}:(ev F newM GG (.comp2 elt t it t2 it2 ifs) ρ).1 Q E σ=evIt F newM GG it ρ (fun I σ=>forM I.ok (fun _=>ret false) (comp2F t ρ (uV F it2) t2 (cm F ifs) (cf F elt)) I.items [] (fun vs σ=>∀ a,σ a=none->Q (.ref a) (put σ a (.list vs))) (fun _=>False) σ) E σ:=Eq.trans rfl rfl
theorem ko {V:List AV->St->Prop}:evs F newM GG .nil ρ V E σ=V [] σ:=Eq.trans rfl rfl
theorem gE {V:List AV->St->Prop} {e:PE} {r:PEs}:evs F newM GG (.cons e r) ρ V E σ=(ev F newM GG e ρ).1 (fun v σ=>evs F newM GG r ρ (fun vs σ=>V (v::vs) σ) E σ) E σ:=Eq.trans rfl rfl
theorem rK {V:It->St->Prop} {e:PE}:evIt F newM GG (.seq e) ρ V E σ=(ev F newM GG e ρ).1 (fun v σ=>seqM v V E σ) E σ:=Eq.trans rfl rfl
theorem rL {V:It->St->Prop} {e:PE}:evIt F newM GG (.rev e) ρ V E σ=(ev F newM GG e ρ).1 (fun v σ=>revM v V E σ) E σ:=Eq.trans rfl rfl
theorem nS {V:It->St->Prop} {e:PE}:evIt F newM GG (.enum e) ρ V E σ=(ev F newM GG e ρ).1 (fun v σ=>enumM v V E σ) E σ:=Eq.trans rfl rfl
theorem kq {V:It->St->Prop} {l:PEs}:evIt F newM GG (.range l) ρ V E σ=evs F newM GG l ρ (fun vs σ=>rangeM vs V E σ) E σ:=Eq.trans rfl rfl
def cT (F:Nat->List AV->M AV) (r:PSs) (R:Fl×Frame->St->Prop) (E:St->Prop) (x:Fl×Frame) (σ:St):Prop:=match x.1 with | .next=>evSs F newM GG r x.2 R E σ | _=>R x σ
theorem aZ {r:PSs}:cT F r R E (.next,ρ) σ=evSs F newM GG r ρ R E σ:=Eq.trans rfl rfl
theorem iD {r:PSs} {v:AV}:cT F r R E (.ret v,ρ) σ=R (.ret v,ρ) σ:=Eq.trans rfl rfl
theorem iE {r:PSs}:cT F r R E (.brk,ρ) σ=R (.brk,ρ) σ:=Eq.trans rfl rfl
theorem fY:evSs F newM GG .nil ρ R E σ=R (.next,ρ) σ:=Eq.trans rfl rfl
theorem cE {s:PS} {r:PSs}:evSs F newM GG (.cons s r) ρ R E σ=evS F newM GG s ρ (cT F r R E) E σ:=by
 show evS F newM GG s ρ (fun x σ=>(match x.1 with | .next=>evSs F newM GG r x.2 | _=>ret x) R E σ) E σ=_;refine aN fun x σ=>?_;obtain⟨x1,x2⟩:=x;cases x1<;>rfl
theorem nU {e:PE}:evS F newM GG (.expr e) ρ R E σ=(ev F newM GG e ρ).1 (fun _ σ=>R (.next,ρ) σ) E σ:=Eq.trans rfl rfl
theorem rM {e:PE}:evS F newM GG (.ret e) ρ R E σ=(ev F newM GG e ρ).1 (fun v σ=>R (.ret v,ρ) σ) E σ:=Eq.trans rfl rfl
theorem eR {i:Nat} {e:PE}:evS F newM GG (.asg (.loc i) e) ρ R E σ=(ev F newM GG e ρ).1 (fun v σ=>R (.next,ρ.set i (some v)) σ) E σ:=Eq.trans rfl rfl
theorem nV {a b e:PE}:evS F newM GG (.asg (.sub a b) e) ρ R E σ=(ev F newM GG e ρ).1 (fun v σ=>(ev F newM GG a ρ).1 (fun x σ=>(ev F newM GG b ρ).1 (fun y σ=>setItemM x y v (fun _ σ=>R (.next,ρ) σ) E σ) E σ) E σ) E σ:=Eq.trans rfl rfl
def zq (v:AV) (f:List AV->Prop):Prop:=match v with | .tup l=>f l | _=>False
theorem rN {l:List AV} {f:List AV->Prop}:zq (.tup l) f=f l:=Eq.trans rfl rfl
theorem nW {ts:List PT} {e:PE}:evS F newM GG (.asgs ts e) ρ R E σ=(ev F newM GG e ρ).1 (fun v σ=>zq v fun vs=>ts.length=vs.length/\putTs F newM GG ts vs ρ (fun ρ' σ=>R (.next,ρ') σ) E σ) E σ:=by
 show (ev F newM GG e ρ).1 (fun v σ=>(match v with | .tup vs=>req (ts.length=vs.length) (bnd (putTs F newM GG ts vs ρ) fun ρ'=>ret (Fl.next,ρ')) | _=>no) R E σ) E σ=_;refine aN fun v σ=>?_;cases v<;>rfl
theorem rO {V:Frame->St->Prop}:putTs F newM GG [] [] ρ V E σ=V ρ σ:=Eq.trans rfl rfl
theorem rP {V:Frame->St->Prop} {i:Nat} {ts:List PT} {v:AV} {vs:List AV}:putTs F newM GG (.loc i::ts) (v::vs) ρ V E σ=putTs F newM GG ts vs (ρ.set i (some v)) V E σ:=Eq.trans rfl rfl
theorem rQ {V:Frame->St->Prop} {a b:PE} {ts:List PT} {v:AV} {vs:List AV}:putTs F newM GG (.sub a b::ts) (v::vs) ρ V E σ=(ev F newM GG a ρ).1 (fun x σ=>(ev F newM GG b ρ).1 (fun y σ=>setItemM x y v (fun _ σ=>putTs F newM GG ts vs ρ V E σ) E σ) E σ) E σ:=Eq.trans rfl rfl
theorem fZ {c:PE} {t e:PSs}:evS F newM GG (.ite c t e) ρ R E σ=(ev F newM GG c ρ).2 (fun b σ=>if b=true then evSs F newM GG t ρ R E σ else evSs F newM GG e ρ R E σ) E σ:=by
 show (ev F newM GG c ρ).2 (fun b σ=>(if b=true then evSs F newM GG t ρ else evSs F newM GG e ρ) R E σ) E σ=_;refine aN fun b σ=>?_;split<;>rfl
theorem nZ {c:PE} {b:PSs}:evS F newM GG (.whil c b) ρ R E σ=∃ n,whileN (eg F c) (gB F b) n ρ R (fun _=>False) σ:=Eq.trans rfl rfl
theorem ku {c:PE} {b:PSs}:evS F newM GG (.whilE c b) ρ R E σ=∃ n,whileN (eg F c) (gB F b) n ρ R E σ:=Eq.trans rfl rfl
theorem rR {t:List Nat} {it:PIt} {b:PSs}:evS F newM GG (.for_ t it b) ρ R E σ=evIt F newM GG it ρ (fun I σ=>forM I.ok stopF (iy F t b) I.items (.next,ρ) (fun x σ=>R (endF x) σ) (fun _=>False) σ) E σ:=Eq.trans rfl rfl
theorem ky {e:PE}:evS F newM GG (.raise_ e) ρ R E σ=(ev F newM GG e ρ).1 (fun v σ=>(∃ s,v=.str s)/\E σ) E σ:=Eq.trans rfl rfl
theorem rS {b h:PSs}:evS F newM GG (.try_ b h) ρ R E σ=evSs F newM GG b ρ R (fun σ=>evSs F newM GG h ρ R E σ) σ:=Eq.trans rfl rfl
theorem rT:evS F newM GG .brk ρ R E σ=R (.brk,ρ) σ:=Eq.trans rfl rfl
theorem eT:endF (.next,ρ)=(.next,ρ):=Eq.trans rfl rfl
theorem kz:endF (.brk,ρ)=(.next,ρ):=Eq.trans rfl rfl
theorem kA {v:AV}:endF (.ret v,ρ)=(.ret v,ρ):=Eq.trans rfl rfl
theorem iF {i:Nat} {b:PSs} {v:AV} {fl:Fl}:iy F [i] b v (fl,ρ) R E σ=evSs F newM GG b (ρ.set i (some v)) R E σ:=Eq.trans rfl rfl
theorem jf {c t:Nat} {vs:List AV}:instM (.inst c vs) t B E σ=(c < 8/\B (t==c) σ):=by
 rw[rq];refine congrArg (· /\B (t==c) σ) (propext ⟨fun h=>?_,fun h=>?_⟩)
 ·simp only[List.mem_cons,List.not_mem_nil,or_false] at h;omega
 ·simp only[List.mem_cons,List.not_mem_nil,or_false];omega
theorem iG {V:It->St->Prop} {i:Int}:rangeM [.int i] V E σ=((-(2 ^ 60) < i/\i < 2 ^ 60)/\V ⟨rangeL 0 i.toNat 1,fun _=>True⟩ σ):=Eq.trans rfl rfl
theorem kB:isNone .none=true:=Eq.trans rfl rfl
theorem kC {b:Bool}:isNone (.bool b)=false:=Eq.trans rfl rfl
theorem og {i:Int}:isNone (.int i)=false:=Eq.trans rfl rfl
theorem in_str {s:Str}:isNone (.str s)=false:=Eq.trans rfl rfl
theorem eU {a:Nat}:isNone (.ref a)=false:=Eq.trans rfl rfl
theorem oh {l:List AV}:isNone (.tup l)=false:=Eq.trans rfl rfl
theorem kE {c:Nat} {l:List AV}:isNone (.inst c l)=false:=Eq.trans rfl rfl
theorem forM_nil {α:Type} {ok:St->Prop} {stop:α->M Bool} {f:AV->α->M α} {a:α} {V:α->St->Prop}:forM ok stop f [] a V E σ=(ok σ/\V a σ):=Eq.trans rfl rfl
theorem forM_cons {α:Type} {ok:St->Prop} {stop:α->M Bool} {f:AV->α->M α} {x:AV} {xs:List AV} {a:α} {V:α->St->Prop}:
  forM ok stop f (x::xs) a V E σ=(ok σ/\f x a (fun b σ=>stop b (fun s σ=>if s=true then V b σ else forM ok stop f xs b V E σ) E σ) E σ):=by
 show (ok σ/\f x a (fun b σ=>stop b (fun s σ=>(if s=true then ret b else forM ok stop f xs b) V E σ) E σ) E σ)=_;refine congrArg (ok σ/\·) ?_;refine aN fun b σ=>?_;refine aN fun s σ=>?_;split<;>rfl
theorem aq {ok:St->Prop} {f:AV->Fl×Frame->M (Fl×Frame)} {x:AV} {xs:List AV} {a:Fl×Frame} {V:Fl×Frame->St->Prop} (h:ok σ)
  (hf:f x a (fun b σ=>match b.1 with | .next=>forM ok stopF f xs b V E σ | _=>V b σ) E σ):forM ok stopF f (x::xs) a V E σ:=by
 rw[forM_cons];refine⟨h,?_⟩;have:(fun (b:Fl×Frame) σ=>stopF b (fun s σ=>if s=true then V b σ else forM ok stopF f xs b V E σ) E σ)=fun b σ=>match b.1 with | .next=>forM ok stopF f xs b V E σ | _=>V b σ:=by
  funext b σ;obtain⟨b1,b2⟩:=b;cases b1<;>rfl
 rw[this];exact hf
theorem ay {ok:St->Prop} {t:List Nat} {ifs:Frame->M Bool} {elt:Frame->M AV} {x:AV} {xs acc:List AV} {ρ':Frame} {V:List AV->St->Prop} (h:ok σ) (ht:bindT ρ t x=some ρ')
  (hf:ifs ρ' (fun b σ=>if b=true then elt ρ' (fun v σ=>acc.length<=1000000/\forM ok (fun _=>ret false) (compF t ρ ifs elt) xs (acc++[v]) V E σ) E σ else forM ok (fun _=>ret false) (compF t ρ ifs elt) xs acc V E σ) E σ):forM ok (fun _=>ret false) (compF t ρ ifs elt) (x::xs) acc V E σ:=by
 rw[forM_cons];refine⟨h,?_⟩;show (match bindT ρ t x with | some r=>ret r | none=>no) _ E σ;rw[ht];show ifs ρ' (fun xC σ=>(if xC=true then bnd (elt ρ') (pushM acc) else ret acc) (fun b σ=>if false=true then V b σ else forM ok (fun _=>ret false) (compF t ρ ifs elt) xs b V E σ) E σ) E σ;have:(fun (xC:Bool) σ=>(if xC=true then bnd (elt ρ') (pushM acc) else ret acc) (fun b σ=>if false=true then V b σ else forM ok (fun _=>ret false) (compF t ρ ifs elt) xs b V E σ) E σ)=fun b σ=>if b=true then elt ρ' (fun v σ=>acc.length<=1000000/\forM ok (fun _=>ret false) (compF t ρ ifs elt) xs (acc++[v]) V E σ) E σ else forM ok (fun _=>ret false) (compF t ρ ifs elt) xs acc V E σ:=by
  funext b σ;cases b<;>rfl
 rw[this];exact hf
def bj:Fl->AV
 | .ret v=>v
 | _=>.none
theorem iH {v:AV}:bj (.ret v)=v:=Eq.trans rfl rfl
def runs (d:FD) (args:List AV) (F:Nat->List AV->M AV) (Q:AV->St->Prop) (E:St->Prop) (σ:St):Prop:=
 evSs F newM GG d.body (args.map some++List.replicate (d.nl - d.np) none) (fun x σ=>Q (bj x.1) σ) E σ
theorem ao {sa:Nat} {l:List AV} {n f:Nat} {args:List AV} (d:FD) (hd:Law.TT[f]? =some d) (hf:f≠29) (hl:args.length=d.np) (h:runs d args (FF sa l n) Q E σ):FF sa l (n+1) f args Q E σ:=by
 show (if f=29 then tapeM GG sa l args else match Law.TT[f]? with | some d=>runF (FF sa l n) newM GG d args | none=>no) Q E σ;rw[if_neg hf,hd];refine⟨hl,?_⟩;have:(fun (x:Fl×Frame) σ=>(ret (match x.1 with | .ret v=>v | _=>AV.none):M AV) Q E σ)=fun x σ=>Q (bj x.1) σ:=by
  funext x σ;obtain⟨x1,x2⟩:=x;cases x1<;>rfl
 show evSs (FF sa l n) newM GG d.body _ (fun (x:Fl×Frame) σ=>(ret (match x.1 with | .ret v=>v | _=>AV.none):M AV) Q E σ) E σ;rw[this];exact h
end
set_option maxRecDepth 20000 in
local macro_rules | `(tactic| tb_start)=>`(tactic| simp only[List.mem_cons,List.map_cons,List.map_nil,List.cons_append,List.nil_append,List.replicate_succ,List.replicate_zero,List.getElem?_cons_zero,List.getElem?_cons_succ,List.set_cons_zero,List.set_cons_succ,List.length_cons,List.length_nil,List.zip_cons_cons,List.zip_nil_left,Nat.sub_self,if_true,if_false,Bool.false_eq_true,Bool.not_true,Bool.not_false,true_and,and_true,false_and,and_false,Bool.true_and,Bool.false_and,Bool.and_true,Bool.and_false,Bool.true_or,Bool.false_or,Bool.or_true,Bool.or_false,decide_true,decide_false,Bool.true_eq_false,bne_self_eq_false,beq_self_eq_true,true_or,or_true,or_false,false_or,cu,nv,nz,iz,nB,j9,fX,ru,uW,uX,uY,uZ,u0,u4,j',rx,rz,rA,rB,ka,nE,kb,kc,rC,rD,eQ,gC,rE,je,nF,rG,u5,iB,iC,nG,nJ,rH,rI,nK,nM,gD,nO,rJ,nP,nQ,ke,kh,nR,kj,ko,gE,rK,rL,nS,kq,aZ,iD,iE,fY,cE,nU,rM,eR,nV,rN,nW,rO,rP,rQ,fZ,nZ,ku,rR,ky,rS,rT,eT,kz,kA,iF,forM_nil,iH,aW,bM,gx,jX,qu,mP,qv,bN,gy,eO,mR,mS,qy,jY,mT,qz,mU,qA,qB,mV,jZ,qC,qD,qE,qF,qG,qI,uS,j3,kB,kC,og,in_str,eU,oh,kE,qJ,qK,mW,mY,gz,gA,j5,mZ,m7,m8,qL,qM,qN,qZ,qO,qP,qQ,qR,qS,qT,qU,qV,m9,qW,rd,rf,rg,nc,rh,ri,ix,j7,ng,rj,rm,rn,jf,eP,ni,nq,jd,nu,j8,iG,af,eF,fieldsOf,fieldAt,newM,qw,qx,Int.reduceToNat,Int.reduceLE,Int.reduceLT,Int.reduceNeg,Int.reducePow,Int.reduceAdd,Int.reduceSub,Int.reduceMul,Int.reduceEq,Int.reduceBEq,Int.reduceBNe,Int.reduceGT,Int.reduceGE,Nat.reduceLeDiff,Nat.reduceLT,Nat.reduceEqDiff,Nat.reduceBEq,Nat.reduceAdd,Nat.reduceSub,Nat.reduceMul,Nat.reducePow,reduceIte,reduceCtorEq,Int.le_refl])
set_option maxRecDepth 20000 in
local macro_rules | `(tactic| simp? [$ts,*])=>`(tactic| simp only[List.mem_cons,List.map_cons,List.map_nil,List.cons_append,List.nil_append,List.replicate_succ,List.replicate_zero,List.getElem?_cons_zero,List.getElem?_cons_succ,List.set_cons_zero,List.set_cons_succ,List.length_cons,List.length_nil,List.zip_cons_cons,List.zip_nil_left,Nat.sub_self,if_true,if_false,Bool.false_eq_true,Bool.not_true,Bool.not_false,true_and,and_true,false_and,and_false,Bool.true_and,Bool.false_and,Bool.and_true,Bool.and_false,Bool.true_or,Bool.false_or,Bool.or_true,Bool.or_false,decide_true,decide_false,Bool.true_eq_false,bne_self_eq_false,beq_self_eq_true,true_or,or_true,or_false,false_or,cu,nv,nz,iz,nB,j9,fX,ru,uW,uX,uY,uZ,u0,u4,j',rx,rz,rA,rB,ka,nE,kb,kc,rC,rD,eQ,gC,rE,je,nF,rG,u5,iB,iC,nG,nJ,rH,rI,nK,nM,gD,nO,rJ,nP,nQ,ke,kh,nR,kj,ko,gE,rK,rL,nS,kq,aZ,iD,iE,fY,cE,nU,rM,eR,nV,rN,nW,rO,rP,rQ,fZ,nZ,ku,rR,ky,rS,rT,eT,kz,kA,iF,forM_nil,iH,aW,bM,gx,jX,qu,mP,qv,bN,gy,eO,mR,mS,qy,jY,mT,qz,mU,qA,qB,mV,jZ,qC,qD,qE,qF,qG,qI,uS,j3,kB,kC,og,in_str,eU,oh,kE,qJ,qK,mW,mY,gz,gA,j5,mZ,m7,m8,qL,qM,qN,qZ,qO,qP,qQ,qR,qS,qT,qU,qV,m9,qW,rd,rf,rg,nc,rh,ri,ix,j7,ng,rj,rm,rn,jf,eP,ni,nq,jd,nu,j8,iG,af,eF,fieldsOf,fieldAt,newM,qw,qx,Int.reduceToNat,Int.reduceLE,Int.reduceLT,Int.reduceNeg,Int.reducePow,Int.reduceAdd,Int.reduceSub,Int.reduceMul,Int.reduceEq,Int.reduceBEq,Int.reduceBNe,Int.reduceGT,Int.reduceGE,Nat.reduceLeDiff,Nat.reduceLT,Nat.reduceEqDiff,Nat.reduceBEq,Nat.reduceAdd,Nat.reduceSub,Nat.reduceMul,Nat.reducePow,reduceIte,reduceCtorEq,Int.le_refl,$ts,*])
section
variable {sa:Nat} {sl:List AV} {n m ta tb wa ax rt h:Nat} {σ σ' σ'':St} {Q:AV->St->Prop} {E:St->Prop} {es es':List (Int×AV)} {aJ hes:List (Str×AV)} {o1 o2 o3 home page:Int} {f:Str->Option Str} {N K:Nat}
def Ext (σ σ':St):Prop:=∀ a o,σ a=some o->σ' a=some o
theorem Ext.refl (σ:St):Ext σ σ:=fun _ _ h=>h
theorem Ext.trans {σ σ' σ'':St} (x:Ext σ σ') (y:Ext σ' σ''):Ext σ σ'':=fun a o h=>y a o (x a o h)
theorem Ext.put {σ σ':St} (x:Ext σ σ') {a:Nat} {o:AO} (h:σ' a=none):Ext σ (Mine.put σ' a o):=fun b ob e=>by
 have:=x b ob e;unfold Mine.put;split
 ·rename_i q;subst q;rw[h] at this;cases this
 ·exact this
theorem Ext.none {σ σ':St} (x:Ext σ σ') {a:Nat} (h:σ' a=none):σ a=none:=by
 cases q:σ a with
 | none=>rfl
 | some o=>have:=x a o q;rw[h] at this;cases this
abbrev ai (n:Int):AV:=.inst 3 [.int n,.int 0]
abbrev nameA (s:Str):AV:=.inst 0 [.str s]
abbrev bf (b:List UInt8):AV:=.inst 1 [.bytes b,.bool false]
def bO (σ:St):AV->Prop
 | .none=>True
 | .bool _=>True
 | .int _=>True
 | .inst c _=>c=0\/c=1\/c=2
 | .ref a=>∃ o,σ a=some o/\(bN o=12\/bN o=13)
 | _=>False
theorem bO.ext {σ σ':St} (x:Ext σ σ'):∀ {v},bO σ v->bO σ' v
 | .none,_=>trivial
 | .bool _,_=>trivial
 | .int _,_=>trivial
 | .inst _ _,h=>h
 | .ref a,⟨o,h1,h2⟩=>⟨o,x a o h1,h2⟩
 | .str _,h=>h.elim
 | .bytes _,h=>h.elim
 | .tup _,h=>h.elim
theorem eh {σ:St} {v:AV} (h:bO σ v) {B:Bool->St->Prop} {E:St->Prop}:instM v 3 B E σ=B false σ:=by
 cases v with
 | none=>rfl
 | bool b=>rfl
 | int i=>rfl
 | inst c vs=>
  rw[rq];rcases h with rfl | rfl | rfl<;>exact propext ⟨fun h=>h.2,fun h=>⟨by decide,h⟩⟩
 | ref a=>
  obtain⟨o,h1,h2⟩:=h;rw[eP,h1,aW];rcases h2 with h2 | h2<;>rw[h2]<;>exact propext ⟨fun h=>h.2,fun h=>⟨by decide,h⟩⟩
 | str _=>exact h.elim
 | bytes _=>exact h.elim
 | tup _=>exact h.elim
inductive bb (σ:St) (es:List (Int×AV)):Nat->AV->AV->Prop where
 | base {k v}:bO σ v->bb σ es k v v
 | gF {k n v w}:atKey es n=some (.tup [.int 0,v])->bb σ es k v w->bb σ es (k+1) (ai n) w
 | miss {k n}:n=99->atKey es n=none->bb σ es (k+1) (ai n) .none
theorem bb.more {σ:St} {es:List (Int×AV)} {k m:Nat} {v w:AV} (h:bb σ es k v w) (hm:k<=m):bb σ es m v w:=by
 induction h generalizing m with
 | base h=>exact .base h
 | gF h _ ih=>
  obtain⟨m',rfl⟩:∃ m',m=m'+1:=⟨m - 1,by omega⟩;exact .gF h (ih (by omega))
 | miss e h=>
  obtain⟨m',rfl⟩:∃ m',m=m'+1:=⟨m - 1,by omega⟩;exact .miss e h
def cn (es es':List (Int×AV)):Prop:=(∀ n v,atKey es n=some v->atKey es' n=some v)/\(atKey es 99=none->atKey es' 99=none)
theorem cn.refl (es:List (Int×AV)):cn es es:=⟨fun _ _ h=>h,fun h=>h⟩
theorem cn.trans {a b c:List (Int×AV)} (x:cn a b) (y:cn b c):cn a c:=⟨fun n v h=>y.1 n v (x.1 n v h),fun h=>y.2 (x.2 h)⟩
theorem bb.ext {σ σ':St} {es es':List (Int×AV)} (x:Ext σ σ') (i:cn es es') {k:Nat} {v w:AV} (h:bb σ es k v w):bb σ' es' k v w:=by
 induction h with
 | base h=>exact .base (h.ext x)
 | gF h _ ih=>exact .gF (i.1 _ _ h) ih
 | miss e h=>exact .miss e (by subst e;exact i.2 h)
theorem bb.dN {σ σ':St} {es:List (Int×AV)} (x:Ext σ σ') {k:Nat} {v w:AV} (h:bb σ es k v w):bb σ' es k v w:=h.ext x (.refl _)
theorem cF:∀ (n:Nat) (lo d:Int),(rangeL lo n d).length=n
 | 0,_,_=>rfl
 | n+1,lo,d=>congrArg (· +1) (cF n _ _)
abbrev ak (tb ax:Nat):AV:=.inst 7 [.ref tb,.ref ax]
theorem aE (ht:σ tb=some (.dI es)) {k:Nat} {v w:AV} (h:bb σ es k v w) (hk:k < 30) (hQ:Q w σ):FF sa sl (n+1) 46 [ak tb ax,v] Q E σ:=by
 refine ao Law.m_fetch rfl (by decide) rfl ?_;unfold runs Law.m_fetch;tb_start;generalize hV:(fun (x:Fl×Frame) σ=>cT (FF sa sl n) _ _ _ (endF x) σ)=V;have u6:∀ ρ,V (.ret w,ρ) σ:=fun ρ=>by rw[<- hV];exact hQ
 have loop:∀ (xs:List AV) (k:Nat) (v:AV) (s1 s3 s4 s5:Option AV),bb σ es k v w->k < xs.length->forM (fun _=>True) stopF (iy (FF sa sl n) [3] Law.B_fetch_0) xs (.next,[some (ak tb ax),s1,some v,s3,s4,s5]) V (fun _=>False) σ:=by
  intro xs;induction xs with
  | nil=>intro k v s1 s3 s4 s5 _ hl;exact absurd hl (Nat.not_lt_zero _)
  | cons x xs ih=>
   intro k v s1 s3 s4 s5 hf hl;refine aq trivial ?_;unfold Law.B_fetch_0;cases hf with
   | base hn=>
    simp? [eh hn];exact u6 _
   | gF hk hf=>
    simp? [ht,hk,Option.getD_some];exact ih _ _ _ _ _ _ hf (Nat.lt_of_succ_lt_succ hl)
   | miss _ hk=>
    simp? [ht,hk,Option.getD_none];exact u6 _
 exact loop _ k v _ _ _ _ h (by rw[cF];exact hk)
theorem aC (ht:σ tb=some (.dI es)) {h:Nat} {hes:List (Str×AV)} {key:Str} (hh:σ h=some (.dS hes)) {k:Nat} {w:AV} (hf:bb σ es k ((atKey hes key).getD .none) w) (hk:k < 30) (hQ:Q w σ):FF sa sl (n+2) 47 [ak tb ax,.ref h,.str key] Q E σ:=by
 refine ao Law.m_get rfl (by decide) rfl ?_;unfold runs Law.m_get;simp? [hh];exact aE ht hf hk hQ
structure bh (σ:St) (tb ax:Nat) (es:List (Int×AV)) (aJ:List (Str×AV)) (rt:Nat):Prop where
 tab:σ tb=some (.dI es)
 ax:σ ax=some (.dS [("Root",ai 1)])
 cat:∃ ct,atKey es 1=some (.tup [.int 0,.ref ct])/\σ ct=some (.dS aJ)
 root:∃ res,bb σ es 5 ((atKey aJ "StructTreeRoot").getD .none) (.ref rt)/\σ rt=some (.dS res)
theorem bh.ext {σ σ':St} {aJ:List (Str×AV)} {rt:Nat} (x:Ext σ σ') (S:bh σ tb ax es aJ rt):bh σ' tb ax es aJ rt:=by
 obtain⟨h1,h2,⟨ct,h3,h4⟩,⟨res,h5,h6⟩⟩:=S;exact⟨x _ _ h1,x _ _ h2,⟨ct,h3,x _ _ h4⟩,⟨res,h5.dN x,x _ _ h6⟩⟩
theorem gb {aJ:List (Str×AV)} {rt:Nat} (S:bh σ tb ax es aJ rt) (hQ:∀ ct,σ ct=some (.dS aJ)->Q (.ref ct) σ):FF sa sl (n+3) 48 [ak tb ax] Q E σ:=by
 obtain⟨ct,h3,h4⟩:=S.cat;refine ao Law.m_root rfl (by decide) rfl ?_;unfold runs Law.m_root;tb_start;refine aC (k:=1) S.tab S.ax (w:=.ref ct) (.gF h3 (.base ⟨_,h4,.inr rfl⟩)) (by decide) ?_;simp? [h4];exact hQ ct h4
theorem eW {aJ:List (Str×AV)} {rt:Nat} (S:bh σ tb ax es aJ rt) (hQ:Q (.ref rt) σ):FF sa sl (n+4) 13 [ak tb ax] Q E σ:=by
 obtain⟨res,h5,h6⟩:=S.root;refine ao Law.f_structure_root rfl (by decide) rfl ?_;unfold runs Law.f_structure_root;tb_start;refine gb S fun ct sM=>?_;refine aC (k:=5) S.tab sM h5 (by decide) ?_;simp? [h6];exact hQ
def bl (σ:St):AV->Prop
 | .bool _=>True
 | .int _=>True
 | .inst c _=>c=0\/c=1\/c=2
 | .ref a=>∃ o,σ a=some o/\bN o=13
 | _=>False
theorem bl.ext (x:Ext σ σ'):∀ {v},bl σ v->bl σ' v
 | .bool _,_=>trivial
 | .int _,_=>trivial
 | .inst _ _,h=>h
 | .ref a,⟨o,h1,h2⟩=>⟨o,x a o h1,h2⟩
 | .none,h=>h.elim
 | .str _,h=>h.elim
 | .bytes _,h=>h.elim
 | .tup _,h=>h.elim
theorem gG {v:AV} (h:bl σ v) {B:Bool->St->Prop}:instM v 12 B E σ=B false σ:=by
 cases v with
 | none=>exact h.elim
 | bool b=>rfl
 | int i=>rfl
 | inst c vs=>
  rw[jf];rcases h with rfl | rfl | rfl<;>exact propext ⟨fun h=>h.2,fun h=>⟨by decide,h⟩⟩
 | ref a=>
  obtain⟨o,h1,h2⟩:=h;rw[eP,h1,aW,h2];exact propext ⟨fun h=>h.2,fun h=>⟨by decide,h⟩⟩
 | str _=>exact h.elim
 | bytes _=>exact h.elim
 | tup _=>exact h.elim
theorem gH {v:AV} (h:bl σ v):isNone v=false:=by cases v<;>first | rfl | exact h.elim
def aA (σ:St) (es:List (Int×AV)) (h:Nat) (l:List AV):Prop:=∃ hes,σ h=some (.dS hes)/\∃ w,bb σ es 9 ((atKey hes "K").getD .none) w/\
 ((w=.none/\l=[])\/(∃ b,w=.ref b/\σ b=some (.list l))\/(bl σ w/\∃ v,atKey hes "K"=some v/\l=[v]))
theorem aA.inc {es':List (Int×AV)} (x:Ext σ σ') (i:cn es es') {h:Nat} {l:List AV}:aA σ es h l->aA σ' es' h l:=by
 rintro⟨hes,h1,w,h2,h3⟩;refine⟨hes,x _ _ h1,w,h2.ext x i,?_⟩;rcases h3 with h3 | ⟨b,h3,h4⟩ | ⟨h3,h4⟩
 ·exact .inl h3
 ·exact .inr (.inl ⟨b,h3,x _ _ h4⟩)
 ·exact .inr (.inr ⟨h3.ext x,h4⟩)
theorem aA.ext (x:Ext σ σ') {h:Nat} {l:List AV} (I:aA σ es h l):aA σ' es h l:=I.inc x (.refl _)
theorem bP (S:bh σ tb ax es aJ rt) {h:Nat} {l:List AV} (I:aA σ es h l) (hQ:∀ b σ',Ext σ σ'->σ' b=some (.list l)->Q (.ref b) σ'):FF sa sl (n+3) 15 [ak tb ax,.ref h] Q E σ:=by
 obtain⟨hes,h1,w,h2,h3⟩:=I;refine ao Law.f_items_of rfl (by decide) rfl ?_;unfold runs Law.f_items_of;tb_start;refine aC S.tab h1 h2 (by decide) ?_;rcases h3 with ⟨rfl,rfl⟩ | ⟨b,rfl,h4⟩ | ⟨h3,v,h4,rfl⟩
 ·tb_start;exact fun a ha=>hQ a _ ((Ext.refl σ).put ha) af
 ·simp? [h4];exact hQ b σ (.refl σ) h4
 ·simp? [h1,h4,gG h3,gH h3];exact fun a ha=>hQ a _ ((Ext.refl σ).put ha) af
inductive aO (σ:St):AV->Str->Prop where
 | none:aO σ .none "null"
 | bool (b:Bool):aO σ (.bool b) "truth"
 | int (i:Int):aO σ (.int i) "int"
 | name (vs:List AV):aO σ (.inst 0 vs) "name"
 | str (vs:List AV):aO σ (.inst 1 vs) "string"
 | stream (vs:List AV):aO σ (.inst 2 vs) "stream"
 | list {a l}:σ a=some (.list l)->aO σ (.ref a) "array"
 | dict {a l}:σ a=some (.dS l)->aO σ (.ref a) "dict"
theorem aO.ext (x:Ext σ σ') {v:AV} {s:Str} (h:aO σ v s):aO σ' v s:=by
 cases h with
 | none=>exact .none
 | bool b=>exact .bool b
 | int i=>exact .int i
 | name vs=>exact .name vs
 | str vs=>exact .str vs
 | stream vs=>exact .stream vs
 | list h=>exact .list (x _ _ h)
 | dict h=>exact .dict (x _ _ h)
theorem bL {v:AV} {s:Str} (h:aO σ v s) (hQ:Q (.str s) σ):FF sa sl (n+1) 28 [v] Q E σ:=by
 refine ao Law.f_kind_of rfl (by decide) rfl ?_;unfold runs Law.f_kind_of;cases h with
 | list h=>simp? [h];exact hQ
 | dict h=>simp? [h];exact hQ
 | _=>tb_start;exact hQ
inductive bu (σ:St):AV->Str->Prop where
 | name (s:Str):bu σ (nameA s) s
 | none:bu σ .none Str.empty
 | bool (b:Bool):bu σ (.bool b) Str.empty
 | int (i:Int):bu σ (.int i) Str.empty
 | str (vs:List AV):bu σ (.inst 1 vs) Str.empty
inductive av (σ:St) (es:List (Int×AV)):AV->Str->Prop where
 | content {v i}:bb σ es 9 v (.int i)->0<=i->av σ es v "content"
 | neg {v i}:bb σ es 9 v (.int i)->i < 0->av σ es v Str.empty
 | other {v w s}:bb σ es 9 v w->aO σ w s->s≠"int"->s≠"dict"->av σ es v Str.empty
 | dict {v h hes k s}:bb σ es 9 v (.ref h)->σ h=some (.dS hes)->bb σ es 9 ((atKey hes "Type").getD .none) k->bu σ k s->av σ es v (if s="MCR" then "mcr" else if s="OBJR" then "objr" else "element")
theorem bu.ext {v:AV} {s:Str} (h:bu σ v s):bu σ' v s:=by
 cases h<;>constructor
theorem av.inc {es':List (Int×AV)} (x:Ext σ σ') (i:cn es es') {v:AV} {s:Str} (h:av σ es v s):av σ' es' v s:=by
 cases h with
 | content h q=>exact .content (h.ext x i) q
 | neg h q=>exact .neg (h.ext x i) q
 | other h k a b=>exact .other (h.ext x i) (k.ext x) a b
 | dict h a k w=>exact .dict (h.ext x i) (x _ _ a) (k.ext x i) w.ext
theorem av.ext (x:Ext σ σ') {v:AV} {s:Str} (h:av σ es v s):av σ' es v s:=h.inc x (.refl _)
theorem gc {s:Str}:(atKey [(("MCR":Str),AV.str "mcr"),(("OBJR":Str),AV.str "objr")] s).getD (.str "element")=.str (if s="MCR" then "mcr" else if s="OBJR" then "objr" else "element"):=by
 unfold atKey;by_cases h1:s="MCR"
 ·subst h1;rfl
 ·have xD:¬ ("MCR":Str)=s:=Ne.symm h1;by_cases h2:s="OBJR"
  ·subst h2;rfl
  ·have xE:¬ ("OBJR":Str)=s:=Ne.symm h2;simp [h1,h2,xD,xE]
theorem aK (ht:σ tb=some (.dI es)) {v:AV} {s:Str} (h:av σ es v s) (hQ:∀ σ',Ext σ σ'->Q (.str s) σ'):FF sa sl (n+3) 16 [ak tb ax,v] Q E σ:=by
 refine ao Law.f_sort_of rfl (by decide) rfl ?_;unfold runs Law.f_sort_of;cases h with
 | content h i=>
  tb_start;refine aE ht h (by decide) ?_;tb_start;refine bL (.int _) ?_;simp? [i];exact hQ σ (.refl σ)
 | @neg i h hi=>
  tb_start;refine aE ht h (by decide) ?_;tb_start;refine bL (.int _) ?_;have uB:¬ i>=0:=Int.not_le.mpr hi;simp? [uB];exact hQ σ (.refl σ)
 | other h k a b=>
  tb_start;refine aE ht h (by decide) ?_;refine bL k ?_;have a':=beq_eq_false_iff_ne.mpr a;cases k with
  | dict q=>exact absurd rfl b
  | int i=>exact absurd rfl a
  | list q=>
   simp? [a',q];exact hQ σ (.refl σ)
  | _=>
   simp? [a'];exact hQ σ (.refl σ)
 | dict h a k w=>
  tb_start;refine aE ht h (by decide) ?_;refine bL (.dict a) ?_;have a':(("dict":Str)==("int":Str))=false:=by decide
  simp? [a',a];refine aC ht a k (by decide) ?_;cases w with
  | name s=>
   simp? [gc];exact fun d hd=>hQ _ ((Ext.refl σ).put hd)
  | _=>
   simp? [gc];exact fun d hd=>hQ _ ((Ext.refl σ).put hd)
mutual
inductive Tr where
 | elem (a h:Nat) (num page:Int) (word:Str) (own:Option Str) (its:ah)
 | obj (a:Nat) (num:Int)
 | content (a:Nat) (page num:Int)
 | nothing (a:Nat)
inductive ah where
 | nil
 | cons (v:AV) (t:Tr) (r:ah)
end
def ah.vals:ah->List AV
 | .nil=>[]
 | .cons v _ r=>v::r.vals
mutual
def Tr.size:Tr->Nat
 | .elem _ _ _ _ _ _ its=>1+its.size
 | _=>1
def ah.size:ah->Nat
 | .nil=>0
 | .cons _ t r=>t.size+r.size
end
theorem ah.aR:∀ (r:ah),r.vals.length<=r.size
 | .nil=>Nat.le_refl _
 | .cons _ t r=>by
  have:=r.aR;have:1<=t.size:=by cases t<;>simp only[Tr.size]<;>omega
  simp only[ah.vals,ah.size,List.length_cons];omega
def Tr.dO:Tr->Prop
 | .nothing _=>True
 | _=>False
def ah.bw:ah->Prop
 | .nil=>True
 | .cons _ t r=>t.dO/\r.bw
mutual
def Tr.flat (d ab:Int) (n:Nat):Tr->List (Tr×Int×Int)
 | .elem a h num page word own its=>(.elem a h num page word own its,d,ab)::its.flat (d+1) n (n+1)
 | _=>[]
def ah.flat (d ab:Int) (n:Nat):ah->List (Tr×Int×Int)
 | .nil=>[]
 | .cons _ t r=>t.flat d ab n++r.flat d ab (n+(t.flat d ab n).length)
end
mutual
def Tr.nums:Tr->List Int
 | .elem _ _ num _ _ _ its=>(if 0 < num then [num] else [])++its.nums
 | _=>[]
def ah.nums:ah->List Int
 | .nil=>[]
 | .cons _ t r=>t.nums++r.nums
end
theorem bI:∀ {r:ah},r.bw->∀ d ab n,r.flat d ab n=[]/\r.nums=[]
 | .nil,_,_,_,_=>⟨rfl,rfl⟩
 | .cons _ t r,⟨h1,h2⟩,d,ab,n=>by
  cases t<;>first | exact h1.elim | skip
  have:=bI h2 d ab n;simp only[ah.flat,Tr.flat,ah.nums,Tr.nums,List.nil_append,List.length_nil,Nat.add_zero];exact this
def cv (σ:St) (es:List (Int×AV)) (v:AV) (h:Nat) (num:Int):Prop:=(∃ hes,σ h=some (.dS hes))/\((num=0/\v=.ref h)\/(0 < num/\v=ai num/\atKey es num=some (.tup [.int 0,.ref h])))
theorem cv.sN {σ:St} {es:List (Int×AV)} {v:AV} {h:Nat} {num:Int} (x:cv σ es v h num):bb σ es 2 v (.ref h):=by
 obtain⟨⟨hes,hh⟩,x | x⟩:=x
 ·obtain⟨_,rfl⟩:=x;exact .base ⟨_,hh,.inr rfl⟩
 ·obtain⟨_,rfl,hk⟩:=x;exact .gF hk (.base ⟨_,hh,.inr rfl⟩)
mutual
def Tr.bX (σ:St) (es:List (Int×AV)) (X:Nat->ah->ah->Prop):AV->Tr->Prop
 | v,.elem a h num page word own its=>cv σ es v h num/\av σ es v "element"/\(∃ its',X h its its'/\aA σ es h its'.vals)/\its.bX σ es X
 | v,_=>∃ s,av σ es v s/\s≠"element"
def ah.bX (σ:St) (es:List (Int×AV)) (X:Nat->ah->ah->Prop):ah->Prop
 | .nil=>True
 | .cons v t r=>Tr.bX σ es X v t/\r.bX σ es X
end
def cU:Tr×Int×Int->AV
 | (.elem _ h num _ _ _ _,d,ab)=>.inst 6 [if 0 < num then ai num else .none,.ref h,.int d,.int ab]
 | _=>.none
abbrev dy (d ab:Int) (v:AV):AV:=.tup [v,.int d,.int ab]
theorem dP {F:Nat->List AV->M AV} {ρ:Frame} {i:Nat} {elt:PE} {g:AV->AV} {ok:St->Prop} {V:List AV->St->Prop} (hg:∀ x Q,cf F elt (ρ.set i (some x)) Q E σ=Q (g x) σ) (hok:ok σ):∀ (xs acc:List AV),acc.length+xs.length<=1000000->V (acc++xs.map g) σ->
  forM ok (fun _=>ret false) (compF [i] ρ (cm F .nil) (cf F elt)) xs acc V E σ
 | [],acc,_,h=>⟨hok,by rwa [List.map_nil,List.append_nil] at h⟩
 | x::xs,acc,hl,h=>by
  rw[List.length_cons] at hl;refine ay hok rfl ?_;unfold cm;simp only[eQ,if_true,hg];refine⟨by omega,dP hg hok xs _ (by rw[List.length_append,List.length_cons,List.length_nil];omega) ?_⟩;rw[List.append_assoc,List.cons_append,List.nil_append];rwa [List.map_cons] at h
theorem az {c:Frame->M Bool} {b:Frame->M (Fl×Frame)} {k:Nat} {ρ:Frame} {V:Fl×Frame->St->Prop}:whileN c b (k+1) ρ V E σ=c ρ (fun t σ=>if t=true then b ρ (fun x σ=>match x.1 with | .next=>whileN c b k x.2 V E σ | _=>V (endF x) σ) E σ else V (.next,ρ) σ) E σ:=by
 show c ρ (fun t σ=>(if t=true then bnd (b ρ) (fun x=>(match x.1 with | .next=>whileN c b k x.2 | _=>ret (endF x))) else ret (Fl.next,ρ)) V E σ) E σ=_;refine aN fun t σ=>?_;split
 ·rw[mQ];refine aN fun x σ=>?_;obtain⟨x1,x2⟩:=x;cases x1<;>rfl
 ·rfl
structure At (σ0:St) (la fa se:Nat) (σ:St) (line F:List AV) (S:List (Int×AV)):Prop where
 ext:Ext σ0 σ
 line:σ la=some (.list line)
 found:σ fa=some (.list F)
 seen:σ se=some (.dI S)
abbrev rU:PE:=.cmp .ne (.loc 3) (.list .nil)
theorem dB {σ0:St} {la fa se:Nat} (bA:σ0 la=none) (eG:la≠fa) (ht:σ0 tb=some (.dI es)) {line F:List AV} {S:List (Int×AV)} {v:AV} {d ab:Int} {s:Str} (hs:av σ0 es v s) (hne:s≠"element") {k:Nat} {V:Fl×Frame->St->Prop} (hlen:line.length < 100000)
  (next:∀ σ s4 s5 s6 s7 s8 s9 bY,At σ0 la fa se σ line F S->whileN (eg (FF sa sl (n+4)) rU) (gB (FF sa sl (n+4)) Law.B_elements_0) k [some (ak tb ax),some (.ref fa),some (.ref se),some (.ref la),s4,s5,s6,s7,s8,s9,bY] V E σ)
  {s4 s5 s6 s7 s8 s9 bY:Option AV} (A:At σ0 la fa se σ (line++[dy d ab v]) F S):
  whileN (eg (FF sa sl (n+4)) rU) (gB (FF sa sl (n+4)) Law.B_elements_0) (k+1) [some (ak tb ax),some (.ref fa),some (.ref se),some (.ref la),s4,s5,s6,s7,s8,s9,bY] V E σ:=by
 rw[az];unfold eg rU;tb_start;intro a ha;have oi:la≠a:=fresh_ne ha A.line;refine dM (by rw[ae oi];exact A.line) af (by simp) ?_;tb_start;unfold gB Law.B_elements_0;have h1:put σ a (.list []) la=some (.list (line++[dy d ab v])):=by rw[ae oi];exact A.line
 simp? [h1,j6 h1 (show line.length < 1000000 by omega)];have e1:Ext σ0 (put (put σ a (.list [])) la (.list line)):=by
  intro b o hb;have:b≠la:=fun q=>by rw[q,bA] at hb;cases hb
  rw[ae this];exact (A.ext.put ha) b o hb
 refine aK (e1 _ _ ht) (hs.ext e1) fun σ2 x2=>?_;simp? [beq_eq_false_iff_ne.mpr hne];have fE:fa≠a:=fresh_ne ha A.found;have xF:se≠a:=fresh_ne ha A.seen;have hsl:se≠la:=fun q=>by have:=A.seen;rw[q,A.line] at this;cases this
 refine next _ _ _ _ _ _ _ _ ⟨e1.trans x2,x2 _ _ af,x2 _ _ ?_,x2 _ _ ?_⟩
 ·rw[ae (Ne.symm eG),ae fE];exact A.found
 ·rw[ae hsl,ae xF];exact A.seen
theorem jg {K:Type} [DecidableEq K] {es:List (K×AV)} {k:K} (h:atKey es k=none):es.any (fun e=>decide (e.1=k))=false:=by
 unfold atKey at h;rw[Option.map_eq_none_iff,List.find?_eq_none] at h;rw[List.any_eq_false];exact h
theorem aL {K:Type} [DecidableEq K] {es:List (K×AV)} {k:K} {v:AV} (h:atKey es k=none):putK es k v=es++[(k,v)]:=by
 unfold putK;rw[jg h];rfl
theorem aP {K:Type} [DecidableEq K] {es:List (K×AV)} {k j:K} {v:AV}:atKey (es++[(k,v)]) j=match atKey es j with | some w=>some w | none=>if k=j then some v else none:=by
 unfold atKey;rw[List.find?_append];cases h:es.find? fun e=>decide (e.1=j) with
 | some e=>rfl
 | none=>
  rw[Option.none_or,List.find?_cons];by_cases q:k=j
  ·rw[if_pos q];simp [q]
  ·rw[if_neg q];simp [q]
def bH (S:List (Int×AV)) (num:Int):List (Int×AV):=if 0 < num then S++[(num,.bool true)] else S
theorem gJ (ht:σ tb=some (.dI es)) {v:AV} {h:Nat} {num d ab:Int} {se:Nat} {S:List (Int×AV)} (hv:cv σ es v h num) (hs:σ se=some (.dI S)) (hl:S.length<=100000) (sO:tb≠se) (sP:h≠se)
  (hE:0 < num->(atKey S num).isSome=true->E σ)
  (hQ:(0 < num->atKey S num=none)->∀ σ',(σ' se=some (.dI (bH S num))/\∀ b,b≠se->σ' b=σ b)->Q (.inst 6 [if 0 < num then ai num else .none,.ref h,.int d,.int ab]) σ'):
  FF sa sl (n+2) 17 [ak tb ax,v,.int d,.int ab,.ref se] Q E σ:=by
 refine ao Law.f_element_of rfl (by decide) rfl ?_;unfold runs Law.f_element_of;have hf:=hv.sN;obtain⟨⟨hes,hh⟩,⟨rfl,rfl⟩ | ⟨hp,rfl,hk⟩⟩:=hv
 ·simp? [hh];refine aE ht hf (by decide) ?_;try tb_start
  have:=hQ (fun z=>absurd z (by decide)) σ ⟨hs,fun _ _=>rfl⟩;simpa using this
 ·cases hc:atKey S num with
  | some w=>
   simp? [hs,hc,Option.isSome_some];exact⟨⟨_,rfl⟩,hE hp (by rw[hc];rfl)⟩
  | none=>
   have hl':S.length<=1000000:=by omega
   simp? [hs,hc,Option.isSome_none,hl'];have hkeep:∀ b,b≠se->put σ se (.dI (putK S num (.bool true))) b=σ b:=fun b hb=>ae hb;refine aE (by rw[hkeep _ sO];exact ht) (w:=.ref h) (k:=2) (.gF hk (.base ⟨_,by rw[hkeep _ sP];exact hh,.inr rfl⟩)) (by decide) ?_;try tb_start
   have:=hQ (fun _=>hc) (put σ se (.dI (putK S num (.bool true)))) ⟨by rw[af,aL hc];unfold bH;rw[if_pos hp],hkeep⟩;rwa [if_pos hp] at this
theorem iI {σ0:St} {la fa se:Nat} (bA:σ0 la=none) (fE:σ0 fa=none) (dq:σ0 se=none) (eG:la≠fa) (S0:bh σ0 tb ax es aJ rt) {line F l:List AV} {S:List (Int×AV)} {v:AV} {h:Nat} {num d ab:Int} (hv:cv σ0 es v h num) (hs:av σ0 es v "element") (hi:aA σ0 es h l) {k:Nat} {V:Fl×Frame->St->Prop} (hlen:line.length+l.length < 100000) (hF:F.length < 100000) (hS:S.length<=100000)
  (hE:0 < num->(atKey S num).isSome=true->∀ σ,Ext σ0 σ->E σ)
  (next:(0 < num->atKey S num=none)->∀ σ s4 s5 s6 s7 s8 s9 bY,At σ0 la fa se σ (line++(l.reverse.map (dy (d+1) F.length))) (F++[.inst 6 [if 0 < num then ai num else .none,.ref h,.int d,.int ab]]) (bH S num)->whileN (eg (FF sa sl (n+4)) rU) (gB (FF sa sl (n+4)) Law.B_elements_0) k [some (ak tb ax),some (.ref fa),some (.ref se),some (.ref la),s4,s5,s6,s7,s8,s9,bY] V E σ)
  {s4 s5 s6 s7 s8 s9 bY:Option AV} (A:At σ0 la fa se σ (line++[dy d ab v]) F S):
  whileN (eg (FF sa sl (n+4)) rU) (gB (FF sa sl (n+4)) Law.B_elements_0) (k+1) [some (ak tb ax),some (.ref fa),some (.ref se),some (.ref la),s4,s5,s6,s7,s8,s9,bY] V E σ:=by
 rw[az];unfold eg rU;tb_start;intro a ha;have oi:la≠a:=fresh_ne ha A.line;refine dM (by rw[ae oi];exact A.line) af (by simp) ?_;tb_start;unfold gB Law.B_elements_0;have h1:put σ a (.list []) la=some (.list (line++[dy d ab v])):=by rw[ae oi];exact A.line
 simp? [h1,j6 h1 (show line.length < 1000000 by omega)];have e1:Ext σ0 (put (put σ a (.list [])) la (.list line)):=by
  intro b o hb;have:b≠la:=fun q=>by rw[q,bA] at hb;cases hb
  rw[ae this];exact (A.ext.put ha) b o hb
 have xG:fa≠a:=fresh_ne ha A.found;have xF:se≠a:=fresh_ne ha A.seen;have hsl:se≠la:=fun q=>by have:=A.seen;rw[q,A.line] at this;cases this
 have rV:se≠fa:=fun q=>by have:=A.seen;rw[q,A.found] at this;cases this
 refine aK (e1 _ _ S0.tab) (hs.ext e1) fun σ2 x2=>?_;tb_start;have e2:=e1.trans x2;have l2:σ2 la=some (.list line):=x2 _ _ af;have f2:σ2 fa=some (.list F):=x2 _ _ (by rw[ae (Ne.symm eG),ae xG];exact A.found);have s2:σ2 se=some (.dI S):=x2 _ _ (by rw[ae hsl,ae xF];exact A.seen);have sO:tb≠se:=fun q=>by rw[<- q,S0.tab] at dq;cases dq
 obtain⟨⟨hes,hh⟩,hv'⟩:=id hv;have sP:h≠se:=fun q=>by rw[<- q,hh] at dq;cases dq
 refine gJ (e2 _ _ S0.tab) ⟨⟨hes,e2 _ _ hh⟩,hv'⟩ s2 hS sO sP (fun z1 z2=>hE z1 z2 _ e2) fun hnew σ3 ⟨s3,k3⟩=>?_;have e3:Ext σ0 σ3:=fun b o hb=>by
  have:b≠se:=fun q=>by rw[q,dq] at hb;cases hb
  rw[k3 b this];exact e2 _ _ hb
 have l3:σ3 la=some (.list line):=by rw[k3 _ (Ne.symm hsl)];exact l2
 have f3:σ3 fa=some (.list F):=by rw[k3 _ (Ne.symm rV)];exact f2
 have sQ:F.length<=1000000:=by omega
 simp? [f3,sQ,l3];have f4:∀ o,put σ3 fa o la=some (.list line):=fun o=>by rw[ae eG];exact l3
 have e4:∀ o,Ext σ0 (put σ3 fa o):=fun o b ob hb=>by
  have:b≠fa:=fun q=>by rw[q,fE] at hb;cases hb
  rw[ae this];exact e3 _ _ hb
 simp? [f4];refine bP (S0.ext (e4 _)) (hi.ext (e4 _)) fun b σ5 x5 hb=>?_;simp? [hb];refine dP (g:=dy (d+1) F.length) (fun x Q=>?_) hb _ _ (by rw[List.length_nil,List.length_reverse];omega) ?_
 ·unfold cf;tb_start
 ·rw[List.nil_append];intro c hc;have l5:σ5 la=some (.list line):=x5 _ _ (f4 _);have uC:la≠c:=fresh_ne hc l5;rw[uU (by rw[ae uC];exact l5) af ⟨uC,by rw[List.length_map,List.length_reverse];omega⟩];try tb_start
  have f5:=x5 _ _ (af (σ:=σ3) (a:=fa));have s5:σ5 se=some (.dI (bH S num)):=x5 _ _ (by rw[ae rV];exact s3);refine next hnew _ _ _ _ _ _ _ _ ⟨fun b' o hb'=>?_,af,?_,?_⟩
  ·have:b'≠la:=fun q=>by rw[q,bA] at hb';cases hb'
   rw[ae this];exact (((e4 _).trans x5).put hc) _ _ hb'
  ·rw[ae (Ne.symm eG),ae (fresh_ne hc f5)];exact f5
  ·rw[ae hsl,ae (fresh_ne hc s5)];exact s5
mutual
theorem Tr.aI (d ab:Int) (n:Nat):∀ t:Tr,(t.flat d ab n).length<=t.size
 | .elem a h num page word own its=>by
  have:=its.aI (d+1) n (n+1);simp only[Tr.flat,Tr.size,List.length_cons];omega
 | .obj _ _=>Nat.zero_le _
 | .content _ _ _=>Nat.zero_le _
 | .nothing _=>Nat.zero_le _
theorem ah.aI (d ab:Int) (n:Nat):∀ t:ah,(t.flat d ab n).length<=t.size
 | .nil=>Nat.le_refl _
 | .cons _ t r=>by
  have h1:=t.aI d ab n;have h2:=r.aI d ab (n+(t.flat d ab n).length);simp only[ah.flat,ah.size,List.length_append];omega
end
mutual
theorem Tr.cV:∀ t:Tr,t.nums.length<=t.size
 | .elem a h num page word own its=>by
  have:=its.cV;simp only[Tr.nums,Tr.size,List.length_append];split<;>simp only[List.length_cons,List.length_nil]<;>omega
 | .obj _ _=>Nat.zero_le _
 | .content _ _ _=>Nat.zero_le _
 | .nothing _=>Nat.zero_le _
theorem ah.cV:∀ t:ah,t.nums.length<=t.size
 | .nil=>Nat.le_refl _
 | .cons _ t r=>by
  have h1:=t.cV;have h2:=r.cV;simp only[ah.nums,ah.size,List.length_append];omega
end
def br (h:Nat) (its its':ah):Prop:=its'=its\/(its'=.nil/\its.bw)
def seenOf (ns:List Int):List (Int×AV):=ns.map fun i=>(i,.bool true)
theorem lq {S:List (Int×AV)} {num:Int}:atKey S num=none↔num∉S.map (·.1):=by
 unfold atKey;rw[Option.map_eq_none_iff,List.find?_eq_none,List.mem_map];constructor
 ·rintro h ⟨p,hp,rfl⟩;exact h p hp (by simp)
 ·intro h p hp q;exact h ⟨p,hp,by simpa using q⟩
theorem jh {ns:List Int}:(seenOf ns).map (·.1)=ns:=by
 unfold seenOf;rw[List.map_map];exact List.map_id _
abbrev dr (sa:Nat) (sl:List AV) (n tb ax fa se la:Nat) (k:Nat) (s4 s5 s6 s7 s8 s9 bY:Option AV) (V:Fl×Frame->St->Prop) (E:St->Prop) (σ:St):Prop:=
 whileN (eg (FF sa sl (n+4)) rU) (gB (FF sa sl (n+4)) Law.B_elements_0) k [some (ak tb ax),some (.ref fa),some (.ref se),some (.ref la),s4,s5,s6,s7,s8,s9,bY] V E σ
structure Start (σ0:St) (tb ax rt:Nat) (es:List (Int×AV)) (aJ:List (Str×AV)) (la fa se:Nat):Prop where
 shelf:bh σ0 tb ax es aJ rt
 bA:σ0 la=none
 fE:σ0 fa=none
 dq:σ0 se=none
 eG:la≠fa
mutual
theorem xH {σ0:St} {la fa se:Nat} (Z:Start σ0 tb ax rt es aJ la fa se):∀ (t:Tr) (v:AV),Tr.bX σ0 es br v t->∃ m,∀ (d ab:Int) (line F:List AV) (S:List (Int×AV)) (k:Nat) (V:Fl×Frame->St->Prop) (E:St->Prop) (σ:St) (s4 s5 s6 s7 s8 s9 bY:Option AV),
  line.length+t.size < 50000->F.length+t.size < 50000->S.length+t.size < 50000->(S.map (·.1)++t.nums).Nodup->
  (∀ σ s4 s5 s6 s7 s8 s9 bY,At σ0 la fa se σ line (F++(t.flat d ab F.length).map cU) (S++seenOf t.nums)->dr sa sl n tb ax fa se la k s4 s5 s6 s7 s8 s9 bY V E σ)->
  At σ0 la fa se σ (line++[dy d ab v]) F S->dr sa sl n tb ax fa se la (k+m) s4 s5 s6 s7 s8 s9 bY V E σ
 | .elem a h num page word own its,v,hv=>by
  unfold Tr.bX at hv;obtain⟨h1,h2,⟨its',h3,h4⟩,h5⟩:=hv;have hk:its'.vals.length<=its.size/\∃ m,∀ (d ab:Int) (line F:List AV) (S:List (Int×AV)) (k:Nat) (V:Fl×Frame->St->Prop) (E:St->Prop) (σ:St) (s4 s5 s6 s7 s8 s9 bY:Option AV),
    line.length+its.size < 50000->F.length+its.size < 50000->S.length+its.size < 50000->(S.map (·.1)++its.nums).Nodup->
    (∀ σ s4 s5 s6 s7 s8 s9 bY,At σ0 la fa se σ line (F++(its.flat d ab F.length).map cU) (S++seenOf its.nums)->dr sa sl n tb ax fa se la k s4 s5 s6 s7 s8 s9 bY V E σ)->
    At σ0 la fa se σ (line++its'.vals.reverse.map (dy d ab)) F S->dr sa sl n tb ax fa se la (k+m) s4 s5 s6 s7 s8 s9 bY V E σ:=by
   rcases h3 with rfl | ⟨rfl,h3⟩
   ·exact⟨its'.aR,oj Z its' h5⟩
   ·refine⟨Nat.zero_le _,0,fun d ab line F S k V E σ s4 s5 s6 s7 s8 s9 bY b1 b2 b3 b4 next A=>next σ _ _ _ _ _ _ _ ?_⟩;obtain⟨e1,e2⟩:=bI h3 d ab F.length;rw[e1,e2];simpa [ah.vals,seenOf] using A
  obtain⟨lr,m,hm⟩:=hk;refine⟨m+1,fun d ab line F S k V E σ s4 s5 s6 s7 s8 s9 bY b1 b2 b3 b4 next A=>?_⟩;simp only[Tr.size] at b1 b2 b3;have hnew:0 < num->atKey S num=none:=fun hp=>by
   rw[lq];intro hc;simp only[Tr.nums,if_pos hp,List.cons_append,List.nil_append] at b4;exact (List.nodup_append.mp b4).2.2 _ hc _ (.head _) rfl
  refine iI (k:=k+m) Z.bA Z.fE Z.dq Z.eG Z.shelf h1 h2 h4 (by omega) (by omega) (by omega) (fun hp hc=>by rw[hnew hp] at hc;cases hc) (fun _ σ s4 s5 s6 s7 s8 s9 bY A'=>?_) A;have Bj:(bH S num).length<=S.length+1:=by
   unfold bH;split
   ·rw[List.length_append];exact Nat.le_refl _
   ·omega
  refine hm (d+1) F.length line _ (bH S num) k V E σ _ _ _ _ _ _ _ (by omega) (by rw[List.length_append,List.length_cons,List.length_nil];omega) (by omega) ?_ (fun σ s4 s5 s6 s7 s8 s9 bY u7=>next σ _ _ _ _ _ _ _ ?_) A'
  ·unfold bH;simp only[Tr.nums] at b4;split
   ·rename_i hp;rw[if_pos hp] at b4;simpa [List.append_assoc] using b4
   ·rename_i hp;rw[if_neg hp] at b4;simpa using b4
  ·have e:(F++[AV.inst 6 [if 0 < num then ai num else .none,.ref h,.int d,.int ab]])++(its.flat (d+1) F.length (F++[AV.inst 6 [if 0 < num then ai num else .none,.ref h,.int d,.int ab]]).length).map cU=F++((Tr.elem a h num page word own its).flat d ab F.length).map cU:=by
    rw[List.length_append,List.length_cons,List.length_nil];simp only[Tr.flat,List.map_cons,cU,List.append_assoc,List.cons_append,List.nil_append,Nat.zero_add]
   have e':bH S num++seenOf its.nums=S++seenOf (Tr.elem a h num page word own its).nums:=by
    unfold bH seenOf;simp only[Tr.nums];split<;>simp
   rw[e,e'] at u7;exact u7
 | .obj a num,v,hv=>by
  unfold Tr.bX at hv;obtain⟨s,h1,h2⟩:=hv;refine⟨1,fun d ab line F S k V E σ s4 s5 s6 s7 s8 s9 bY b1 b2 b3 b4 next A=>dB Z.bA Z.eG Z.shelf.tab h1 h2 (by omega) (fun σ s4 s5 s6 s7 s8 s9 bY A'=>next σ _ _ _ _ _ _ _ ?_) A⟩;simpa [Tr.flat,Tr.nums,seenOf] using A'
 | .content a page num,v,hv=>by
  unfold Tr.bX at hv;obtain⟨s,h1,h2⟩:=hv;refine⟨1,fun d ab line F S k V E σ s4 s5 s6 s7 s8 s9 bY b1 b2 b3 b4 next A=>dB Z.bA Z.eG Z.shelf.tab h1 h2 (by omega) (fun σ s4 s5 s6 s7 s8 s9 bY A'=>next σ _ _ _ _ _ _ _ ?_) A⟩;simpa [Tr.flat,Tr.nums,seenOf] using A'
 | .nothing a,v,hv=>by
  unfold Tr.bX at hv;obtain⟨s,h1,h2⟩:=hv;refine⟨1,fun d ab line F S k V E σ s4 s5 s6 s7 s8 s9 bY b1 b2 b3 b4 next A=>dB Z.bA Z.eG Z.shelf.tab h1 h2 (by omega) (fun σ s4 s5 s6 s7 s8 s9 bY A'=>next σ _ _ _ _ _ _ _ ?_) A⟩;simpa [Tr.flat,Tr.nums,seenOf] using A'
theorem oj {σ0:St} {la fa se:Nat} (Z:Start σ0 tb ax rt es aJ la fa se):∀ (r:ah),ah.bX σ0 es br r->∃ m,∀ (d ab:Int) (line F:List AV) (S:List (Int×AV)) (k:Nat) (V:Fl×Frame->St->Prop) (E:St->Prop) (σ:St) (s4 s5 s6 s7 s8 s9 bY:Option AV),
  line.length+r.size < 50000->F.length+r.size < 50000->S.length+r.size < 50000->(S.map (·.1)++r.nums).Nodup->
  (∀ σ s4 s5 s6 s7 s8 s9 bY,At σ0 la fa se σ line (F++(r.flat d ab F.length).map cU) (S++seenOf r.nums)->dr sa sl n tb ax fa se la k s4 s5 s6 s7 s8 s9 bY V E σ)->
  At σ0 la fa se σ (line++r.vals.reverse.map (dy d ab)) F S->dr sa sl n tb ax fa se la (k+m) s4 s5 s6 s7 s8 s9 bY V E σ
 | .nil,_=>⟨0,fun d ab line F S k V E σ s4 s5 s6 s7 s8 s9 bY b1 b2 b3 b4 next A=>next σ _ _ _ _ _ _ _ (by simpa [ah.vals,ah.flat,ah.nums,seenOf] using A)⟩
 | .cons v t r,hv=>by
  unfold ah.bX at hv;obtain⟨m1,h1⟩:=xH Z t v hv.1;obtain⟨m2,h2⟩:=oj Z r hv.2;refine⟨m2+m1,fun d ab line F S k V E σ s4 s5 s6 s7 s8 s9 bY b1 b2 b3 b4 next A=>?_⟩;simp only[ah.size] at b1 b2 b3;simp only[ah.nums] at b4;have rl:=r.aR;have fl:=t.aI d ab F.length;have nl:=t.cV;rw[<- Nat.add_assoc];refine h1 d ab (line++r.vals.reverse.map (dy d ab)) F S (k+m2) V E σ _ _ _ _ _ _ _ (by rw[List.length_append,List.length_map,List.length_reverse];omega) (by omega) (by omega) ?_ (fun σ s4 s5 s6 s7 s8 s9 bY A'=>?_) ?_
  ·rw[<- List.append_assoc] at b4;exact (List.nodup_append.mp b4).1
  ·refine h2 d ab line _ _ k V E σ _ _ _ _ _ _ _ (by omega) (by rw[List.length_append,List.length_map];omega) (by unfold seenOf;rw[List.length_append,List.length_map];omega) ?_ (fun σ s4 s5 s6 s7 s8 s9 bY u7=>next σ _ _ _ _ _ _ _ ?_) A'
   ·rw[List.map_append,jh,List.append_assoc];exact b4
   ·rw[List.length_append,List.length_map] at u7;simpa [ah.flat,ah.nums,seenOf,List.append_assoc] using u7
  ·simpa [ah.vals,List.append_assoc] using A
end
theorem cW (S0:bh σ tb ax es aJ rt) {l:List AV} (hi:aA σ es rt l) (hl:l.length < 50000)
  (h:∀ σ' la fa se,Start σ tb ax rt es aJ la fa se->At σ la fa se σ' (l.reverse.map (dy 0 (-1))) [] []->
   ∃ k,dr sa sl n tb ax fa se la k none none none none none none none (cT (FF sa sl (n+4)) (.cons (.ret (.loc 1)) .nil) (fun x σ=>Q (bj x.1) σ) E) E σ'):
  FF sa sl (n+5) 18 [ak tb ax] Q E σ:=by
 refine ao Law.f_elements rfl (by decide) rfl ?_;unfold runs Law.f_elements;tb_start;intro fa fE se dq;have x1:Ext σ (put (put σ fa (.list [])) se (.dI [])):=((Ext.refl σ).put fE).put dq;refine eW (S0.ext x1) ?_;refine bP (S0.ext x1) (hi.ext x1) fun b σ2 x2 hb=>?_;simp? [hb];refine dP (g:=dy 0 (-1)) (fun x Q=>?_) hb _ _ (by rw[List.length_nil,List.length_reverse];omega) ?_
 ·unfold cf;tb_start
 ·intro la bA;rw[List.nil_append];have hne:se≠fa:=fun q=>by rw[q,af] at dq;cases dq
  have f2:σ2 fa=some (.list []):=x2 _ _ (by rw[ae hne.symm];exact af);have s2:σ2 se=some (.dI []):=x2 _ _ af;have xI:σ se=none:=by rw[ae hne] at dq;exact dq
  exact h _ la fa se ⟨S0,(x1.trans x2).none bA,fE,xI,(fresh_ne bA f2).symm⟩ ⟨(x1.trans x2).put bA,af,by rw[ae (fresh_ne bA f2)];exact f2,by rw[ae (fresh_ne bA s2)];exact s2⟩
theorem fH (S0:bh σ tb ax es aJ rt) {its its':ah} (hx:br rt its its') (hi:aA σ es rt its'.vals) (hv:ah.bX σ es br its) (hn:its.nums.Nodup) (hsz:its.size < 40000)
  (hQ:∀ fa σ',Ext σ σ'->σ' fa=some (.list ((its.flat 0 (-1) 0).map cU))->Q (.ref fa) σ'):FF sa sl (n+5) 18 [ak tb ax] Q E σ:=by
 have hlen:its'.vals.length < 50000:=by
  rcases hx with rfl | ⟨rfl,_⟩
  ·have:=its'.aR;omega
  ·show 0 < 50000;decide
 refine cW S0 hi hlen fun σ' la fa se Z A=>?_;generalize hσ:σ=σ0 at *;clear hσ;have fin:∀ σ s4 s5 s6 s7 s8 s9 bY,At σ0 la fa se σ [] ((its.flat 0 (-1) 0).map cU) (seenOf its.nums)->dr sa sl n tb ax fa se la 1 s4 s5 s6 s7 s8 s9 bY (cT (FF sa sl (n+4)) (.cons (.ret (.loc 1)) .nil) (fun x σ=>Q (bj x.1) σ) E) E σ:=by
  intro σ s4 s5 s6 s7 s8 s9 bY A;show whileN _ _ (0+1) _ _ _ _;rw[az];unfold eg rU;tb_start;intro a ha;refine fW (by rw[ae (fresh_ne ha A.line)];exact A.line) af ?_;tb_start;exact hQ fa _ (A.ext.put ha) (by rw[ae (fresh_ne ha A.found)];exact A.found)
 rcases hx with rfl | ⟨rfl,hn'⟩
 ·obtain⟨m,hm⟩:=oj (sa:=sa) (sl:=sl) (n:=n) Z its' hv;refine⟨1+m,hm 0 (-1) [] [] [] 1 _ E σ' _ _ _ _ _ _ _ (by show 0+_ < _;omega) (by show 0+_ < _;omega) (by show 0+_ < _;omega) (by simpa using hn) (fun σ s4 s5 s6 s7 s8 s9 bY A'=>fin σ _ _ _ _ _ _ _ (by simpa using A')) (by simpa using A)⟩
 ·obtain⟨e1,e2⟩:=bI hn' 0 (-1) 0;refine⟨1,fin σ' _ _ _ _ _ _ _ ?_⟩;rw[e1,e2];simpa [ah.vals,seenOf] using A
def ah.ins (v:AV) (t:Tr):Nat->ah->ah
 | 0,r=>.cons v t r
 | _+1,.nil=>.cons v t .nil
 | k+1,.cons w u r=>.cons w u (r.ins v t k)
section
variable (H:Nat) (xn:Int)
mutual
def Tr.tok:Tr->Nat
 | .elem _ h num _ _ _ its=>(if num=xn then 1 else 0)+(if h=H then 1 else 0)+its.tok
 | _=>0
def ah.tok:ah->Nat
 | .nil=>0
 | .cons _ t r=>t.tok+r.tok
end
mutual
def Tr.mu:Tr->Nat
 | .elem _ h num _ _ _ its=>if num=xn then 1 else 1+its.mu+(if h=H then 1 else 0)
 | _=>1
def ah.mu:ah->Nat
 | .nil=>0
 | .cons _ t r=>t.mu+r.mu
end
mutual
theorem Tr.cG:∀ t:Tr,t.mu H xn<=2 * t.size
 | .elem _ h num _ _ _ its=>by
  have:=its.cG;simp only[Tr.mu,Tr.size];split
  ·omega
  ·split<;>omega
 | .obj _ _=>by simp only[Tr.mu,Tr.size];omega
 | .content _ _ _=>by simp only[Tr.mu,Tr.size];omega
 | .nothing _=>by simp only[Tr.mu,Tr.size];omega
theorem ah.cG:∀ t:ah,t.mu H xn<=2 * t.size
 | .nil=>Nat.le_refl _
 | .cons _ t r=>by
  have h1:=t.cG;have h2:=r.cG;simp only[ah.mu,ah.size];omega
end
theorem Tr.ji (t:Tr):1<=t.mu H xn:=by
 cases t<;>simp only[Tr.mu]<;>first | omega | (split<;>omega)
def mC (tX:Tr) (h:Nat) (its its':ah):Prop:=(h≠H/\br h its its')\/(h=H/\∃ k,its'=its.ins (ai xn) tX k)
end
abbrev gd:=List (AV×Tr×Int×Int)
def gd.line (s:gd):List AV:=(s.map fun e=>dy e.2.2.1 e.2.2.2 e.1).reverse
def ah.iJ (d ab:Int):ah->gd
 | .nil=>[]
 | .cons v t r=>(v,t,d,ab)::r.iJ d ab
theorem eY {d ab:Int} {s:gd}:∀ {r:ah},gd.line (r.iJ d ab++s)=gd.line s++r.vals.reverse.map (dy d ab)
 | .nil=>by simp [gd.line,ah.iJ,ah.vals]
 | .cons v t r=>by
  have:=eY (d:=d) (ab:=ab) (s:=s) (r:=r);simp only[gd.line,ah.iJ,ah.vals,List.cons_append,List.map_cons,List.reverse_cons,List.map_append,List.reverse_append,List.map_reverse] at this ⊢;rw[this];simp
def kF (H:Nat) (xn:Int) (s:gd):Nat:=(s.map fun e=>e.2.1.mu H xn).sum
def eA (H:Nat) (xn:Int) (s:gd):Nat:=(s.map fun e=>e.2.1.tok H xn).sum
theorem gK {H:Nat} {xn:Int} {d ab:Int}:∀ {r:ah},kF H xn (r.iJ d ab)=r.mu H xn
 | .nil=>rfl
 | .cons v t r=>by
  have:=gK (H:=H) (xn:=xn) (d:=d) (ab:=ab) (r:=r);simp only[kF,ah.iJ,ah.mu,List.map_cons,List.sum_cons] at this ⊢;rw[this]
theorem eZ {H:Nat} {xn:Int} {d ab:Int}:∀ {r:ah},eA H xn (r.iJ d ab)=r.tok H xn
 | .nil=>rfl
 | .cons v t r=>by
  have:=eZ (H:=H) (xn:=xn) (d:=d) (ab:=ab) (r:=r);simp only[eA,ah.iJ,ah.tok,List.map_cons,List.sum_cons] at this ⊢;rw[this]
theorem pO {H:Nat} {xn:Int} {s t:gd}:kF H xn (s++t)=kF H xn s+kF H xn t:=by simp [kF]
theorem om {H:Nat} {xn:Int} {s t:gd}:eA H xn (s++t)=eA H xn s+eA H xn t:=by simp [eA]
theorem oq {H:Nat} {xn:Int}:∀ {s:gd},s.length<=kF H xn s
 | []=>Nat.le_refl _
 | e::s=>by
  have h1:=oq (H:=H) (xn:=xn) (s:=s);have h2:=e.2.1.ji H xn;simp only[kF,List.map_cons,List.sum_cons,List.length_cons] at h1 ⊢;omega
theorem jj {H:Nat} {xn:Int} {v:AV} {t:Tr}:∀ {k:Nat} {r:ah},(r.ins v t k).mu H xn=t.mu H xn+r.mu H xn/\(r.ins v t k).tok H xn=t.tok H xn+r.tok H xn/\(r.ins v t k).size=t.size+r.size
 | 0,r=>⟨rfl,rfl,rfl⟩
 | k+1,.nil=>⟨rfl,rfl,rfl⟩
 | k+1,.cons w u r=>by
  obtain⟨h1,h2,h3⟩:=jj (H:=H) (xn:=xn) (v:=v) (t:=t) (k:=k) (r:=r);simp only[ah.ins,ah.mu,ah.tok,ah.size,h1,h2,h3];omega
theorem ei {H:Nat} {xn:Int}:∀ {r:ah},r.bw->r.tok H xn=0
 | .nil,_=>rfl
 | .cons _ t r,⟨h1,h2⟩=>by
  cases t<;>first | exact h1.elim | skip
  simp only[ah.tok,Tr.tok,ei h2]
theorem gL {σ:St} {X:Nat->ah->ah->Prop} {v:AV} {t:Tr} (h:Tr.bX σ es X v t):∀ {k:Nat} {r:ah},r.bX σ es X->(r.ins v t k).bX σ es X
 | 0,r,hr=>⟨h,hr⟩
 | k+1,.nil,_=>⟨h,trivial⟩
 | k+1,.cons w u r,hr=>⟨hr.1,gL h hr.2⟩
theorem gM {σ:St} {X:Nat->ah->ah->Prop} {d ab:Int}:∀ {r:ah},r.bX σ es X->r.size<=400->∀ e∈r.iJ d ab,Tr.bX σ es X e.1 e.2.1/\e.2.1.size<=400
 | .nil,_,_,e,m=>by cases m
 | .cons v t r,h,hs,e,m=>by
  simp only[ah.size] at hs;rcases List.mem_cons.mp m with rfl | m
  ·exact⟨h.1,by show t.size<=400;omega⟩
  ·exact gM h.2 (by omega) e m
theorem raises {σ0:St} {la fa se H:Nat} {xn:Int} {tX:Tr} (zr:0 < xn) (Z:Start σ0 tb ax rt es aJ la fa se) (hX:Tr.bX σ0 es (mC H xn tX) (ai xn) tX) (zt:1<=tX.tok H xn) (zu:tX.mu H xn=1) (zv:tX.size<=390):∀ (N:Nat) (s:gd) (F:List AV) (S:List (Int×AV)),
  kF H xn s+(if (atKey S xn).isSome then 0 else 1000)<=N->F.length+N < 50000->S.length+N < 50000->(∀ e∈s,Tr.bX σ0 es (mC H xn tX) e.1 e.2.1/\e.2.1.size<=400)->2<=eA H xn s+(if (atKey S xn).isSome then 1 else 0)->
  ∀ (k:Nat) (V:Fl×Frame->St->Prop) (E:St->Prop) (hE:∀ σ,Ext σ0 σ->E σ) (σ:St) (s4 s5 s6 s7 s8 s9 bY:Option AV),At σ0 la fa se σ (gd.line s) F S->dr sa sl n tb ax fa se la (k+N) s4 s5 s6 s7 s8 s9 bY V E σ
 | N,[],F,S,_,_,_,_,ht,_,_,_,_,_,_,_,_,_,_,_,_,_=>by
  exfalso;simp only[eA,List.map_nil,List.sum_nil] at ht;split at ht<;>omega
 | 0,e::s,F,S,hm,_,_,_,_,_,_,_,_,_,_,_,_,_,_,_,_,_=>by
  exfalso;have:=e.2.1.ji H xn;simp only[kF,List.map_cons,List.sum_cons] at hm;omega
 | N+1,(v,t,d,ab)::s,F,S,hm,b2,b3,hv,ht,k,V,E,hE,σ,s4,s5,s6,s7,s8,s9,bY,A=>by
  have wz:=hv _ (.head _);have hvs:∀ e∈s,Tr.bX σ0 es (mC H xn tX) e.1 e.2.1/\e.2.1.size<=400:=fun e m=>hv e (.tail _ m);have hl:=oq (H:=H) (xn:=xn) (s:=s);have hline:gd.line ((v,t,d,ab)::s)=gd.line s++[dy d ab v]:=by simp [gd.line]
  have hl':s.length<=(s.map fun e=>e.2.1.mu H xn).sum:=hl;have uD:(gd.line s).length=s.length:=by simp [gd.line]
  rw[hline] at A;simp only[kF,List.map_cons,List.sum_cons] at hm;simp only[eA,List.map_cons,List.sum_cons] at ht;have leaf:t.tok H xn=0->(∃ z,av σ0 es v z/\z≠"element")->dr sa sl n tb ax fa se la (k+(N+1)) s4 s5 s6 s7 s8 s9 bY V E σ:=by
   rintro h0 ⟨z,h1,h2⟩;have hp:=t.ji H xn;refine dB Z.bA Z.eG Z.shelf.tab h1 h2 (by omega) (fun σ s4 s5 s6 s7 s8 s9 bY A'=>raises zr Z hX zt zu zv N s F S (by simp only[kF];omega) (by omega) (by omega) hvs (by simp only[eA];omega) k V E hE σ _ _ _ _ _ _ _ A') A
  cases t with
  | obj a num=>exact leaf rfl wz.1
  | content a page num=>exact leaf rfl wz.1
  | nothing a=>exact leaf rfl wz.1
  | elem a h num page word own its=>
   obtain⟨u9,hsz⟩:=wz;unfold Tr.bX at u9;obtain⟨h1,h2,⟨its',h3,h4⟩,h5⟩:=u9;simp only[Tr.size] at hsz;have C':=its.cG H xn;have Bk:=tX.cG H xn;have hk:its'.vals.length<=900/\its'.bX σ0 es (mC H xn tX)/\(∀ e∈its'.iJ (d+1) F.length,Tr.bX σ0 es (mC H xn tX) e.1 e.2.1/\e.2.1.size<=400)/\its'.mu H xn<=its.mu H xn+(if h=H then 1 else 0)/\its.tok H xn+(if h=H then 1 else 0)<=its'.tok H xn:=by
    rcases h3 with ⟨hne,rfl | ⟨rfl,h3⟩⟩ | ⟨he,q,rfl⟩
    ·have:=its'.aR;rw[if_neg hne];exact⟨by omega,h5,gM h5 (by omega),by omega,by omega⟩
    ·rw[if_neg hne,ei h3];exact⟨Nat.zero_le _,trivial,(fun e m=>by cases m),Nat.zero_le _,Nat.zero_le _⟩
    ·obtain⟨i1,i2,i3⟩:=jj (H:=H) (xn:=xn) (v:=ai xn) (t:=tX) (k:=q) (r:=its);have:=(its.ins (ai xn) tX q).aR;have hV:=gL (k:=q) hX h5;refine⟨by omega,hV,?_,by rw[if_pos he,i1];omega,by rw[if_pos he,i2];omega⟩;intro e m;have:∀ {k:Nat} {r:ah},r.bX σ0 es (mC H xn tX)->r.size<=400->∀ e∈(r.ins (ai xn) tX k).iJ (d+1) (F.length:Int),Tr.bX σ0 es (mC H xn tX) e.1 e.2.1/\e.2.1.size<=400:=by
      intro k;induction k with
      | zero=>
       intro r hr hs e m;rcases List.mem_cons.mp m with rfl | m
       ·exact⟨hX,by show tX.size<=400;omega⟩
       ·exact gM hr hs e m
      | succ k ih=>
       intro r hr hs e m;cases r with
       | nil=>
        rcases List.mem_cons.mp m with rfl | m
        ·exact⟨hX,by show tX.size<=400;omega⟩
        ·cases m
       | cons w u r=>
        simp only[ah.size] at hs;rcases List.mem_cons.mp m with rfl | m
        ·exact⟨hr.1,by show u.size<=400;omega⟩
        ·exact ih hr.2 (by omega) e m
     exact this h5 (by omega) e m
   obtain⟨k1,k2,k3,k4,k5⟩:=hk;simp only[Tr.mu] at hm;simp only[Tr.tok] at ht;have Bj:(bH S num).length<=S.length+1:=by
    unfold bH;split
    ·rw[List.length_append];exact Nat.le_refl _
    ·omega
   have hsm:(s.map fun e=>e.2.1.mu H xn).sum<=N:=by
    split at hm<;>omega
   refine iI (k:=k+N) Z.bA Z.fE Z.dq Z.eG Z.shelf h1 h2 h4 (by omega) (by omega) (by omega) (fun _ _ σ=>hE σ) (fun hnew σ s4 s5 s6 s7 s8 s9 bY A'=>?_) A;have uE:atKey (bH S num) xn=if num=xn then some (AV.bool true) else atKey S xn:=by
    unfold bH;by_cases q:num=xn
    ·have hp:0 < num:=by omega
     rw[if_pos q,if_pos hp,aP];have:=hnew hp;rw[q] at this;rw[this];exact if_pos q
    ·rw[if_neg q];by_cases hp:0 < num
     ·rw[if_pos hp,aP];cases atKey S xn with
      | some w=>rfl
      | none=>exact if_neg q
     ·rw[if_neg hp]
   have bF:∀ x:AV,(F++[x]).length+N < 50000:=fun x=>by rw[List.length_append,List.length_cons,List.length_nil];omega
   have bS:(bH S num).length+N < 50000:=by omega
   refine raises zr Z hX zt zu zv N (its'.iJ (d+1) F.length++s) _ (bH S num) ?_ (bF _) bS ?_ ?_ k V E hE σ _ _ _ _ _ _ _ (by rw[eY];exact A')
   ·rw[pO,gK,uE];by_cases q:num=xn
    ·have hn:atKey S xn=none:=by rw[<- q];exact hnew (by omega)
     rw[if_pos q] at hm ⊢;rw[hn] at hm;simp only[Option.isSome_none,Option.isSome_some,Bool.false_eq_true,if_false,if_true,kF] at hm ⊢;split at k4<;>omega
    ·rw[if_neg q] at hm ⊢;simp only[kF];omega
   ·intro e m;rcases List.mem_append.mp m with m | m
    ·exact k3 e m
    ·exact hvs e m
   ·rw[om,eZ,uE];by_cases q:num=xn
    ·have hn:atKey S xn=none:=by rw[<- q];exact hnew (by omega)
     rw[if_pos q] at ht ⊢;rw[hn] at ht;simp only[Option.isSome_none,Option.isSome_some,Bool.false_eq_true,if_false,if_true,eA] at ht ⊢;omega
    ·rw[if_neg q] at ht ⊢;simp only[eA];omega
structure jk (σ:St) (es:List (Int×AV)) (k:Int) (hd:Nat) (hes:List (Str×AV)) (Bl:Bool):Prop where
 ent:atKey es k=some (.tup [.int 0,.ref hd])
 obj:σ hd=some (.dS hes)
 len:hes.length<=10
 i1:atKey hes "Resources"=none
 i2:atKey hes "MediaBox"=none
 i3:atKey hes "CropBox"=none
 i4:atKey hes "Rotate"=none
 typ:atKey hes "Type"=some (nameA (if Bl=true then "Page" else "Pages"))
theorem jk.ext {σ σ':St} {es:List (Int×AV)} {k:Int} {hd:Nat} {hes:List (Str×AV)} {b:Bool} (x:Ext σ σ') (P:jk σ es k hd hes b):jk σ' es k hd hes b:=⟨P.ent,x _ _ P.obj,P.len,P.i1,P.i2,P.i3,P.i4,P.typ⟩
theorem lu (ht:σ tb=some (.dI es)) {k:Int} {hd:Nat} {hes:List (Str×AV)} {b:Bool} (P:jk σ es k hd hes b) (hQ:∀ σ',Ext σ σ'->Q (ai k) σ'):FF sa sl (n+1) 5 [ak tb ax,ai k] Q E σ:=by
 refine ao Law.f_home_of rfl (by decide) rfl ?_;unfold runs Law.f_home_of;tb_start;intro a ha;refine⟨0+1,?_⟩;rw[az];unfold eg;have e0:atKey ([]:List (Int×AV)) k=none:=rfl;have sO:tb≠a:=fresh_ne ha ht;have jl:hd≠a:=fresh_ne ha P.obj;simp? [e0,Option.isSome_none];unfold gB Law.B_home_of_0;simp? [e0,Option.isSome_none,List.length_nil,Nat.zero_le,ae sO,ht,P.ent,Option.getD_some,ae jl,P.obj];exact hQ _ (by rw[show putK ([]:List (Int×AV)) k (AV.bool true)=[(k,.bool true)] from rfl];exact (Ext.refl σ).put ha)
theorem iK (ht:σ tb=some (.dI es)) {k:Int} {hd:Nat} {hes:List (Str×AV)} {b:Bool} (P:jk σ es k hd hes b) (hQ:Q (.bool (!b)) σ):FF sa sl (n+3) 6 [ak tb ax,.ref hd] Q E σ:=by
 refine ao Law.f_is_node rfl (by decide) rfl ?_;unfold runs Law.f_is_node;tb_start;refine aC (k:=0) ht P.obj (w:=nameA (if b=true then "Page" else "Pages")) (by rw[P.typ,Option.getD_some];exact .base (.inl rfl)) (by decide) ?_;have zw:∀ (s:Str) {B:Bool->St->Prop} {E:St->Prop} {σ:St},cmpM .isin (.str s) (.tup [.str "Pages",.str "Page"]) B E σ=B (([("Pages":Str),"Page"]:List Str).any (· ==s)) σ:=fun s=>sI rfl;have d1:(([("Pages":Str),"Page"]:List Str).any (· ==("Page":Str)))=true:=by decide
 have d2:(([("Pages":Str),"Page"]:List Str).any (· ==("Pages":Str)))=true:=by decide
 have d3:(("Page":Str)==("Pages":Str))=false:=by decide
 cases b
 ·simp? [zw,d1,d2,d3];exact hQ
 ·simp? [zw,d1,d2,d3];exact hQ
theorem iL (ht:σ tb=some (.dI es)) {k:Int} {hd:Nat} {hes:List (Str×AV)} {b:Bool} (P:jk σ es k hd hes b) {ab:AV} {ih:Nat} (hi:σ ih=some (.dS [])) (hQ:∀ g σ',Ext σ σ'->σ' g=some (.dS [])->Q (.inst 5 [ai k,.ref hd,ab,.ref g,.bool b]) σ'):FF sa sl (n+4) 8 [ak tb ax,ai k,ab,.ref ih] Q E σ:=by
 refine ao Law.f_met rfl (by decide) rfl ?_;unfold runs Law.f_met;tb_start;refine lu ht P fun σ1 x1=>?_;have P1:=P.ext x1;have t1:=x1 _ _ ht;try tb_start
 refine aE (k:=1) t1 (w:=.ref hd) (.gF P.ent (.base ⟨_,P1.obj,.inr rfl⟩)) (by decide) ?_;simp? [P1.obj,x1 _ _ hi,List.length_nil,Nat.zero_le];intro g hg;have x2:Ext σ (put σ1 g (.dS [])):=x1.put hg;have P2:=P.ext x2;have t2:=x2 _ _ ht;have nk:∀ key:Str,atKey hes key=none->bb (put σ1 g (.dS [])) es 0 ((atKey hes key).getD .none) .none:=fun key e=>by rw[e];exact .base trivial
 refine aq trivial ?_;unfold Law.B_met_0;tb_start;refine aC t2 P2.obj (nk _ P.i1) (by decide) ?_;tb_start;refine aq trivial ?_;tb_start;refine aC t2 P2.obj (nk _ P.i2) (by decide) ?_;tb_start;refine aq trivial ?_;tb_start;refine aC t2 P2.obj (nk _ P.i3) (by decide) ?_;tb_start;refine aq trivial ?_;tb_start;refine aC t2 P2.obj (nk _ P.i4) (by decide) ?_;tb_start;refine iK t2 P2 ?_;cases b<;>tb_start<;>exact hQ g _ x2 af
theorem lx (ht:σ tb=some (.dI es)) {hd kl:Nat} {hes:List (Str×AV)} {l:List AV} (ho:σ hd=some (.dS hes)) (hk:atKey hes "Kids"=some (.ref kl)) (hl:σ kl=some (.list l)) (hQ:Q (.ref kl) σ):FF sa sl (n+3) 7 [ak tb ax,.ref hd] Q E σ:=by
 refine ao Law.f_kids_of rfl (by decide) rfl ?_;unfold runs Law.f_kids_of;tb_start;refine aC (k:=0) ht ho (w:=.ref kl) (by rw[hk];exact .base ⟨_,hl,.inl rfl⟩) (by decide) ?_;simp? [hl];exact hQ
def rW (la fa se:Nat) (σ σ':St):Prop:=∀ a o,σ a=some o->a≠la->a≠fa->a≠se->σ' a=some o
abbrev gg (sa:Nat) (sl:List AV) (n tb ax fa se la:Nat) (k:Nat) (s4 s5 s6 s7 s8:Option AV) (V:Fl×Frame->St->Prop) (E:St->Prop) (σ:St):Prop:=
 whileN (eg (FF sa sl (n+4)) (.loc 3)) (gB (FF sa sl (n+4)) Law.B_spots_1) k [some (ak tb ax),some (.ref fa),some (.ref se),some (.ref la),s4,s5,s6,s7,s8] V E σ
theorem dQ {σ0:St} {la fa se:Nat} (bA:σ0 la=none) (fE:σ0 fa=none) (dq:σ0 se=none) (eG:la≠fa) (ht:σ0 tb=some (.dI es)) {k:Int} {hd:Nat} {hes:List (Str×AV)} (P:jk σ0 es k hd hes true) {line F:List AV} {S:List (Int×AV)} {ab:AV} {ih:Nat} (hi:σ ih=some (.dS [])) (hF:F≠[]) (Dc:F.length < 1000) (hS:atKey S k=none) (Dd:S.length < 1000) (hlen:line.length < 1000) {m:Nat} {V:Fl×Frame->St->Prop}
  (next:∀ σ' g s4 s5 s6 s7 s8,At σ0 la fa se σ' line (F++[.inst 5 [ai k,.ref hd,ab,.ref g,.bool true]]) (S++[(k,.bool true)])->rW la fa se σ σ'->σ' g=some (.dS [])->gg sa sl n tb ax fa se la m s4 s5 s6 s7 s8 V E σ')
  {s4 s5 s6 s7 s8:Option AV} (A:At σ0 la fa se σ (line++[.tup [ai k,ab,.ref ih]]) F S):gg sa sl n tb ax fa se la (m+1) s4 s5 s6 s7 s8 V E σ:=by
 unfold gg;rw[az];unfold eg;have l0:(line++[AV.tup [ai k,ab,.ref ih]]).length<=1000000:=by rw[List.length_append,List.length_cons,List.length_nil];omega
 have b0:(line++[AV.tup [ai k,ab,.ref ih]]).isEmpty=false:=by simp
 simp? [A.line,l0,b0];unfold gB Law.B_spots_1;simp? [A.line,j6 A.line (show line.length < 1000000 by omega)];have xJ:ih≠la:=fun q=>by rw[q,A.line] at hi;cases hi
 have e1:Ext σ0 (put σ la (.list line)):=fun b o hb=>by
  have:b≠la:=fun q=>by rw[q,bA] at hb;cases hb
  rw[ae this];exact A.ext b o hb
 have hsl:se≠la:=fun q=>by have:=A.seen;rw[q,A.line] at this;cases this
 have rV:se≠fa:=fun q=>by have:=A.seen;rw[q,A.found] at this;cases this
 refine iL (e1 _ _ ht) (P.ext e1) (by rw[ae xJ];exact hi) fun g σ2 x2 hg=>?_;have l2:σ2 la=some (.list line):=x2 _ _ af;have f2:σ2 fa=some (.list F):=x2 _ _ (by rw[ae (Ne.symm eG)];exact A.found);have s2:σ2 se=some (.dI S):=x2 _ _ (by rw[ae hsl];exact A.seen);simp? [s2,hS,Option.isSome_none];intro a ha;have s3:put σ2 a (.list []) se=some (.dI S):=by rw[ae (fresh_ne ha s2)];exact s2
 have f3:put σ2 a (.list []) fa=some (.list F):=by rw[ae (fresh_ne ha f2)];exact f2
 refine lj f3 af (fun q=>hF (List.eq_nil_of_length_eq_zero q)) ?_;have xK:S.length<=1000000:=by omega
 have xM:F.length<=1000000:=by omega
 have f4:∀ o,put (put σ2 a (.list [])) se o fa=some (.list F):=fun o=>by rw[ae (Ne.symm rV)];exact f3
 simp? [s3,xK,f4,xM,aL hS];have gl:g≠la:=fun q=>by rw[q,l2] at hg;cases hg
 have gf:g≠fa:=fun q=>by rw[q,f2] at hg;cases hg
 have gs:g≠se:=fun q=>by rw[q,s2] at hg;cases hg
 refine next _ g _ _ _ _ _ ⟨fun b o hb=>?_,?_,af,?_⟩ ?_ ?_
 ·have h1:b≠fa:=fun q=>by rw[q,fE] at hb;cases hb
  have h2:b≠se:=fun q=>by rw[q,dq] at hb;cases hb
  rw[ae h1,ae h2];exact ((e1.trans x2).put ha) _ _ hb
 ·rw[ae eG,ae (Ne.symm hsl),ae (fresh_ne ha l2)];exact l2
 ·rw[ae rV,af]
 ·intro b o hb h1 h2 h3;rw[ae h2,ae h3];exact (x2.put ha) _ _ (by rw[ae h1];exact hb)
 ·rw[ae gf,ae gs,ae (fresh_ne ha hg)];exact hg
theorem ly {σ0:St} {la fa se:Nat} (bA:σ0 la=none) (fE:σ0 fa=none) (dq:σ0 se=none) (eG:la≠fa) (ht:σ0 tb=some (.dI es)) {k o1 o2 o3:Int} {hd kl:Nat} {hes:List (Str×AV)} (P:jk σ0 es k hd hes false) (hk:atKey hes "Kids"=some (.ref kl)) (lr:σ0 kl=some (.list [ai o1,ai o2,ai o3])) {ih:Nat} (hi:σ ih=some (.dS [])) {m:Nat} {V:Fl×Frame->St->Prop}
  (next:∀ σ' g s4 s5 s6 s7 s8,At σ0 la fa se σ' [.tup [ai o3,.tup [ai k],.ref g],.tup [ai o2,.tup [ai k],.ref g],.tup [ai o1,.tup [ai k],.ref g]] [.inst 5 [ai k,.ref hd,.tup [],.ref g,.bool false]] [(k,.bool true)]->rW la fa se σ σ'->σ' g=some (.dS [])->gg sa sl n tb ax fa se la m s4 s5 s6 s7 s8 V E σ')
  {s4 s5 s6 s7 s8:Option AV} (A:At σ0 la fa se σ [.tup [ai k,.tup [],.ref ih]] [] []):gg sa sl n tb ax fa se la (m+1) s4 s5 s6 s7 s8 V E σ:=by
 unfold gg;rw[az];unfold eg;have b0:([.tup [ai k,.tup [],.ref ih]]:List AV).isEmpty=false:=rfl;simp? [A.line,b0];unfold gB Law.B_spots_1;simp? [A.line,j6 (l:=[]) A.line (by decide)];have xJ:ih≠la:=fun q=>by rw[q,A.line] at hi;cases hi
 have e1:Ext σ0 (put σ la (.list [])):=fun b o hb=>by
  have:b≠la:=fun q=>by rw[q,bA] at hb;cases hb
  rw[ae this];exact A.ext b o hb
 have hsl:se≠la:=fun q=>by have:=A.seen;rw[q,A.line] at this;cases this
 have rV:se≠fa:=fun q=>by have:=A.seen;rw[q,A.found] at this;cases this
 refine iL (e1 _ _ ht) (P.ext e1) (by rw[ae xJ];exact hi) fun g σ2 x2 hg=>?_;have l2:σ2 la=some (.list []):=x2 _ _ af;have f2:σ2 fa=some (.list []):=x2 _ _ (by rw[ae (Ne.symm eG)];exact A.found);have s2:σ2 se=some (.dI []):=x2 _ _ (by rw[ae hsl];exact A.seen);have k0:atKey ([]:List (Int×AV)) k=none:=rfl;simp? [s2,k0,Option.isSome_none];intro a ha;have s3:put σ2 a (.list []) se=some (.dI []):=by rw[ae (fresh_ne ha s2)];exact s2
 have f3:put σ2 a (.list []) fa=some (.list []):=by rw[ae (fresh_ne ha f2)];exact f2
 have l3:put σ2 a (.list []) la=some (.list []):=by rw[ae (fresh_ne ha l2)];exact l2
 refine ll f3 af ?_;have f4:∀ o,put (put σ2 a (.list [])) se o fa=some (.list []):=fun o=>by rw[ae (Ne.symm rV)];exact f3
 simp? [s3,f4,aL k0,Nat.zero_le];generalize lz:put (put (put σ2 a (.list [])) se (.dI [(k,.bool true)])) fa (.list [.inst 5 [ai k,.ref hd,.tup [],.ref g,.bool false]])=σ3;have e3:Ext σ0 σ3:=fun b o hb=>by
  have h1:b≠fa:=fun q=>by rw[q,fE] at hb;cases hb
  have h2:b≠se:=fun q=>by rw[q,dq] at hb;cases hb
  rw[<- lz,ae h1,ae h2];exact ((e1.trans x2).put ha) _ _ hb
 have gl:g≠la:=fun q=>by rw[q,l2] at hg;cases hg
 have gf:g≠fa:=fun q=>by rw[q,f2] at hg;cases hg
 have gs:g≠se:=fun q=>by rw[q,s2] at hg;cases hg
 have l4:σ3 la=some (.list []):=by rw[<- lz,ae eG,ae (Ne.symm hsl)];exact l3
 have P3:=P.ext e3;refine lx (e3 _ _ ht) P3.obj hk (e3 _ _ lr) ?_;have vc:=e3 _ _ lr;have sR:kl≠la:=fun q=>by rw[q,bA] at lr;cases lr
 simp? [vc,List.reverse_cons,List.reverse_nil];refine aq vc ?_;unfold Law.B_spots_0;simp? [l4,Nat.zero_le];refine aq (by rw[ae sR];exact vc) ?_;simp? [l4,Nat.zero_le];refine aq (by rw[ae sR];exact vc) ?_;simp? [l4,Nat.zero_le];refine⟨by rw[ae sR];exact vc,?_⟩;refine next _ g _ _ _ _ _ ⟨fun b o hb=>?_,af,?_,?_⟩ ?_ ?_
 ·have h1:b≠la:=fun q=>by rw[q,bA] at hb;cases hb
  rw[ae h1];exact e3 _ _ hb
 ·rw[ae (Ne.symm eG),<- lz,af]
 ·rw[ae hsl,<- lz,ae rV,af]
 ·intro b o hb h1 h2 h3;rw[ae h1,<- lz,ae h2,ae h3];exact (x2.put ha) _ _ (by rw[ae h1];exact hb)
 ·rw[ae gl,<- lz,ae gf,ae gs,ae (fresh_ne ha hg)];exact hg
structure iM (σ:St) (es:List (Int×AV)) (aJ:List (Str×AV)) (o1 o2 o3:Int):Prop where
 cat:atKey aJ "Pages"=some (ai 2)
 root:∃ ph jm kl,jk σ es 2 ph jm false/\atKey jm "Kids"=some (.ref kl)/\σ kl=some (.list [ai o1,ai o2,ai o3])
 p1:∃ h hes,jk σ es o1 h hes true
 p2:∃ h hes,jk σ es o2 h hes true
 p3:∃ h hes,jk σ es o3 h hes true
 ne:o1≠o2/\o1≠o3/\o2≠o3/\2≠o1/\2≠o2/\2≠o3
theorem iM.ext {σ σ':St} {es:List (Int×AV)} {aJ:List (Str×AV)} {o1 o2 o3:Int} (x:Ext σ σ') (G:iM σ es aJ o1 o2 o3):iM σ' es aJ o1 o2 o3:=by
 obtain⟨c,⟨ph,jm,kl,r1,r2,r3⟩,⟨_,_,p1⟩,⟨_,_,p2⟩,⟨_,_,p3⟩,ne⟩:=G;exact⟨c,⟨ph,jm,kl,r1.ext x,r2,x _ _ r3⟩,⟨_,_,p1.ext x⟩,⟨_,_,p2.ext x⟩,⟨_,_,p3.ext x⟩,ne⟩
def cj (σ:St) (o:Int) (v:AV):Prop:=∃ h hes ab g,v=.inst 5 [ai o,.ref h,ab,.ref g,.bool true]/\σ h=some (.dS hes)/\hes.length<=10/\σ g=some (.dS [])
theorem cj.ext {σ σ':St} {o:Int} {v:AV} (x:Ext σ σ'):cj σ o v->cj σ' o v:=fun ⟨h,hes,ab,g,e,h1,h2,h3⟩=>⟨h,hes,ab,g,e,x _ _ h1,h2,x _ _ h3⟩
theorem dR {K:Type} [DecidableEq K] {k j:K} {v:AV} (h:k≠j):atKey [(k,v)] j=none:=by
 unfold atKey;simp [h]
theorem aj {K:Type} [DecidableEq K] {es:List (K×AV)} {k j:K} {v:AV}:atKey ((k,v)::es) j=if k=j then some v else atKey es j:=by
 unfold atKey;rw[List.find?_cons];by_cases h:k=j
 ·rw[if_pos h];simp [h]
 ·rw[if_neg h];simp [h]
theorem jn (S:bh σ tb ax es aJ rt) (G:iM σ es aJ o1 o2 o3) (hQ:∀ f v0 v1 v2 v3 h0 a0 g0 σ',Ext σ σ'->σ' f=some (.list [v0,v1,v2,v3])->v0=.inst 5 [ai 2,.ref h0,a0,.ref g0,.bool false]->cj σ' o1 v1->cj σ' o2 v2->cj σ' o3 v3->Q (.ref f) σ'):
  FF sa sl (n+5) 9 [ak tb ax] Q E σ:=by
 obtain⟨c,⟨ph,jm,kl,r1,r2,r3⟩,⟨h1,Bm,p1⟩,⟨h2,Bn,p2⟩,⟨h3,sS,p3⟩,sT,sU,sV,n1,n2,n3⟩:=G;refine ao Law.f_spots rfl (by decide) rfl ?_;unfold runs Law.f_spots;tb_start;intro fa fE se dq;have x1:Ext σ (put (put σ fa (.list [])) se (.dI [])):=((Ext.refl σ).put fE).put dq;refine gb (S.ext x1) fun ct sM=>?_;simp? [sM,c,Option.getD_some];intro ih xN la bA;have x2:=x1.put (o:=.dS []) xN;have xO:se≠fa:=fun q=>by rw[q,af] at dq;cases dq
 have pP:σ se=none:=by rw[ae xO] at dq;exact dq
 have f2:put (put (put σ fa (.list [])) se (.dI [])) ih (.dS []) fa=some (.list []):=by rw[ae (fresh_ne xN (by rw[ae (Ne.symm xO),af])),ae (Ne.symm xO),af]
 have s2:put (put (put σ fa (.list [])) se (.dI [])) ih (.dS []) se=some (.dI []):=by rw[ae (fresh_ne xN af),af]
 have pQ:σ la=none:=x2.none bA;have A:At σ la fa se (put (put (put (put σ fa (.list [])) se (.dI [])) ih (.dS [])) la (.list [.tup [ai 2,.tup [],.ref ih]])) [.tup [ai 2,.tup [],.ref ih]] [] []:=
  ⟨x2.put bA,af,by rw[ae (fresh_ne bA f2)];exact f2,by rw[ae (fresh_ne bA s2)];exact s2⟩
 have ot:put (put (put (put σ fa (.list [])) se (.dI [])) ih (.dS [])) la (.list [.tup [ai 2,.tup [],.ref ih]]) ih=some (.dS []):=by rw[ae (fresh_ne bA af),af]
 have eG:la≠fa:=(fresh_ne bA f2).symm;generalize put (put (put (put σ fa (.list [])) se (.dI [])) ih (.dS [])) la (.list [.tup [ai 2,.tup [],.ref ih]])=σ1 at A ot ⊢;refine⟨4+1,?_⟩;refine ly (m:=4) pQ fE pP eG S.tab r1 r2 r3 ot (fun σ2 g _ _ _ _ _ A2 _ xP=>?_) A;have ne2:∀ {σ:St} {l f s:List AV} {S:List (Int×AV)} {σ0:St},At σ0 la fa se σ l f S->∀ {g:Nat},σ g=some (.dS [])->g≠la/\g≠fa/\g≠se:=by
  intro σ l f s S σ0 A g hg;refine⟨fun q=>?_,fun q=>?_,fun q=>?_⟩<;>subst q
  ·rw[A.line] at hg;cases hg
  ·rw[A.found] at hg;cases hg
  ·rw[A.seen] at hg;cases hg
 refine dQ (m:=3) (line:=[_,_]) pQ fE pP eG S.tab p1 xP (by simp) (by simp) (dR n1) (by simp) (by simp) (fun σ3 g3 _ _ _ _ _ A3 k3 zx=>?_) A2;obtain⟨u1,u2,u3⟩:=ne2 (s:=[]) A2 xP;have sW:=k3 _ _ xP u1 u2 u3;refine dQ (m:=2) (line:=[_]) pQ fE pP eG S.tab p2 sW (by simp) (by simp) (by rw[List.cons_append,List.nil_append,aj,if_neg n2];exact dR sT) (by simp) (by simp) (fun σ4 g4 _ _ _ _ _ A4 k4 zy=>?_) A3;obtain⟨u1,u2,u3⟩:=ne2 (s:=[]) A3 sW;have ve:=k4 _ _ sW u1 u2 u3;obtain⟨u1,u2,u3⟩:=ne2 (s:=[]) A3 zx;have vf:=k4 _ _ zx u1 u2 u3;refine dQ (m:=1) (line:=[]) pQ fE pP eG S.tab p3 ve (by simp) (by simp) (by simp only[List.cons_append,List.nil_append];rw[aj,if_neg n3,aj,if_neg sU];exact dR sV) (by simp) (by simp) (fun σ5 g5 _ _ _ _ _ A5 k5 wA=>?_) A4;obtain⟨u1,u2,u3⟩:=ne2 (s:=[]) A4 vf;have vg:=k5 _ _ vf u1 u2 u3;obtain⟨u1,u2,u3⟩:=ne2 (s:=[]) A4 zy;have xQ:=k5 _ _ zy u1 u2 u3;show whileN _ _ (0+1) _ _ _ _;rw[az];unfold eg;simp? [A5.line,Nat.zero_le,List.isEmpty_nil];have ex:=A5.ext;refine hQ fa _ _ _ _ ph (.tup []) g σ5 ex A5.found rfl ⟨h1,_,_,g3,rfl,ex _ _ p1.obj,p1.len,vg⟩ ⟨h2,_,_,g4,rfl,ex _ _ p2.obj,p2.len,xQ⟩ ⟨h3,_,_,g5,rfl,ex _ _ p3.obj,p3.len,wA⟩
theorem eB (S:bh σ tb ax es aJ rt) (G:iM σ es aJ o1 o2 o3) (hQ:∀ f v1 v2 v3 σ',Ext σ σ'->σ' f=some (.list [v1,v2,v3])->cj σ' o1 v1->cj σ' o2 v2->cj σ' o3 v3->Q (.ref f) σ'):
  FF sa sl (n+6) 10 [ak tb ax] Q E σ:=by
 refine ao Law.f_page_spots rfl (by decide) rfl ?_;unfold runs Law.f_page_spots;tb_start;refine jn S G fun f v0 v1 v2 v3 h0 a0 g0 σ1 x1 hf e0 q1 q2 q3=>?_;obtain⟨_,_,_,_,e1,_⟩:=id q1;obtain⟨_,_,_,_,e2,_⟩:=id q2;obtain⟨_,_,_,_,e3,_⟩:=id q3;simp? [hf];subst e0 e1 e2 e3;refine ay hf rfl ?_;unfold cm cf;tb_start;refine ay hf rfl ?_;tb_start;try refine⟨by decide,?_⟩
 refine ay hf rfl ?_;tb_start;try refine⟨by decide,?_⟩
 refine ay hf rfl ?_;tb_start;try refine⟨by decide,?_⟩
 exact⟨hf,fun a ha=>hQ a _ _ _ _ (x1.put ha) af (q1.ext ((Ext.refl _).put ha)) (q2.ext ((Ext.refl _).put ha)) (q3.ext ((Ext.refl _).put ha))⟩
theorem cX {o:Int} {v:AV} (q:cj σ o v) (hQ:∀ f σ',Ext σ σ'->Q (.ref f) σ'):FF sa sl (n+1) 12 [ak tb ax,v] Q E σ:=by
 obtain⟨h,hes,ab,g,rfl,hh,hl,hg⟩:=q;refine ao Law.f_fields_of rfl (by decide) rfl ?_;unfold runs Law.f_fields_of;have hl':hes.length<=1000000:=by omega
 simp? [hh,hl'];intro a ha;have wB:put σ a (.dS hes) g=some (.dS []):=by rw[ae (fresh_ne ha hg)];exact hg
 have k0:∀ s:Str,(atKey ([]:List (Str×AV)) s).isSome=false:=fun _=>rfl;refine aq trivial ?_;unfold Law.B_fields_of_0;simp? [wB,k0];refine aq trivial ?_;simp? [wB,k0];refine aq trivial ?_;simp? [wB,k0];refine aq trivial ?_;simp? [wB,k0];exact hQ a _ ((Ext.refl σ).put ha)
theorem jo (S:bh σ tb ax es aJ rt) (G:iM σ es aJ o1 o2 o3) (hQ:∀ f a1 a2 a3 σ',Ext σ σ'->σ' f=some (.list [.inst 4 [ai o1,a1],.inst 4 [ai o2,a2],.inst 4 [ai o3,a3]])->Q (.ref f) σ'):
  FF sa sl (n+7) 11 [ak tb ax] Q E σ:=by
 refine ao Law.f_pages rfl (by decide) rfl ?_;unfold runs Law.f_pages;tb_start;refine eB S G fun f v1 v2 v3 σ1 x1 hf q1 q2 q3=>?_;obtain⟨_,_,_,_,e1,_⟩:=id q1;obtain⟨_,_,_,_,e2,_⟩:=id q2;obtain⟨_,_,_,_,e3,_⟩:=id q3;simp? [hf];subst e1 e2 e3;unfold cm cf;refine ay hf rfl ?_;tb_start;refine cX q1 fun f1 σ2 x2=>?_;try refine⟨by decide,?_⟩
 refine ay (x2 _ _ hf) rfl ?_;tb_start;refine cX (q2.ext x2) fun f2 σ3 x3=>?_;try refine⟨by decide,?_⟩
 refine ay (x3 _ _ (x2 _ _ hf)) rfl ?_;tb_start;refine cX (q3.ext (x2.trans x3)) fun f3 σ4 x4=>?_;try refine⟨by decide,?_⟩
 exact⟨x4 _ _ (x3 _ _ (x2 _ _ hf)),fun a ha=>hQ a _ _ _ _ ((((x1.trans x2).trans x3).trans x4).put ha) af⟩
theorem jq {ρ:Frame} {i j:Nat} {a b:AV}:bindT ρ [i,j] (.tup [a,b])=some ((ρ.set i (some a)).set j (some b)):=rfl
theorem fg {ρ:Frame} {i j k:Nat} {a b c:AV}:bindT ρ [i,j,k] (.tup [a,b,c])=some (((ρ.set i (some a)).set j (some b)).set k (some c)):=rfl
theorem xR {F:Nat->List AV->M AV} {ρ:Frame} {R:Fl×Frame->St->Prop} {i j k:Nat} {b:PSs} {x y z:AV} {fl:Fl}:iy F [i,j,k] b (.tup [x,y,z]) (fl,ρ) R E σ=evSs F newM GG b (((ρ.set i (some x)).set j (some y)).set k (some z)) R E σ:=Eq.trans rfl rfl
theorem pR {f:Nat} {l:List AV} {ps:List (Int×AV)} (h:σ f=some (.list l)) (hp:pairsI l=some ps) (hd:noDup (ps.map fun p:Int×AV=>p.1)=true/\ps.length<=1000) (hQ:∀ a,σ a=none->Q (.ref a) (put σ a (.dI ps))):biM 4 (.ref f) Q E σ:=by
 refine⟨_,h,?_⟩;show (match pairsI l with | some es=>req (noDup (es.map fun p:Int×AV=>p.1)=true/\es.length<=1000) (mk (.dI es)) | none=>no) Q E σ;rw[hp];exact⟨hd,hQ⟩
abbrev aM (o1 o2 o3:Int):List (Int×AV):=[(o1,.int 0),(o2,.int 1),(o3,.int 2)]
theorem cg (S:bh σ tb ax es aJ rt) (G:iM σ es aJ o1 o2 o3) (hQ:∀ f σ',Ext σ σ'->σ' f=some (.dI (aM o1 o2 o3))->Q (.ref f) σ'):
  FF sa sl (n+8) 14 [ak tb ax] Q E σ:=by
 refine ao Law.f_page_places rfl (by decide) rfl ?_;unfold runs Law.f_page_places;tb_start;refine jo S G fun f a1 a2 a3 σ1 x1 hf=>?_;simp? [hf];unfold cm cf;simp only[number];refine ay hf jq ?_;tb_start;try refine⟨by decide,?_⟩
 refine ay hf jq ?_;tb_start;try refine⟨by decide,?_⟩
 refine ay hf jq ?_;tb_start;try refine⟨by decide,?_⟩
 refine⟨hf,fun a ha=>?_⟩;obtain⟨sT,sU,sV,_⟩:=G.ne;exact pR (ps:=aM o1 o2 o3) af rfl ⟨by simp [noDup,sT.symm,sU.symm,sV.symm],by show 3<=1000;decide⟩ fun b hb=>hQ b _ ((x1.put ha).put hb) af
inductive fI {ι:Type} (R:St->ι->Option AV->Prop) (σ:St):List ι->List AV->Prop where
 | nil:fI R σ [] []
 | skip {x xs vs}:R σ x none->fI R σ xs vs->fI R σ (x::xs) vs
 | take {x xs v vs}:R σ x (some v)->fI R σ xs vs->fI R σ (x::xs) (v::vs)
section
variable {ι:Type} {σ σ' σ0:St} {E:St->Prop}
theorem fI.ext {R:St->ι->Option AV->Prop} (mono:∀ {σ σ' x o},Ext σ σ'->R σ x o->R σ' x o) (x:Ext σ σ') {xs:List ι} {vs:List AV} (c:fI R σ xs vs):fI R σ' xs vs:=by
 induction c with
 | nil=>exact .nil
 | skip h _ ih=>exact .skip (mono x h) ih
 | take h _ ih=>exact .take (mono x h) ih
theorem bQ {p:ι->AV} {t:List Nat} {ρ:Frame} {ifs:Frame->M Bool} {elt:Frame->M AV} {ok:St->Prop} {V:List AV->St->Prop} (R:St->ι->Option AV->Prop) (mono:∀ {σ σ' x o},Ext σ σ'->R σ x o->R σ' x o) (hok:∀ σ,Ext σ0 σ->ok σ):
  ∀ (xs:List ι),(∀ x∈xs,∀ σ,Ext σ0 σ->∀ (K:Option AV->St->Prop),(∀ o σ',Ext σ σ'->R σ' x o->K o σ')->∃ ρ',bindT ρ t (p x)=some ρ'/\ifs ρ' (fun b σ=>if b=true then elt ρ' (fun v σ=>K (some v) σ) E σ else K none σ) E σ)->
  ∀ (acc:List AV) (σ:St),Ext σ0 σ->acc.length+xs.length<=1000000->(∀ vs σ',Ext σ σ'->fI R σ' xs vs->V (acc++vs) σ')->forM ok (fun _=>ret false) (compF t ρ ifs elt) (xs.map p) acc V E σ
 | [],_,acc,σ,x,_,h=>⟨hok σ x,by have:=h [] σ (.refl σ) .nil;rwa [List.append_nil] at this⟩
 | i::xs,st,acc,σ,x,hl,h=>by
  rw[List.length_cons] at hl;have tl:∀ x∈xs,_:=fun y m=>st y (.tail _ m);obtain⟨ρ',hb,hr⟩:=st i (.head _) σ x (fun o σ=>match o with
   | some v=>acc.length<=1000000/\forM ok (fun _=>ret false) (compF t ρ ifs elt) (xs.map p) (acc++[v]) V E σ
   | none=>forM ok (fun _=>ret false) (compF t ρ ifs elt) (xs.map p) acc V E σ) (fun o σ1 x1 hR=>by
    cases o with
    | none=>exact bQ R mono hok xs tl acc σ1 (x.trans x1) (by omega) fun vs σ2 x2 c=>h vs σ2 (x1.trans x2) (.skip (mono x2 hR) c)
    | some v=>exact⟨by omega,bQ R mono hok xs tl (acc++[v]) σ1 (x.trans x1) (by rw[List.length_append,List.length_cons,List.length_nil];omega) fun vs σ2 x2 c=>by
      rw[List.append_assoc,List.cons_append,List.nil_append];exact h (v::vs) σ2 (x1.trans x2) (.take (mono x2 hR) c)⟩)
  exact ay (hok σ x) hb hr
theorem fI.fm {gf:ι->Option AV} {xs:List ι} {vs:List AV} (c:fI (fun _ x o=>o=gf x) σ xs vs):vs=xs.filterMap gf:=by
 induction c with
 | nil=>rfl
 | skip h _ ih=>rw[List.filterMap_cons,<- h];exact ih
 | take h _ ih=>rw[List.filterMap_cons,<- h,ih]
theorem aU {p:ι->AV} {t:List Nat} {ρ:Frame} {ifs:Frame->M Bool} {elt:Frame->M AV} {ok:St->Prop} {V:List AV->St->Prop} (gf:ι->Option AV) (xs:List ι) (hok:∀ σ',Ext σ σ'->ok σ') (hl:xs.length<=1000000)
  (st:∀ x∈xs,∀ σ',Ext σ σ'->∀ (K:Option AV->St->Prop),(∀ σ'',Ext σ' σ''->K (gf x) σ'')->∃ ρ',bindT ρ t (p x)=some ρ'/\ifs ρ' (fun b σ=>if b=true then elt ρ' (fun v σ=>K (some v) σ) E σ else K none σ) E σ')
  (h:∀ σ',Ext σ σ'->V (xs.filterMap gf) σ'):forM ok (fun _=>ret false) (compF t ρ ifs elt) (xs.map p) [] V E σ:=
 bQ (σ0:=σ) (fun _ x o=>o=gf x) (fun _ h=>h) hok xs (fun x m σ1 x1 K hK=>st x m σ1 x1 K fun σ2 x2=>hK _ σ2 x2 rfl) [] σ (.refl σ) (by rw[List.length_nil];omega) fun vs σ1 x1 c=>by
  rw[List.nil_append,c.fm];exact h σ1 x1
mutual
theorem Dat.ext (x:Ext σ σ') {v:AV} {d:PyData}:Dat σ v d->Dat σ' v d
 | .none=>.none
 | .bool b=>.bool b
 | .int i=>.int i
 | .str s=>.str s
 | .tup h=>.tup (Dats.ext x h)
 | .list e h=>.list (x _ _ e) (Dats.ext x h)
theorem Dats.ext (x:Ext σ σ') {v:List AV} {d:List PyData}:Dats σ v d->Dats σ' v d
 | .nil=>.nil
 | .cons h r=>.cons (Dat.ext x h) (Dats.ext x r)
end
theorem cw {f:ι->AV} {g:ι->PyData}:∀ {xs:List ι},(∀ x∈xs,Dat σ (f x) (g x))->Dats σ (xs.map f) (xs.map g)
 | [],_=>.nil
 | x::xs,h=>.cons (h x (.head _)) (cw fun y m=>h y (.tail _ m))
theorem fI.vh {R:St->ι->Option AV->Prop} {g:ι->PyData} (hR:∀ x o,R σ x o->∃ v,o=some v/\Dat σ v (g x)) {xs:List ι} {vs:List AV} (c:fI R σ xs vs):Dats σ vs (xs.map g):=by
 induction c with
 | nil=>exact .nil
 | skip h _ _=>obtain⟨v,e,_⟩:=hR _ _ h;cases e
 | take h _ ih=>obtain⟨v,e,hd⟩:=hR _ _ h;cases e;exact .cons hd ih
theorem jr:∀ {ds:List PyData},(∀ d∈ds,d.canLay0=true)->PyData.canLayAll0 ds=true
 | [],_=>by simp [PyData.canLayAll0]
 | d::ds,h=>by simp [PyData.canLayAll0,h d (.head _),jr fun y m=>h y (.tail _ m)]
theorem jt {k:Nat}:∀ {ds:List PyData},(∀ d∈ds,d.depth<=k)->PyData.depthAll ds<=k
 | [],_=>by simp [PyData.depthAll]
 | d::ds,h=>by
  have h1:=h d (.head _);have h2:=jt (k:=k) (ds:=ds) fun y m=>h y (.tail _ m);simp only[PyData.depthAll];omega
theorem dm {ds:List PyData} (h:∀ d∈ds,d.canLay0=true/\d.depth<=60):SeqAt.shaped (.list ds)=true:=by
 have h1:=jt (k:=60) fun d m=>(h d m).2;have h2:PyData.depth (.list ds)<=64:=by simp only[PyData.depth];omega
 show (PyData.canLay0 (.list ds)&&decide (PyData.depth (.list ds)<=64))=true;rw[Bool.and_eq_true];exact⟨by simp only[PyData.canLay0];exact jr fun d m=>(h d m).1,decide_eq_true h2⟩
def ah.pairs:ah->List (AV×Tr)
 | .nil=>[]
 | .cons v t r=>(v,t)::r.pairs
theorem ah.dn:∀ r:ah,r.vals=r.pairs.map (·.1)
 | .nil=>rfl
 | .cons v t r=>congrArg (v::·) r.dn
theorem ah.pairs_len (r:ah):r.pairs.length<=r.size:=by
 have:=r.aR;rwa [r.dn,List.length_map] at this
end
def bR (o1 o2 o3:Int):AV->Int
 | .inst 3 [.int k,_]=>if k=o1 then 0 else if k=o2 then 1 else if k=o3 then 2 else -1
 | _=>-1
inductive iq (σ:St):AV->Prop where
 | none:iq σ .none
 | ref (k:Int):iq σ (ai k)
 | dict {a l}:σ a=some (.dS l)->iq σ (.ref a)
abbrev bB (hes:List (Str×AV)):AV:=(atKey hes "Pg").getD .none
inductive Told (σ:St) (es:List (Int×AV)) (o1 o2 o3 home:Int):AV->Option (Int×Int)->Prop where
 | skip {v s}:av σ es v s->s≠"content"->s≠"mcr"->Told σ es o1 o2 o3 home v none
 | plain {v num}:bb σ es 9 v (.int num)->0<=num->Told σ es o1 o2 o3 home v (some (home,num))
 | kG {v hd hes w s}:bb σ es 9 v (.ref hd)->σ hd=some (.dS hes)->bb σ es 9 ((atKey hes "Type").getD .none) (nameA "MCR")->bb σ es 9 ((atKey hes "MCID").getD .none) w->aO σ w s->(s≠"int"\/∃ i,w=.int i/\i < 0)->Told σ es o1 o2 o3 home v none
 | ju {v hd hes num}:bb σ es 9 v (.ref hd)->σ hd=some (.dS hes)->bb σ es 9 ((atKey hes "Type").getD .none) (nameA "MCR")->bb σ es 9 ((atKey hes "MCID").getD .none) (.int num)->0<=num->iq σ (bB hes)->
   Told σ es o1 o2 o3 home v (some (if (atKey hes "Pg").isSome then bR o1 o2 o3 (bB hes) else home,num))
inductive dU (σ:St) (es:List (Int×AV)):AV->Option Int->Prop where
 | skip {v s}:av σ es v s->s≠"objr"->dU σ es v none
 | no {v hd hes w}:bb σ es 9 v (.ref hd)->σ hd=some (.dS hes)->av σ es v "objr"->(atKey hes "Obj").getD .none=w->bO σ w->dU σ es v none
 | obj {v hd hes num}:bb σ es 9 v (.ref hd)->σ hd=some (.dS hes)->av σ es v "objr"->atKey hes "Obj"=some (ai num)->dU σ es v (some num)
theorem iq.ext (x:Ext σ σ') {v:AV} (h:iq σ v):iq σ' v:=by
 cases h with
 | none=>exact .none
 | ref k=>exact .ref k
 | dict h=>exact .dict (x _ _ h)
theorem Told.inc (x:Ext σ σ') (i:cn es es') {v:AV} {r:Option (Int×Int)} (h:Told σ es o1 o2 o3 home v r):Told σ' es' o1 o2 o3 home v r:=by
 cases h with
 | skip h a b=>exact .skip (h.inc x i) a b
 | plain h a=>exact .plain (h.ext x i) a
 | kG h a b c d e=>exact .kG (h.ext x i) (x _ _ a) (b.ext x i) (c.ext x i) (d.ext x) e
 | ju h a b c d e=>exact .ju (h.ext x i) (x _ _ a) (b.ext x i) (c.ext x i) d (e.ext x)
theorem dU.inc (x:Ext σ σ') (i:cn es es') {v:AV} {r:Option Int} (h:dU σ es v r):dU σ' es' v r:=by
 cases h with
 | skip h a=>exact .skip (h.inc x i) a
 | no h a b c d=>exact .no (h.ext x i) (x _ _ a) (b.inc x i) c (d.ext x)
 | obj h a b c=>exact .obj (h.ext x i) (x _ _ a) (b.inc x i) c
theorem bo {h pl:Nat} {hes:List (Str×AV)} (hh:σ h=some (.dS hes)) (hp:σ pl=some (.dI (aM o1 o2 o3))) (hv:iq σ (bB hes)) (hQ:Q (.int (bR o1 o2 o3 (bB hes))) σ):FF sa sl (n+1) 20 [.ref h,.ref pl] Q E σ:=by
 refine ao Law.f_page_told rfl (by decide) rfl ?_;unfold runs Law.f_page_told;simp? [hh];unfold bB at hv hQ;generalize (atKey hes "Pg").getD .none=v at hv hQ ⊢;cases hv with
 | none=>tb_start;exact hQ
 | dict h=>simp? [h];exact hQ
 | ref k=>
  simp? [hp];have:(atKey (aM o1 o2 o3) k).getD (.int (-1))=.int (bR o1 o2 o3 (ai k)):=by
   unfold aM bR;simp only[aj,eq_comm (a:=k)];by_cases h1:o1=k
   ·simp [h1]
   ·by_cases h2:o2=k
    ·simp [h1,h2]
    ·by_cases h3:o3=k
     ·simp [h1,h2,h3]
     ·simp [h1,h2,h3,atKey]
  rw[this];exact hQ
abbrev lA:Option (Int×Int)->AV
 | none=>.none
 | some (p,m)=>.tup [.int p,.int m]
theorem bJ (ht:σ tb=some (.dI es)) {h pl:Nat} {hes:List (Str×AV)} {r d ab v:AV} {o:Option (Int×Int)} (hh:σ h=some (.dS hes)) (hp:σ pl=some (.dI (aM o1 o2 o3))) (hv:iq σ (bB hes)) (dt:bR o1 o2 o3 (bB hes)=home) (T:Told σ es o1 o2 o3 home v o) (hQ:∀ σ',Ext σ σ'->Q (lA o) σ'):
  FF sa sl (n+4) 21 [ak tb ax,.inst 6 [r,.ref h,d,ab],v,.ref pl] Q E σ:=by
 refine ao Law.f_content_told rfl (by decide) rfl ?_;unfold runs Law.f_content_told;tb_start;cases T with
 | skip hs a b=>
  refine aK ht hs fun σ1 x1=>?_;have a':=beq_eq_false_iff_ne.mpr a;have b':=beq_eq_false_iff_ne.mpr b;simp? [a',b'];exact hQ σ1 x1
 | plain hf h0=>
  refine aK ht (.content hf h0) fun σ1 x1=>?_;tb_start;refine bo (x1 _ _ hh) (x1 _ _ hp) (hv.ext x1) ?_;refine aE (x1 _ _ ht) (hf.dN x1) (by decide) ?_;rw[dt];exact hQ σ1 x1
 | kG hf hd kH hm hk hno=>
  refine aK ht (.dict hf hd kH (.name _)) fun σ1 x1=>?_;rw[if_pos rfl];have c1:(("mcr":Str)==("content":Str))=false:=by decide
  simp? [c1];refine aE (x1 _ _ ht) (hf.dN x1) (by decide) ?_;refine aC (x1 _ _ ht) (x1 _ _ hd) (hm.dN x1) (by decide) ?_;tb_start;refine bL (hk.ext x1) ?_;rcases hno with hno | ⟨i,rfl,hi⟩
  ·have a':=beq_eq_false_iff_ne.mpr hno;simp? [a'];exact hQ σ1 x1
  ·cases hk;simp? [hi];exact hQ σ1 x1
 | ju hf hd kH hm h0 ou=>
  refine aK ht (.dict hf hd kH (.name _)) fun σ1 x1=>?_;rw[if_pos rfl];have c1:(("mcr":Str)==("content":Str))=false:=by decide
  simp? [c1];refine aE (x1 _ _ ht) (hf.dN x1) (by decide) ?_;refine aC (x1 _ _ ht) (x1 _ _ hd) (hm.dN x1) (by decide) ?_;tb_start;refine bL (.int _) ?_;have rY:¬ _ < _:=Int.not_lt.mpr h0;rename_i zm bx Bo;simp? [rY,x1 _ _ hd];cases hc:(atKey bx "Pg").isSome with
  | false=>
   rw[if_neg (by decide)];refine bo (x1 _ _ hh) (x1 _ _ hp) (hv.ext x1) ?_;rw[dt];have:=hQ σ1 x1;simpa [hc] using this
  | true=>
   rw[if_pos rfl];refine bo (x1 _ _ hd) (x1 _ _ hp) (ou.ext x1) ?_;have:=hQ σ1 x1;simpa [hc] using this
def Tr.told:Tr->Option (Int×Int)
 | .content _ p m=>some (p,m)
 | _=>none
def Tr.gN:Tr->Option Int
 | .obj _ m=>some m
 | _=>none
def ah.bt (r:ah):List (Int×Int):=r.pairs.filterMap fun p=>p.2.told
def ah.objs (r:ah):List Int:=r.pairs.filterMap fun p=>p.2.gN
inductive cY:AV->Option Str->Prop where
 | own:cY (bf [111,119,110]) (some "own")
 | alpha:cY (bf [254,255,3,177]) (some ⟨#[945]⟩)
 | empty:cY (bf []) (some Str.empty)
 | none:cY .none none
 | name (s:Str):cY (nameA s) none
def cZ (σ:St) (es:List (Int×AV)) (o1 o2 o3:Int) (h:Nat) (page:Int) (word:Str) (own:Option Str):Prop:=
 ∃ hes,σ h=some (.dS hes)/\iq σ (bB hes)/\bR o1 o2 o3 (bB hes)=page/\(∃ k,bb σ es 9 ((atKey hes "S").getD .none) k/\bu σ k word)/\∃ k,bb σ es 9 ((atKey hes "ActualText").getD .none) k/\cY k own
mutual
def Tr.Val (σ:St) (es:List (Int×AV)) (o1 o2 o3:Int):Int->AV->Tr->Prop
 | home,v,.elem a h num page word own its=>cv σ es v h num/\av σ es v "element"/\cZ σ es o1 o2 o3 h page word own/\(∃ its',br h its its'/\aA σ es h its'.vals)/\its.Val σ es o1 o2 o3 page
 | home,v,.obj a num=>Told σ es o1 o2 o3 home v none/\dU σ es v (some num)/\∃ s,av σ es v s/\s≠"element"
 | home,v,.content a page num=>Told σ es o1 o2 o3 home v (some (page,num))/\dU σ es v none/\∃ s,av σ es v s/\s≠"element"
 | home,v,.nothing a=>Told σ es o1 o2 o3 home v none/\dU σ es v none/\∃ s,av σ es v s/\s≠"element"
def ah.Val (σ:St) (es:List (Int×AV)) (o1 o2 o3:Int):Int->ah->Prop
 | _,.nil=>True
 | home,.cons v t r=>Tr.Val σ es o1 o2 o3 home v t/\r.Val σ es o1 o2 o3 home
end
theorem cZ.inc (x:Ext σ σ') (i:cn es es') {h:Nat} {word:Str} {own:Option Str}:cZ σ es o1 o2 o3 h page word own->cZ σ' es' o1 o2 o3 h page word own:=by
 rintro⟨hes,h1,h2,h3,⟨k,h4,h5⟩,k',h6,h7⟩;exact⟨hes,x _ _ h1,h2.ext x,h3,⟨k,h4.ext x i,h5.ext⟩,k',h6.ext x i,h7⟩
theorem cv.inc (x:Ext σ σ') (i:cn es es') {v:AV} {h:Nat} {num:Int}:cv σ es v h num->cv σ' es' v h num:=by
 rintro⟨⟨hes,h1⟩,h2 | ⟨h2,h3,h4⟩⟩
 ·exact⟨⟨hes,x _ _ h1⟩,.inl h2⟩
 ·exact⟨⟨hes,x _ _ h1⟩,.inr ⟨h2,h3,i.1 _ _ h4⟩⟩
mutual
theorem Tr.Val.inc (x:Ext σ σ') (i:cn es es'):∀ {home:Int} {v:AV} {t:Tr},Tr.Val σ es o1 o2 o3 home v t->Tr.Val σ' es' o1 o2 o3 home v t
 | home,v,.elem a h num page word own its,hv=>by
  unfold Tr.Val at hv ⊢;obtain⟨h1,h2,h3,⟨its',h4,h5⟩,h6⟩:=hv;exact⟨h1.inc x i,h2.inc x i,h3.inc x i,⟨its',h4,h5.inc x i⟩,ah.Val.inc x i h6⟩
 | home,v,.obj a num,hv=>by
  unfold Tr.Val at hv ⊢;obtain⟨h1,h2,s,h3,h4⟩:=hv;exact⟨h1.inc x i,h2.inc x i,s,h3.inc x i,h4⟩
 | home,v,.content a p m,hv=>by
  unfold Tr.Val at hv ⊢;obtain⟨h1,h2,s,h3,h4⟩:=hv;exact⟨h1.inc x i,h2.inc x i,s,h3.inc x i,h4⟩
 | home,v,.nothing a,hv=>by
  unfold Tr.Val at hv ⊢;obtain⟨h1,h2,s,h3,h4⟩:=hv;exact⟨h1.inc x i,h2.inc x i,s,h3.inc x i,h4⟩
theorem ah.Val.inc (x:Ext σ σ') (i:cn es es'):∀ {home:Int} {r:ah},r.Val σ es o1 o2 o3 home->r.Val σ' es' o1 o2 o3 home
 | home,.nil,hv=>by unfold ah.Val;trivial
 | home,.cons v t r,hv=>by
  unfold ah.Val at hv ⊢;exact⟨Tr.Val.inc x i hv.1,ah.Val.inc x i hv.2⟩
end
mutual
theorem Tr.Val.vi:∀ {home:Int} {v:AV} {t:Tr},Tr.Val σ es o1 o2 o3 home v t->Tr.bX σ es br v t
 | home,v,.elem a h num page word own its,hv=>by
  unfold Tr.Val at hv;unfold Tr.bX;obtain⟨h1,h2,h3,h4,h6⟩:=hv;exact⟨h1,h2,h4,ah.Val.vi h6⟩
 | home,v,.obj a num,hv=>by
  unfold Tr.Val at hv;unfold Tr.bX;exact hv.2.2
 | home,v,.content a p m,hv=>by
  unfold Tr.Val at hv;unfold Tr.bX;exact hv.2.2
 | home,v,.nothing a,hv=>by
  unfold Tr.Val at hv;unfold Tr.bX;exact hv.2.2
theorem ah.Val.vi:∀ {home:Int} {r:ah},r.Val σ es o1 o2 o3 home->ah.bX σ es br r
 | home,.nil,hv=>by unfold ah.bX;trivial
 | home,.cons v t r,hv=>by
  unfold ah.Val at hv;unfold ah.bX;exact⟨Tr.Val.vi hv.1,ah.Val.vi hv.2⟩
end
theorem Tr.Val.leaf {v:AV} {t:Tr} (hv:Tr.Val σ es o1 o2 o3 home v t):Told σ es o1 o2 o3 home v t.told/\dU σ es v t.gN:=by
 cases t with
 | elem a h num page word own its=>
  unfold Tr.Val at hv;exact⟨.skip hv.2.1 (by decide) (by decide),.skip hv.2.1 (by decide)⟩
 | _=>
  unfold Tr.Val at hv;exact⟨hv.1,hv.2.1⟩
theorem ah.Val.mem:∀ {r:ah},r.Val σ es o1 o2 o3 home->∀ p∈r.pairs,Tr.Val σ es o1 o2 o3 home p.1 p.2
 | .nil,_,p,m=>by cases m
 | .cons v t r,h,p,m=>by
  unfold ah.Val at h;rcases List.mem_cons.mp m with rfl | m
  ·exact h.1
  ·exact h.2.mem p m
theorem dC:∀ {r:ah},r.bw->r.bt=[]/\r.objs=[]
 | .nil,_=>⟨rfl,rfl⟩
 | .cons v t r,⟨h1,h2⟩=>by
  cases t<;>first | exact h1.elim | skip
  obtain⟨e1,e2⟩:=dC h2;exact⟨e1,e2⟩
theorem fh {h:Nat} {its its':ah} (hx:br h its its') (hV:its.Val σ es o1 o2 o3 home):its'.Val σ es o1 o2 o3 home/\its'.bt=its.bt/\its'.objs=its.objs/\its'.size<=its.size:=by
 rcases hx with rfl | ⟨rfl,hn⟩
 ·exact⟨hV,rfl,rfl,Nat.le_refl _⟩
 ·obtain⟨e1,e2⟩:=dC hn;exact⟨by unfold ah.Val;trivial,e1.symm,e2.symm,Nat.zero_le _⟩
abbrev sX (p:Int×Int):AV:=.tup [.int p.1,.int p.2]
theorem fJ (S0:bh σ tb ax es aJ rt) {h pl:Nat} {hes:List (Str×AV)} {r d ab:AV} {its its':ah} (hx:br h its its') (hi:aA σ es h its'.vals) (hV:its.Val σ es o1 o2 o3 page) (hh:σ h=some (.dS hes)) (hp:σ pl=some (.dI (aM o1 o2 o3))) (hv:iq σ (bB hes)) (dt:bR o1 o2 o3 (bB hes)=page) (hsz:its.size<=1000)
  (hQ:∀ b σ',Ext σ σ'->σ' b=some (.list (its.bt.map sX))->Q (.ref b) σ'):FF sa sl (n+5) 22 [ak tb ax,.inst 6 [r,.ref h,d,ab],.ref pl] Q E σ:=by
 obtain⟨rZ,e1,_,hs'⟩:=fh hx hV;rw[<- e1] at hQ;have iN:=its'.pairs_len;refine ao Law.f_contents_of rfl (by decide) rfl ?_;unfold runs Law.f_contents_of;tb_start;refine bP S0 hi fun b σ1 x1 hb=>?_;simp? [hb];rw[ah.dn];rw[ah.dn] at hb;refine aU (ι:=AV×Tr) (σ:=σ1) (fun p=>some (lA p.2.told)) its'.pairs (fun σ2 x2=>x2 _ _ hb) (by omega) (fun p m σ2 x2 K hK=>⟨_,rfl,?_⟩) fun σ2 x2 c hc=>?_
 ·unfold cm cf;have fF:=x1.trans x2;tb_start;exact bJ (fF _ _ S0.tab) (fF _ _ hh) (fF _ _ hp) (hv.ext fF) dt ((rZ.mem p m).leaf.1.inc fF (.refl _)) fun σ3 x3=>hK σ3 x3
 ·have e0:List.filterMap (fun p:AV×Tr=>some (lA p.2.told)) its'.pairs=its'.pairs.map fun p=>lA p.2.told:=by
   rw[<- List.filterMap_eq_map];rfl
  rw[e0];have hc':put σ2 c (.list (its'.pairs.map fun p=>lA p.2.told)) c=some (.list (its'.pairs.map fun p=>lA p.2.told)):=af;refine aU (ι:=AV×Tr) (gf:=fun p=>p.2.told.map sX) its'.pairs (fun σ3 x3=>x3 _ _ hc') (by omega) (fun p m σ3 x3 K hK=>⟨_,rfl,?_⟩) fun σ3 x3 e he=>hQ e _ (((x1.trans x2).put hc).trans (x3.put he)) ?_
  ·unfold cm cf;have:=hK σ3 (.refl _);cases hp:p.2.told with
   | none=>rw[hp] at this;tb_start;exact this
   | some q=>rw[hp] at this;tb_start;exact this
  ·rw[af];unfold ah.bt;rw[List.map_filterMap]
def dD (σ:St) (v:AV) (o:Option Int):Prop:=∃ hd hes,v=.ref hd/\σ hd=some (.dS hes)/\((o=none/\bO σ ((atKey hes "Obj").getD .none))\/∃ num,o=some num/\atKey hes "Obj"=some (ai num))
theorem dD.ext {σ σ':St} (x:Ext σ σ') {v:AV} {o:Option Int}:dD σ v o->dD σ' v o:=by
 rintro⟨hd,hes,h1,h2,h3⟩;exact⟨hd,hes,h1,x _ _ h2,h3.imp (fun h=>⟨h.1,h.2.ext x⟩) id⟩
def pS (σ:St) (p:AV×Tr) (o:Option AV):Prop:=(o=none/\p.2.gN=none)\/∃ v,o=some v/\dD σ v p.2.gN
theorem pS.col {σ:St} {xs:List (AV×Tr)} {vs:List AV} (c:fI pS σ xs vs):∃ ys:List (AV×Option Int),vs=ys.map (·.1)/\(∀ y∈ys,dD σ y.1 y.2)/\ys.filterMap (·.2)=xs.filterMap (fun p=>p.2.gN)/\ys.length<=xs.length:=by
 induction c with
 | nil=>exact⟨[],rfl,(fun y m=>by cases m),rfl,Nat.le_refl _⟩
 | skip h _ ih=>
  obtain⟨ys,e1,e2,e3,e4⟩:=ih;rcases h with ⟨_,h⟩ | ⟨v,h,_⟩
  ·exact⟨ys,e1,e2,by rw[List.filterMap_cons,h];exact e3,by rw[List.length_cons];omega⟩
  ·cases h
 | @take x0 De v0 Df h _ ih=>
  obtain⟨ys,e1,e2,e3,e4⟩:=ih;rcases h with ⟨h,_⟩ | ⟨v,h,h'⟩
  ·cases h
  ·cases h;refine⟨(v0,x0.2.gN)::ys,by rw[e1];rfl,fun y m=>?_,?_,by simp only[List.length_cons];omega⟩
   ·rcases List.mem_cons.mp m with rfl | m
    ·exact h'
    ·exact e2 y m
   ·rw[List.filterMap_cons,List.filterMap_cons,e3]
theorem gO (S0:bh σ tb ax es aJ rt) {h:Nat} {r d ab:AV} {its its':ah} (hx:br h its its') (hi:aA σ es h its'.vals) (hV:its.Val σ es o1 o2 o3 page) (hsz:its.size<=1000)
  (hQ:∀ b σ',Ext σ σ'->σ' b=some (.list (its.objs.map ai))->Q (.ref b) σ'):FF sa sl (n+4) 23 [ak tb ax,.inst 6 [r,.ref h,d,ab]] Q E σ:=by
 obtain⟨rZ,_,e1,hs'⟩:=fh hx hV;rw[<- e1] at hQ;have iN:=its'.pairs_len;refine ao Law.f_objects_of rfl (by decide) rfl ?_;unfold runs Law.f_objects_of;tb_start;refine bP S0 hi fun b σ1 x1 hb=>?_;simp? [hb];rw[ah.dn];rw[ah.dn] at hb;refine bQ (ι:=AV×Tr) (σ0:=σ1) pS (fun x h=>h.imp id fun ⟨v,a,b⟩=>⟨v,a,b.ext x⟩) (fun σ2 x2=>x2 _ _ hb) its'.pairs (fun p m σ2 x2 K hK=>⟨_,rfl,?_⟩) [] σ1 (.refl _) (by rw[List.length_nil];omega) fun vs σ2 x2 c=>?_
 ·unfold cm cf;have fF:=x1.trans x2;have ob:=(rZ.mem p m).leaf.2.inc fF (.refl _);generalize hobj:p.2.gN=oo at ob;tb_start;cases ob with
  | skip hs hne=>
   refine aK (fF _ _ S0.tab) hs fun σ3 x3=>?_;have xS:=beq_eq_false_iff_ne.mpr hne;simp? [xS];exact hK none σ3 x3 (.inl ⟨rfl,hobj⟩)
  | no hf hd hs ho hn=>
   refine aK (fF _ _ S0.tab) hs fun σ3 x3=>?_;tb_start;refine aE (x3 _ _ (fF _ _ S0.tab)) (hf.dN x3) (by decide) ?_;exact hK (some _) σ3 x3 (.inr ⟨_,rfl,_,_,rfl,x3 _ _ hd,.inl ⟨hobj,by rw[ho];exact hn.ext x3⟩⟩)
  | obj hf hd hs ho=>
   refine aK (fF _ _ S0.tab) hs fun σ3 x3=>?_;tb_start;refine aE (x3 _ _ (fF _ _ S0.tab)) (hf.dN x3) (by decide) ?_;exact hK (some _) σ3 x3 (.inr ⟨_,rfl,_,_,rfl,x3 _ _ hd,.inr ⟨_,hobj,ho⟩⟩)
 ·rw[List.nil_append];intro e he;obtain⟨ys,rfl,y2,y3,y4⟩:=pS.col c;refine aU (ι:=AV×Option Int) (gf:=fun p=>p.2.map ai) ys (fun σ3 x3=>x3 _ _ af) (by omega) (fun p m σ3 x3 K hK=>⟨_,rfl,?_⟩) fun σ3 x3 f hf=>hQ f _ (((x1.trans x2).put he).trans (x3.put hf)) ?_
  ·obtain⟨hd,hes,q1,q2,q3⟩:=(y2 p m).ext (((Ext.refl σ2).put he).trans x3);unfold cm cf;have:=hK σ3 (.refl _);rcases q3 with ⟨q3,q4⟩ | ⟨num,q3,q4⟩
   ·rw[q3] at this;simp? [q1,q2,eh q4];exact this
   ·rw[q3] at this;simp? [q1,q2,q4,Option.getD_some];exact this
  ·rw[af];unfold ah.objs;rw[<- y3,List.map_filterMap]
theorem eI {l:List AV} {ys:List Str} {s:Str} {a:Nat} (hs:s=Str.empty) (hl:σ a=some (.list l)) (hy:allStr l=some ys) (h0:(ys.map fun y:Str=>y.length).sum<=1000000):methM 5 (.str s) [.ref a] Q E σ=Q (.str (joinS ys)) σ:=by
 subst hs;exact sL hl hy h0
theorem ox {b:List UInt8} {V:It->St->Prop}:seqM (.bytes b) V E σ=V ⟨b.map fun x=>.int x.toNat,fun _=>True⟩ σ:=Eq.trans rfl rfl
theorem sY {b:List UInt8} (h:b=[111,119,110]\/b=[254,255,3,177]\/b=[]):methM 6 (.bytes b) [.bytes [254,255]] Q E σ=Q (.bool (b==[254,255,3,177])) σ:=propext ⟨fun q=>q.2,fun q=>⟨⟨rfl,h⟩,q⟩⟩
theorem kI {s:List UInt8} {i:Int} {c:UInt8} (h:s[i.toNat]? =some c) (h0:0<=i/\i < 2 ^ 60/\s.length<=1000000):itemM (.bytes s) (.int i) Q E σ=Q (.int c.toNat) σ:=by
 show (_/\(match s[i.toNat]? with | some c=>ret (AV.int c.toNat) | none=>(no:M AV)) Q E σ)=_;rw[h];exact propext ⟨fun q=>q.2,fun q=>⟨h0,q⟩⟩
theorem oz {V:It->St->Prop} {a b:Int} (h:-(2 ^ 60) < a/\a < 2 ^ 60/\-(2 ^ 60) < b/\b < 2 ^ 60) (hV:V ⟨rangeL a ((b - a+1) / 2).toNat 2,fun _=>True⟩ σ):rangeM [.int a,.int b,.int 2] V E σ:=⟨h.1,h.2.1,h.2.2.1,h.2.2.2,.inr ⟨rfl,hV⟩⟩
theorem dW {i:Int} (h1:32<=i) (h2:i < 127) (h3:i≠9/\i≠10/\i≠13) (hQ:Q (.int i) σ):FF sa sl (n+1) 0 [.int i] Q E σ:=by
 refine ao Law.f_sign_of rfl (by decide) rfl ?_;unfold runs Law.f_sign_of;have e:∀ {B:Bool->St->Prop} {E:St->Prop},cmpM .isin (.int i) (.tup [.int 9,.int 10,.int 13]) B E σ=B false σ:=by
  intro B E;rw[uT (ys:=[9,10,13]) rfl];have:([9,10,13].any fun x:Int=>x==i)=false:=by simp [h3.1.symm,h3.2.1.symm,h3.2.2.symm]
  rw[this]
 simp? [e,h1,h2];exact hQ
theorem oA (hQ:∀ σ',Ext σ σ'->Q (.str "own") σ'):FF sa sl (n+2) 4 [.bytes [111,119,110]] Q E σ:=by
 refine ao Law.f_text_of rfl (by decide) rfl ?_;unfold runs Law.f_text_of;have e:(([111,119,110]:List UInt8)==[254,255,3,177])=false:=by decide
 simp? [sY (.inl rfl),e,ox];unfold cm cf;refine ay trivial rfl ?_;tb_start;refine dW (by decide) (by decide) (by decide) ?_;simp only[ix];refine⟨by decide,?_⟩;try refine⟨by decide,?_⟩
 refine ay trivial rfl ?_;tb_start;refine dW (by decide) (by decide) (by decide) ?_;simp only[ix];refine⟨by decide,?_⟩;try refine⟨by decide,?_⟩
 refine ay trivial rfl ?_;tb_start;refine dW (by decide) (by decide) (by decide) ?_;simp only[ix];refine⟨by decide,?_⟩;try refine⟨by decide,?_⟩
 try refine⟨trivial,?_⟩
 intro a ha;rw[eI (ys:=[⟨#[111]⟩,⟨#[119]⟩,⟨#[110]⟩]) (by decide) af rfl (by decide),show joinS [⟨#[111]⟩,⟨#[119]⟩,⟨#[110]⟩]=("own":Str) from by decide];exact hQ _ ((Ext.refl σ).put ha)
theorem jv (hQ:∀ σ',Ext σ σ'->Q (.str Str.empty) σ'):FF sa sl (n+2) 4 [.bytes []] Q E σ:=by
 refine ao Law.f_text_of rfl (by decide) rfl ?_;unfold runs Law.f_text_of;have e:(([]:List UInt8)==[254,255,3,177])=false:=by decide
 simp? [sY (.inr (.inr rfl)),e,ox];intro a ha;rw[eI (ys:=[]) (by decide) af rfl (by decide),show joinS []=Str.empty from rfl];exact hQ _ ((Ext.refl σ).put ha)
theorem jw {b:Nat} (hb:σ b=some (.list [.int 945])) (hQ:∀ σ',Ext σ σ'->Q (.str ⟨#[945]⟩) σ'):FF sa sl (n+1) 3 [.ref b] Q E σ:=by
 refine ao Law.f_text_of_units rfl (by decide) rfl ?_;unfold runs Law.f_text_of_units;tb_start;intro a ha;have hb':put σ a (.list []) b=some (.list [.int 945]):=by rw[ae (fresh_ne ha hb)];exact hb
 have Bp:b≠a:=fresh_ne ha hb;refine⟨1+1,?_⟩;rw[az];unfold eg;have c0:((1:Nat):Int)=1:=rfl;simp? [hb',c0];unfold gB Law.B_text_of_units_0;simp? [hb',Int.toNat_zero,c0,Int.lt_irrefl,Nat.zero_le];show whileN _ _ (0+1) _ _ _ _;rw[az];simp? [ae Bp,hb,c0,Int.lt_irrefl];rw[eI (ys:=[⟨#[945]⟩]) (by decide) af rfl (by decide),show joinS [⟨#[945]⟩]=(⟨#[945]⟩:Str) from by decide];exact hQ _ ((Ext.refl σ).put ha)
theorem jx (hQ:∀ σ',Ext σ σ'->Q (.str ⟨#[945]⟩) σ'):FF sa sl (n+2) 4 [.bytes [254,255,3,177]] Q E σ:=by
 refine ao Law.f_text_of rfl (by decide) rfl ?_;unfold runs Law.f_text_of;have e:(([254,255,3,177]:List UInt8)==[254,255,3,177])=true:=by decide
 simp? [sY (.inr (.inl rfl)),e];refine oz (by decide) ?_;unfold cm cf;show forM _ _ _ [.int 2] _ _ _ _;refine ay trivial rfl ?_;simp? [kI (s:=[254,255,3,177]) (i:=2) (c:=3) rfl (by decide),kI (s:=[254,255,3,177]) (i:=3) (c:=177) rfl (by decide)];intro a ha;refine jw (b:=a) (by rw[af];rfl) fun σ1 x1=>?_;rw[if_neg (by decide),eO,show (⟨#[945]⟩:Str)++("":Str)=⟨#[945]⟩ from by decide];exact⟨by decide,hQ _ (((Ext.refl σ).put ha).trans x1)⟩
abbrev ownA:Option Str->AV
 | some s=>.str s
 | none=>.none
theorem oC (ht:σ tb=some (.dI es)) {h:Nat} {word:Str} {own:Option Str} {r d ab:AV} (H:cZ σ es o1 o2 o3 h page word own) (hQ:∀ σ',Ext σ σ'->Q (ownA own) σ'):FF sa sl (n+3) 25 [ak tb ax,.inst 6 [r,.ref h,d,ab]] Q E σ:=by
 obtain⟨hes,h1,_,_,_,k,h6,h7⟩:=H;refine ao Law.f_own_text rfl (by decide) rfl ?_;unfold runs Law.f_own_text;tb_start;refine aC ht h1 h6 (by decide) ?_;cases h7 with
 | own=>tb_start;exact oA hQ
 | alpha=>tb_start;exact jx hQ
 | empty=>tb_start;exact jv hQ
 | none=>tb_start;exact hQ _ (.refl σ)
 | name s=>tb_start;exact hQ _ (.refl σ)
section
variable (f:Str->Option Str)
inductive RP:List Str->Str->Str->Prop where
 | seen {L w}:w∈L->RP L w w
 | stop {L w}:w∉L->f w=none->RP L w w
 | step {L w u r}:w∉L->L.length<=10->f w=some u->RP (L++[w]) u r->RP L w r
def bD (w:Str):Nat->Str->Bool
 | 0,_=>false
 | k+1,here=>if (f here).getD Str.empty=w then true else bD w k ((f here).getD Str.empty)
inductive SP:Str->Str->Prop where
 | stop {w}:f w=none->SP w w
 | ring {w}:bD f w 5 w=true->SP w w
 | step {w u r}:f w=some u->bD f w 5 w=false->SP u r->SP w r
def sZ (w:Str):List Str->Str
 | []=>w
 | b::_=>b
def Ch (w:Str):List Str->Prop
 | []=>True
 | a::r=>f a=some (sZ w r)/\Ch w r
end
section
variable {f:Str->Option Str}
theorem iO {u w:Str}:∀ {L:List Str},sZ u (L++[w])=sZ w L
 | []=>rfl
 | _::_=>rfl
theorem Ch.snoc {w u:Str} (h:f w=some u):∀ {L:List Str},Ch f w L->Ch f u (L++[w])
 | [],_=>⟨h,trivial⟩
 | a::r,⟨h1,h2⟩=>⟨by rw[show r.append [w]=r++[w] from rfl,iO];exact h1,Ch.snoc h h2⟩
theorem Ch.mem {r:Str}:∀ {L:List Str},Ch f r L->∀ s∈L,∃ t,f s=some t/\(t∈L\/t=r)
 | a::l,⟨h1,h2⟩,s,m=>by
  rcases List.mem_cons.mp m with rfl | m
  ·refine⟨_,h1,?_⟩;cases l with
   | nil=>exact .inr rfl
   | cons b l=>exact .inl (.tail _ (.head _))
  ·obtain⟨t,e,h⟩:=Ch.mem h2 s m;exact⟨t,e,h.imp (.tail _) id⟩
theorem RP.full {L:List Str} {w r:Str} (h:RP f L w r):Ch f w L->L.Nodup->∃ L',Ch f r L'/\L'.Nodup/\(r∈L'\/(r∉L'/\f r=none))/\sZ r L'=sZ w L:=by
 induction h with
 | seen m=>exact fun c d=>⟨_,c,d,.inl m,rfl⟩
 | stop m e=>exact fun c d=>⟨_,c,d,.inr ⟨m,e⟩,rfl⟩
 | step m _ e _ ih=>
  intro c d;obtain⟨L',h1,h2,h3,h4⟩:=ih (c.snoc e) (by
   rw[List.nodup_append];refine⟨d,by simp,fun a ha b hb=>?_⟩;rw[List.mem_singleton] at hb;intro q;rw[q,hb] at ha;exact m ha)
  exact⟨L',h1,h2,h3,by rw[h4,iO]⟩
theorem gh {C:Str->Prop} {z:Str} (hC:∀ s,C s->C ((f s).getD Str.empty)) (hn:¬ C z):∀ (k:Nat) (here:Str),C ((f here).getD Str.empty)->bD f z k here=false
 | 0,_,_=>rfl
 | k+1,here,h=>by
  unfold bD;rw[if_neg (fun q=>hn (by rw[<- q];exact h))];exact gh hC hn k _ (hC _ h)
theorem fi {y:Str}:∀ (B:List Str) (a:Str) (k:Nat),Ch f y (a::B)->B.length+1<=k->bD f y k a=true
 | [],a,k+1,h,_=>by
  unfold bD;rw[h.1];exact if_pos rfl
 | b::B,a,k+1,h,hl=>by
  unfold bD;rw[h.1];show (if b=y then true else bD f y k b)=true;split
  ·rfl
  ·exact fi B b k h.2 (by rw[List.length_cons] at hl;omega)
theorem SP.of {r:Str} (h0:f Str.empty=none):∀ (L:List Str),Ch f r L->L.Nodup->(r∈L\/(r∉L/\f r=none))->L.length<=5->SP f (sZ r L) r
 | [],_,_,h,_=>by
  rcases h with h | h
  ·cases h
  ·exact .stop h.2
 | z::L,c,d,h,hl=>by
  by_cases q:r=z
  ·subst q;exact .ring (fi L r 5 c hl)
  ·have h':r∈L\/(r∉L/\f r=none):=by
    rcases h with h | h
    ·rcases List.mem_cons.mp h with h | h
     ·exact absurd h q
     ·exact .inl h
    ·exact .inr ⟨fun m=>h.1 (.tail _ m),h.2⟩
   rw[List.nodup_cons] at d;rw[List.length_cons] at hl;refine .step c.1 ?_ (SP.of h0 L c.2 d.2 h' (by omega));have hm:∀ s,(s∈L\/s=r\/s=Str.empty)->((f s).getD Str.empty∈L\/(f s).getD Str.empty=r\/(f s).getD Str.empty=Str.empty):=by
    have key:∀ s∈L,((f s).getD Str.empty∈L\/(f s).getD Str.empty=r\/(f s).getD Str.empty=Str.empty):=fun s m=>by
     obtain⟨t,e,ht⟩:=Ch.mem c.2 s m;rw[e];exact ht.imp id .inl
    rintro s (m | rfl | rfl)
    ·exact key s m
    ·rcases h' with h' | h'
     ·exact key _ h'
     ·rw[h'.2];exact .inr (.inr rfl)
    ·rw[h0];exact .inr (.inr rfl)
   refine gh (C:=fun s=>s∈L\/s=r\/s=Str.empty) hm ?_ 5 z ?_
   ·rintro (m | m | m)
    ·exact d.1 m
    ·exact q m.symm
    ·have m':z=Str.empty:=m;have:=c.1;rw[m',h0] at this;cases this
   ·rw[c.1];cases L with
    | nil=>exact .inr (.inl rfl)
    | cons b l=>exact .inl (.head _)
theorem dY:∀ {L W:List Str},L.Nodup->(∀ s∈L,s∈W)->L.length<=W.length
 | [],_,_,_=>Nat.zero_le _
 | a::L,W,d,h=>by
  rw[List.nodup_cons] at d;have ha:=h a (.head _);have:=dY (L:=L) (W:=W.erase a) d.2 fun s m=>(List.mem_erase_of_ne (fun q=>d.1 (by rw[<- q];exact m))).mpr (h s (.tail _ m));rw[List.length_erase_of_mem ha] at this;have:0 < W.length:=List.length_pos_of_mem ha;rw[List.length_cons];omega
abbrev aF:List Str:=["A","B","C","D","E"]
theorem RP.ex (hW:∀ s t,f s=some t->s∈aF):∀ (k:Nat) (L:List Str) (w:Str),L.Nodup->(∀ s∈L,s∈aF)->L.length+k=6->∃ r,RP f L w r
 | 0,L,w,d,h,e=>by
  have:=dY d h;have:aF.length=5:=rfl;omega
 | k+1,L,w,d,h,e=>by
  by_cases m:w∈L
  ·exact⟨w,.seen m⟩
  ·cases q:f w with
   | none=>exact⟨w,.stop m q⟩
   | some u=>
    obtain⟨r,hr⟩:=RP.ex hW k (L++[w]) u (by
     rw[List.nodup_append];refine⟨d,by simp,fun a ha b hb=>?_⟩;rw[List.mem_singleton] at hb;intro q;rw[q,hb] at ha;exact m ha) (fun s hs=>by
     rcases List.mem_append.mp hs with hs | hs
     ·exact h s hs
     ·rw[List.mem_singleton] at hs;rw[hs];exact hW _ _ q) (by rw[List.length_append,List.length_cons,List.length_nil];omega)
    exact⟨r,.step m (by omega) q hr⟩
theorem lB (hW:∀ s t,f s=some t->s∈aF) (w:Str):∃ r,RP f [] w r/\SP f w r:=by
 obtain⟨r,hr⟩:=RP.ex hW 6 [] w .nil (fun s m=>by cases m) rfl;have h0:f Str.empty=none:=by
  cases q:f Str.empty with
  | none=>rfl
  | some t=>exact absurd (hW _ _ q) (by decide)
 obtain⟨L,c,d,h,e⟩:=hr.full trivial .nil;refine⟨r,hr,?_⟩;have:sZ r L=w:=e;rw[<- this];refine SP.of h0 L c d h (dY (W:=aF) d fun s m=>?_);obtain⟨t,q,_⟩:=c.mem s m;exact hW _ _ q
end
def dZ (σ:St) (es:List (Int×AV)) (cq:List (Str×AV)) (f:Str->Option Str):Prop:=∀ s,∃ w',bb σ es 9 ((atKey cq s).getD .none) w'/\((∃ g,f s=some g/\w'=nameA g)\/(f s=none/\(w'=.none\/∃ b,w'=bf b)))
def RM (σ:St) (es:List (Int×AV)) (res:List (Str×AV)) (f:Str->Option Str):Prop:=
 ∃ w,bb σ es 9 ((atKey res "RoleMap").getD .none) w/\(((w=.none\/w=.int 5)/\∀ s,f s=none)\/∃ ld cq,w=.ref ld/\σ ld=some (.dS cq)/\dZ σ es cq f)
def cP (L:List Str):List (Str×AV):=L.map fun s=>(s,.bool true)
theorem c9 {s:Str}:∀ {L:List Str},(atKey (cP L) s).isSome=decide (s∈L)
 | []=>rfl
 | a::L=>by
  unfold cP;rw[List.map_cons,aj];by_cases h:a=s
  ·subst h;simp
  ·rw[if_neg h];have:=c9 (s:=s) (L:=L);unfold cP at this;rw[this];simp [eq_comm (a:=s),h]
theorem lC {w:Str} {L:List Str} (h:w∉L):putK (cP L) w (.bool true)=cP (L++[w]):=by
 have:atKey (cP L) w=none:=by
  have:=c9 (s:=w) (L:=L);rw[decide_eq_false h] at this;cases q:atKey (cP L) w with
  | none=>rfl
  | some v=>rw[q] at this;cases this
 rw[aL this];unfold cP;rw[List.map_append];rfl
theorem dZ.inc (x:Ext σ σ') (i:cn es es') {cq:List (Str×AV)} (h:dZ σ es cq f):dZ σ' es' cq f:=fun s=>by
 obtain⟨w,h1,h2⟩:=h s;exact⟨w,h1.ext x i,h2⟩
theorem RM.inc (x:Ext σ σ') (i:cn es es') {res:List (Str×AV)}:RM σ es res f->RM σ' es' res f:=by
 rintro⟨w,h1,h2⟩;refine⟨w,h1.ext x i,h2.imp id ?_⟩;rintro⟨ld,cq,h3,h4,h5⟩;exact⟨ld,cq,h3,x _ _ h4,h5.inc x i⟩
abbrev gi:PE:=.andor true (.cons (.isinst (.loc 4) 13) (.cons (.cmp .notin (.loc 3) (.loc 5)) (.cons (.isinst (.own 47 (.loc 0) (.cons (.loc 4) (.cons (.loc 3) .nil))) 0) .nil)))
theorem lD {σ0:St} {ld se:Nat} {cq:List (Str×AV)} (ht:σ0 tb=some (.dI es)) (mD:σ0 ld=some (.dS cq)) (hf:dZ σ0 es cq f) (dq:σ0 se=none) {L:List Str} {w r:Str} (hr:RP f L w r) {V:Fl×Frame->St->Prop} {s1 s2:Option AV}
  (hV:∀ σ',Ext σ0 σ'->V (.next,[some (ak tb ax),s1,s2,some (.str r),some (.ref ld),some (.ref se)]) σ'):∀ σ,Ext σ0 σ->σ se=some (.dS (cP L))->
  ∃ k,whileN (eg (FF sa sl (n+2)) gi) (gB (FF sa sl (n+2)) Law.B_role_of_0) k [some (ak tb ax),s1,s2,some (.str w),some (.ref ld),some (.ref se)] V E σ:=by
 induction hr with
 | @seen L w m=>
  intro σ x hs;refine⟨0+1,?_⟩;rw[az];unfold eg gi;simp? [x _ _ mD,hs,c9,m];exact hV σ x
 | @stop L w m e=>
  intro σ x hs;refine⟨0+1,?_⟩;rw[az];unfold eg gi;simp? [x _ _ mD,hs,c9,m];obtain⟨w',h1,h2⟩:=hf w;refine aC (x _ _ ht) (x _ _ mD) (h1.dN x) (by decide) ?_;rcases h2 with ⟨g,h2,_⟩ | ⟨_,rfl | ⟨b,rfl⟩⟩
  ·rw[e] at h2;cases h2
  ·tb_start;exact hV σ x
  ·tb_start;exact hV σ x
 | @step L w u r m hl e _ ih=>
  intro σ x hs;obtain⟨w',h1,h2⟩:=hf w;rcases h2 with ⟨g,h2,rfl⟩ | ⟨h2,_⟩
  ·rw[e] at h2;cases h2;have hne:∀ {b:Nat} {o:AO},σ0 b=some o->b≠se:=fun hb q=>by rw[q,dq] at hb;cases hb
   have x':Ext σ0 (put σ se (.dS (cP (L++[w])))):=fun b o hb=>by rw[ae (hne hb)];exact x _ _ hb
   obtain⟨k,hk⟩:=ih hV _ x' af;refine⟨k+1,?_⟩;rw[az];unfold eg gi;simp? [x _ _ mD,hs,c9,m];refine aC (x _ _ ht) (x _ _ mD) (h1.dN x) (by decide) ?_;have hl':(cP L).length<=1000000:=by unfold cP;rw[List.length_map];omega
   tb_start;unfold gB Law.B_role_of_0;simp? [hs,hl',lC m];refine aC (x' _ _ ht) (x' _ _ mD) (h1.dN x') (by decide) ?_;tb_start;exact hk
  ·rw[e] at h2;cases h2
theorem lF (S0:bh σ tb ax es aJ rt) {res:List (Str×AV)} (lG:σ rt=some (.dS res)) (R:RM σ es res f) {h:Nat} {word r:Str} {own:Option Str} (H:cZ σ es o1 o2 o3 h page word own) (hr:RP f [] word r) (hQ:∀ σ',Ext σ σ'->Q (.str r) σ'):FF sa sl (n+5) 19 [ak tb ax,.ref h] Q E σ:=by
 obtain⟨hes,h1,_,_,⟨k,h4,h5⟩,_⟩:=H;refine ao Law.f_role_of rfl (by decide) rfl ?_;unfold runs Law.f_role_of;tb_start;refine aC S0.tab h1 h4 (by decide) ?_;have go:∀ {nm:Option AV},FF sa sl (n+4) 13 [ak tb ax] (fun v σ=>FF sa sl (n+4) 47 [ak tb ax,v,.str "RoleMap"] (fun v σ=>∀ a,σ a=none->∃ m,whileN (eg (FF sa sl (n+4)) gi) (gB (FF sa sl (n+4)) Law.B_role_of_0) m [some (ak tb ax),some (.ref h),nm,some (.str word),some v,some (.ref a)] (fun x σ=>cT (FF sa sl (n+4)) (.cons (.ret (.loc 3)) .nil) (fun x σ=>Q (bj x.1) σ) E x σ) (fun _=>False) (put σ a (.dS []))) E σ) E σ:=by
  intro nm;refine eW S0 ?_;obtain⟨w,R1,R2⟩:=R;refine aC S0.tab lG R1 (by decide) ?_;intro se dq;have fin:∀ σ' {s4 s5:Option AV},Ext σ σ'->cT (FF sa sl (n+4)) (.cons (.ret (.loc 3)) .nil) (fun x σ=>Q (bj x.1) σ) E (.next,[some (ak tb ax),some (.ref h),nm,some (.str r),s4,s5]) σ':=by
   intro σ' s4 s5 x;tb_start;exact hQ σ' x
  rcases R2 with ⟨hw,hn⟩ | ⟨ld,cq,rfl,mD,hl⟩
  ·have Bq:word=r:=by
    cases hr with
    | seen m=>cases m
    | stop _ _=>rfl
    | step _ _ e _=>rw[hn] at e;cases e
   subst Bq;refine⟨0+1,?_⟩;rw[az];unfold eg gi;rcases hw with rfl | rfl
   ·tb_start;exact hQ _ ((Ext.refl σ).put dq)
   ·tb_start;exact hQ _ ((Ext.refl σ).put dq)
  ·exact lD (n:=n+2) S0.tab mD hl dq hr (fun σ' x=>fin σ' x) _ ((Ext.refl σ).put dq) af
 cases h5<;>(tb_start;exact go)
def bp (pl:List (Str×AV)) (f:Str->Option Str):Prop:=∀ s,atKey pl s=(f s).map AV.str
theorem fj {p:Nat} {pl:List (Str×AV)} (hp:σ p=some (.dS pl)) (hf:bp pl f) {w:Str} (hQ:Q (.bool (bD f w 5 w)) σ):FF sa sl (n+1) 40 [.ref p,.str w] Q E σ:=by
 refine ao Law.f_law_comes_again rfl (by decide) rfl ?_;unfold runs Law.f_law_comes_again;tb_start;generalize hV:(fun (x:Fl×Frame) σ=>cT (FF sa sl n) (.cons (.ret (.bool false)) .nil) _ _ (endF x) σ)=V;have e1:∀ ρ,V (.ret (.bool true),ρ) σ=Q (.bool true) σ:=fun ρ=>by rw[<- hV];rfl
 have e2:∀ ρ,V (.next,ρ) σ=Q (.bool false) σ:=fun ρ=>by rw[<- hV];rfl
 have loop:∀ (xs:List AV) (here:Str) (s3:Option AV),Q (.bool (bD f w xs.length here)) σ->forM (fun _=>True) stopF (iy (FF sa sl n) [3] Law.B_law_comes_again_0) xs (.next,[some (.ref p),some (.str w),some (.str here),s3]) V (fun _=>False) σ:=by
  intro xs;induction xs with
  | nil=>intro here s3 h;exact⟨trivial,by rw[e2];exact h⟩
  | cons x xs ih=>
   intro here s3 h;refine aq trivial ?_;unfold Law.B_law_comes_again_0;have hg:(atKey pl here).getD (.str "")=.str ((f here).getD Str.empty):=by
    rw[hf];cases f here<;>rfl
   simp? [hp,hg];rw[List.length_cons] at h;unfold bD at h;by_cases q:(f here).getD Str.empty=w
   ·rw[if_pos q] at h;rw[if_pos (beq_iff_eq.mpr q),e1];exact h
   ·rw[if_neg q] at h;rw[if_neg (fun z=>q (beq_iff_eq.mp z))];exact ih _ _ h
 exact loop (rangeL 0 5 1) w none hQ
abbrev gP:PE:=.andor true (.cons (.cmp .isin (.loc 2) (.loc 0)) (.cons (.not (.call 40 (.cons (.loc 0) (.cons (.loc 2) .nil)))) .nil))
theorem fK {p:Nat} {pl:List (Str×AV)} (hp:σ p=some (.dS pl)) (hf:bp pl f) {w r:Str} (hr:SP f w r) {V:Fl×Frame->St->Prop} {s1:Option AV} (hV:V (.next,[some (.ref p),s1,some (.str r)]) σ):
  ∃ k,whileN (eg (FF sa sl (n+1)) gP) (gB (FF sa sl (n+1)) Law.B_law_role_0) k [some (.ref p),s1,some (.str w)] V E σ:=by
 induction hr with
 | @stop w e=>
  refine⟨0+1,?_⟩;rw[az];unfold eg gP;have h0:atKey pl w=none:=by rw[hf,e];rfl
  simp? [hp,h0,Option.isSome_none];exact hV
 | @ring w e=>
  refine⟨0+1,?_⟩;rw[az];unfold eg gP;simp? [hp];split
  ·refine fj hp hf ?_;rw[e];tb_start;exact hV
  ·exact hV
 | @step w u r e a _ ih=>
  obtain⟨k,hk⟩:=ih hV;refine⟨k+1,?_⟩;rw[az];unfold eg gP;have h0:atKey pl w=some (.str u):=by rw[hf,e];rfl
  simp? [hp,h0,Option.isSome_some];refine fj hp hf ?_;rw[a];tb_start;unfold gB Law.B_law_role_0;simp? [hp,h0];exact hk
theorem fL {p:Nat} {pl:List (Str×AV)} (hp:σ p=some (.dS pl)) (hf:bp pl f) {w r:Str} (hr:SP f w r) (hQ:Q (.str r) σ):FF sa sl (n+2) 41 [.ref p,.str w] Q E σ:=by
 refine ao Law.f_law_role rfl (by decide) rfl ?_;unfold runs Law.f_law_role;tb_start;refine fK hp hf hr ?_;tb_start;exact hQ
def Tr.adr:Tr->Nat
 | .elem a _ _ _ _ _ _=>a
 | .obj a _=>a
 | .content a _ _=>a
 | .nothing a=>a
def ah.aT (r:ah):List AV:=r.pairs.map fun p=>.ref p.2.adr
abbrev bK (num:Int) (h:Nat) (page:Int) (word:Str) (own:Option Str) (rw th:Nat):List (Str×AV):=
 [("is",.str "element"),("number",.int num),("head",.ref h),("page",.int page),("word",.str word),("own",ownA own),("row",.ref rw),("things",.ref th)]
def jy (word:Str) (own:Option Str):Prop:=(∀ s,own=some s->s.length<=3)/\PyData.strOk word=true
mutual
def Tr.Sp (σ:St):Tr->Prop
 | .elem a h num page word own its=>(∃ rw th,σ a=some (.dS (bK num h page word own rw th))/\σ rw=some (.list its.vals)/\σ th=some (.list its.aT))/\jy word own/\its.Sp σ
 | .obj a num=>σ a=some (.dS [("is",.str "object"),("number",.int num)])
 | .content a page num=>σ a=some (.dS [("is",.str "content"),("page",.int page),("number",.int num)])
 | .nothing a=>σ a=some (.dS [("is",.str "nothing")])
def ah.Sp (σ:St):ah->Prop
 | .nil=>True
 | .cons v t r=>t.Sp σ/\r.Sp σ
end
mutual
def Tr.dep:Tr->Nat
 | .elem _ _ _ _ _ _ its=>1+its.dep
 | _=>0
def ah.dep:ah->Nat
 | .nil=>0
 | .cons _ t r=>max t.dep r.dep
end
mutual
theorem Tr.Sp.ext {σ σ':St} (x:Ext σ σ'):∀ {t:Tr},t.Sp σ->t.Sp σ'
 | .elem a h num page word own its,hs=>by
  unfold Tr.Sp at hs ⊢;obtain⟨⟨rw,th,h1,h2,h3⟩,h4,h5⟩:=hs;exact⟨⟨rw,th,x _ _ h1,x _ _ h2,x _ _ h3⟩,h4,ah.Sp.ext x h5⟩
 | .obj a num,hs=>by unfold Tr.Sp at hs ⊢;exact x _ _ hs
 | .content a p m,hs=>by unfold Tr.Sp at hs ⊢;exact x _ _ hs
 | .nothing a,hs=>by unfold Tr.Sp at hs ⊢;exact x _ _ hs
theorem ah.Sp.ext {σ σ':St} (x:Ext σ σ'):∀ {r:ah},r.Sp σ->r.Sp σ'
 | .nil,hs=>by unfold ah.Sp;trivial
 | .cons v t r,hs=>by
  unfold ah.Sp at hs ⊢;exact⟨Tr.Sp.ext x hs.1,ah.Sp.ext x hs.2⟩
end
abbrev sb:Tr->Str
 | .elem _ _ _ _ _ _ _=>"element"
 | .obj _ _=>"object"
 | .content _ _ _=>"content"
 | .nothing _=>"nothing"
theorem Tr.Sp.is {σ:St} {t:Tr} (h:t.Sp σ):∃ l,σ t.adr=some (.dS l)/\atKey l "is"=some (.str (sb t)):=by
 cases t with
 | elem a h num page word own its=>
  unfold Tr.Sp at h;obtain⟨⟨rw,th,h1,_⟩,_⟩:=h;exact⟨_,h1,by rw[aj,if_pos rfl]⟩
 | obj a num=>unfold Tr.Sp at h;exact⟨_,h,by rw[aj,if_pos rfl]⟩
 | content a p m=>unfold Tr.Sp at h;exact⟨_,h,by rw[aj,if_pos rfl]⟩
 | nothing a=>unfold Tr.Sp at h;exact⟨_,h,by rw[aj,if_pos rfl]⟩
theorem dc {num:Int} {h:Nat} {page:Int} {word:Str} {own:Option Str} {rw th:Nat}:atKey (bK num h page word own rw th) "number"=some (.int num)/\atKey (bK num h page word own rw th) "head"=some (.ref h)/\atKey (bK num h page word own rw th) "page"=some (.int page)/\atKey (bK num h page word own rw th) "word"=some (.str word)/\atKey (bK num h page word own rw th) "own"=some (ownA own)/\atKey (bK num h page word own rw th) "row"=some (.ref rw)/\atKey (bK num h page word own rw th) "things"=some (.ref th):=by
 refine⟨?_,?_,?_,?_,?_,?_,?_⟩<;>rfl
def gj (e:Tr×Int×Int):AV:=.tup [.ref e.1.adr,.int e.2.1,.int e.2.2]
theorem lI (k:Nat):∀ (its:ah) (φ:St) (th:Nat) (d ab:Int) (F:List AV) (fl:Nat) (σ:St) (Q:AV->St->Prop) (E:St->Prop),its.dep<=k->its.Sp φ->φ th=some (.list its.aT)->φ fl=none->Ext φ σ->σ fl=some (.list F)->F.length+its.size<=100000->
  (∀ σ',Ext φ σ'->σ' fl=some (.list (F++(its.flat d ab F.length).map gj))->Q .none σ')->FF sa sl (n+k+1) 39 [.ref th,.int d,.int ab,.ref fl] Q E σ:=by
 induction k using Nat.strongRecOn with
 | ind k ih=>
  intro its φ th d ab F fl σ Q E hd hs hth hfl x hF hsz hQ;refine ao Law.f_law_flat rfl (by decide) rfl ?_;unfold runs Law.f_law_flat;simp? [x _ _ hth];have loop:∀ (r:ah),r.dep<=k->r.Sp φ->∀ (F:List AV) (σ:St) (s4:Option AV) (V:Fl×Frame->St->Prop),F.length+r.size<=100000->Ext φ σ->σ fl=some (.list F)->
    (∀ σ' s4,Ext φ σ'->σ' fl=some (.list (F++(r.flat d ab F.length).map gj))->V (.next,[some (.ref th),some (.int d),some (.int ab),some (.ref fl),s4]) σ')->
    forM (fun σ=>σ th=some (.list its.aT)) stopF (iy (FF sa sl (n+k)) [4] Law.B_law_flat_0) r.aT (.next,[some (.ref th),some (.int d),some (.int ab),some (.ref fl),s4]) V (fun _=>False) σ:=by
   intro r;induction r using ah.rec (motive_1:=fun _=>True) with
   | nil=>
    intro _ _ F σ s4 V _ x hF hV;exact⟨x _ _ hth,hV σ s4 x (by simpa [ah.flat] using hF)⟩
   | cons v t r _ wC=>
    intro hd hs F σ s4 V hsz x hF hV;unfold ah.dep at hd;unfold ah.Sp at hs;simp only[ah.size] at hsz;have hd2:r.dep<=k:=by omega
    have leaf:sb t≠"element"->t.flat d ab F.length=[]->forM (fun σ=>σ th=some (.list its.aT)) stopF (iy (FF sa sl (n+k)) [4] Law.B_law_flat_0) (ah.cons v t r).aT (.next,[some (.ref th),some (.int d),some (.int ab),some (.ref fl),s4]) V (fun _=>False) σ:=by
     intro hk he;refine aq (x _ _ hth) ?_;obtain⟨l,h1,h2⟩:=hs.1.is;unfold Law.B_law_flat_0;have hk':=beq_eq_false_iff_ne.mpr hk;simp? [x _ _ h1,h2,hk'];refine wC hd2 hs.2 F σ _ V (by omega) x hF fun σ' s4 x' sQ=>hV σ' s4 x' ?_;rw[sQ];simp [ah.flat,he]
    cases t with
    | elem a h num page word own aB=>
     have wD:1+aB.dep<=k:=by
      have:=hd;simp only[Tr.dep] at this;omega
     obtain⟨m,rfl⟩:∃ m,k=m+1:=⟨k - 1,by omega⟩;refine aq (x _ _ hth) ?_;have uF:=hs.1;unfold Tr.Sp at uF;obtain⟨⟨bT,cC,h1,h2,h3⟩,_,h4⟩:=uF;have e1:atKey (bK num h page word own bT cC) "is"=some (.str "element"):=by rw[aj,if_pos rfl]
     have e2:=(dc (num:=num) (h:=h) (page:=page) (word:=word) (own:=own) (rw:=bT) (th:=cC)).2.2.2.2.2.2;have ha:=x _ _ h1;have hne:a≠fl:=fun q=>by rw[q,hfl] at h1;cases h1
     simp only[Tr.size] at hsz;have pa:F.length<=1000000:=by omega
     have hl2:(F++[AV.tup [.ref a,.int d,.int ab]]).length<=1000000:=by rw[List.length_append,List.length_cons,List.length_nil];omega
     unfold Law.B_law_flat_0;simp? [show (Tr.elem a h num page word own aB).adr=a from rfl,ha,e1,hF,pa,ae hne,e2,hl2];have x1:Ext φ (put σ fl (.list (F++[AV.tup [.ref a,.int d,.int ab]]))):=fun b o hb=>by
      have:b≠fl:=fun q=>by rw[q,hfl] at hb;cases hb
      rw[ae this];exact x _ _ hb
     have e3:((F++[AV.tup [.ref a,.int d,.int ab]]).length:Int) - 1=(F.length:Int):=by rw[List.length_append,List.length_cons,List.length_nil];omega
     rw[e3];refine ih m (by omega) aB φ cC (d+1) F.length _ fl _ _ _ (by omega) h4 h3 hfl x1 af (by rw[List.length_append,List.length_cons,List.length_nil];omega) fun σ2 x2 zz=>?_;have e4:(F++[AV.tup [.ref a,.int d,.int ab]])++(aB.flat (d+1) F.length (F++[AV.tup [.ref a,.int d,.int ab]]).length).map gj=F++((Tr.elem a h num page word own aB).flat d ab F.length).map gj:=by
      rw[List.length_append,List.length_cons,List.length_nil];simp only[Tr.flat,List.map_cons,gj,Tr.adr,List.append_assoc,List.cons_append,List.nil_append,Nat.zero_add]
     rw[e4] at zz;have Dg:=aB.aI (d+1) F.length (F.length+1);refine wC hd2 hs.2 _ σ2 _ V (by rw[List.length_append,List.length_map];simp only[Tr.flat,List.length_cons];omega) x2 zz fun σ' s4 x' sQ=>hV σ' s4 x' ?_;rw[sQ,List.length_append,List.length_map];simp only[ah.flat,List.map_append,List.append_assoc]
    | obj a num=>exact leaf (show ("object":Str)≠"element" from by decide) rfl
    | content a p m=>exact leaf (show ("content":Str)≠"element" from by decide) rfl
    | nothing a=>exact leaf (show ("nothing":Str)≠"element" from by decide) rfl
   | _=>trivial
  refine loop its hd hs F σ none _ hsz x hF fun σ' s4 x' sQ=>?_;exact hQ σ' x' sQ
section
variable (T:Int->Int->Str)
mutual
def Tr.text:Tr->Str
 | .elem _ _ _ _ _ own its=>(match own with | some s=>s | none=>its.text)
 | .content _ p m=>T p m
 | _=>Str.empty
def ah.text:ah->Str
 | .nil=>Str.empty
 | .cons _ t r=>t.text++r.text
end
end
def oE (fG:List (List Int×AV)) (T:Int->Int->Str):Prop:=(∀ p m,(atKey fG [p,m]).getD (.str "")=.str (T p m)/\(T p m).length<=2)/\(fG.all fun e=>tkh e.1 != 0xFCA86420)=true
mutual
theorem Tr.text_len {σ:St} {T:Int->Int->Str} (hT:∀ p m,(T p m).length<=2):∀ {t:Tr},t.Sp σ->(t.text T).length<=3 * t.size
 | .elem a h num page word own its,hs=>by
  unfold Tr.Sp at hs;have:=ah.text_len hT hs.2.2;unfold Tr.text Tr.size;cases own with
  | none=>show (its.text T).length<=_;omega
  | some s=>have:=hs.2.1.1 s rfl;show s.length<=_;omega
 | .obj a num,hs=>by unfold Tr.text;show (0:Nat)<=_;omega
 | .content a p m,hs=>by have:=hT p m;unfold Tr.text Tr.size;omega
 | .nothing a,hs=>by unfold Tr.text;show (0:Nat)<=_;omega
theorem ah.text_len {σ:St} {T:Int->Int->Str} (hT:∀ p m,(T p m).length<=2):∀ {r:ah},r.Sp σ->(r.text T).length<=3 * r.size
 | .nil,hs=>by unfold ah.text;show (0:Nat)<=_;omega
 | .cons v t r,hs=>by
  unfold ah.Sp at hs;have h1:=Tr.text_len hT hs.1;have h2:=ah.text_len hT hs.2;unfold ah.text ah.size;rw[Str.length_append];omega
end
section
variable {T:Int->Int->Str}
theorem fM {tx:Nat} {fG:List (List Int×AV)} (hx:σ tx=some (.dT fG)) (hT:oE fG T) (k:Nat):∀ (a h:Nat) (num page:Int) (word:Str) (own:Option Str) (its:ah) (Q:AV->St->Prop) (E:St->Prop),its.dep<=k->its.size<=10000->(Tr.elem a h num page word own its).Sp σ->Q (.str ((Tr.elem a h num page word own its).text T)) σ->FF sa sl (n+k+1) 42 [.ref a,.ref tx] Q E σ:=by
 induction k using Nat.strongRecOn with
 | ind k ih=>
  intro a h num page word own its Q E hd hsz hs hQ;unfold Tr.Sp at hs;obtain⟨⟨bT,th,h1,h2,h3⟩,_,h4⟩:=hs;obtain⟨a1,a2,a3,a4,a5,a6,a7⟩:=dc (num:=num) (h:=h) (page:=page) (word:=word) (own:=own) (rw:=bT) (th:=th);refine ao Law.f_law_text rfl (by decide) rfl ?_;unfold runs Law.f_law_text;unfold Tr.text at hQ;cases own with
  | some s=>
   simp? [h1,a5];exact hQ
  | none=>
   simp? [h1,a5,a7,h3];have loop:∀ (r:ah),r.dep<=k->r.size<=10000->r.Sp σ->∀ (acc:Str) (s3:Option AV) (V:Fl×Frame->St->Prop),acc.length+3 * r.size<=100000->(∀ s3,V (.next,[some (.ref a),some (.ref tx),some (.str (acc++r.text T)),s3]) σ)->
     forM (fun σ=>σ th=some (.list its.aT)) stopF (iy (FF sa sl (n+k)) [3] Law.B_law_text_0) r.aT (.next,[some (.ref a),some (.ref tx),some (.str acc),s3]) V (fun _=>False) σ:=by
    intro r;induction r using ah.rec (motive_1:=fun _=>True) with
    | nil=>
     intro _ _ _ acc s3 V _ hV;refine⟨h3,?_⟩;have:=hV s3;unfold ah.text at this;rwa [Str.append_empty] at this
    | cons v t r _ wC=>
     intro hd hsz hs acc s3 V hacc hV;unfold ah.dep at hd;unfold ah.Sp at hs;simp only[ah.size] at hsz;unfold ah.text at hV;have d2:r.dep<=k:=by omega
     refine aq h3 ?_;obtain⟨l,q1,q2⟩:=hs.1.is;unfold Law.B_law_text_0;have tl:(t.text T).length<=3 * t.size:=Tr.text_len (fun p m=>(hT.1 p m).2) hs.1;have big:(1000000:Nat)<=sizeLine:=by decide
     simp only[ah.size] at hacc;have next:∀ s3,forM (fun σ=>σ th=some (.list its.aT)) stopF (iy (FF sa sl (n+k)) [3] Law.B_law_text_0) r.aT (.next,[some (.ref a),some (.ref tx),some (.str (acc++t.text T)),s3]) V (fun _=>False) σ:=fun s3=>
      wC d2 (by omega) hs.2 (acc++t.text T) s3 V (by rw[Str.length_append];omega) fun s3=>by rw[Str.append_assoc];exact hV s3
     have uF:=hs.1;cases t with
     | elem a2 xE lJ kJ vj xT aB=>
      have sf:atKey l "is"=some (.str "element"):=q2;have c1:(("element":Str)==("content":Str))=false:=by decide
      simp? [q1,sf,c1];have wD:1+aB.dep<=k:=by
       have:=hd;simp only[Tr.dep] at this;omega
      obtain⟨m,rfl⟩:∃ m,k=m+1:=⟨k - 1,by omega⟩;simp only[Tr.size] at hsz;refine ih m (by omega) a2 xE lJ kJ vj xT aB _ _ (by omega) (by omega) uF ?_;rw[eO];refine⟨by simp only[Tr.size] at hacc tl;omega,?_⟩;simp? [q1,sf,c1];exact next _
     | content a2 p m=>
      have sf:atKey l "is"=some (.str "content"):=q2;have c1:(("content":Str)==("element":Str))=false:=by decide
      unfold Tr.Sp at uF;have e1:some (AO.dS l)=some (AO.dS [("is",.str "content"),("page",.int p),("number",.int m)]):=by rw[<- q1,<- uF];rfl
      cases e1;have k1:atKey [(("is":Str),AV.str "content"),("page",.int p),("number",.int m)] "page"=some (.int p):=rfl;have k2:atKey [(("is":Str),AV.str "content"),("page",.int p),("number",.int m)] "number"=some (.int m):=rfl;have k3:=(hT.1 p m).1;simp? [q1,sf,c1,k1,k2,hx,qX hx (show allInt [.int p,.int m]=some [p,m] from rfl),k3];refine⟨by unfold Tr.text at tl;unfold Tr.size at tl;omega,?_⟩;exact next _
     | obj a2 m=>
      have sf:atKey l "is"=some (.str "object"):=q2;have c1:(("object":Str)==("element":Str))=false:=by decide
      have c2:(("object":Str)==("content":Str))=false:=by decide
      simp? [q1,sf,c1,c2];have:=next (some (.ref a2))
      unfold Tr.text at this;rw[Str.append_empty] at this;exact this
     | nothing a2=>
      have sf:atKey l "is"=some (.str "nothing"):=q2;have c1:(("nothing":Str)==("element":Str))=false:=by decide
      have c2:(("nothing":Str)==("content":Str))=false:=by decide
      simp? [q1,sf,c1,c2];have:=next (some (.ref a2))
      unfold Tr.text at this;rw[Str.append_empty] at this;exact this
    | _=>trivial
   refine loop its hd hsz h4 _ none _ (by show 0+_<=_;omega) fun s3=>?_;tb_start;rw[show ("":Str)++its.text T=its.text T from Str.empty_append _];exact hQ
end
noncomputable def iP (f:Str->Option Str) (w:Str):Str:=@Classical.epsilon Str ⟨Str.empty⟩ fun r=>RP f [] w r/\SP f w r
theorem dz {f:Str->Option Str} (hW:∀ s t,f s=some t->s∈aF) (w:Str):RP f [] w (iP f w)/\SP f w (iP f w):=Classical.epsilon_spec (lB hW w)
def gQ (page:Int):List (Int×Int)->Int
 | []=>page
 | c::_=>c.1
noncomputable def jz (f:Str->Option Str):Tr×Int×Int->AV
 | (.elem _ _ _ page word _ its,d,_)=>.tup [.int d,.str (iP f word),.int (gQ page its.bt),.tup (its.bt.map fun c=>.int c.2)]
 | _=>.none
def EV (σ:St) (es:List (Int×AV)) (o1 o2 o3:Int):Tr->Prop
 | .elem a h num page word own its=>cZ σ es o1 o2 o3 h page word own/\(∃ its',br h its its'/\aA σ es h its'.vals)/\its.Val σ es o1 o2 o3 page
 | _=>False
structure EI (σ:St) (es:List (Int×AV)) (o1 o2 o3:Int) (N K:Nat) (t:Tr):Prop where
 ev:EV σ es o1 o2 o3 t
 sp:t.Sp σ
 size:t.size<=N
 dep:t.dep<=K
theorem EI.ext (x:Ext σ σ') {t:Tr} (h:EI σ es o1 o2 o3 N K t):EI σ' es o1 o2 o3 N K t:=by
 obtain⟨h1,h2,h3,h4⟩:=h;refine⟨?_,h2.ext x,h3,h4⟩;cases t with
 | elem a h num page word own its=>
  obtain⟨q1,⟨its',q2,q3⟩,q4⟩:=h1;exact⟨q1.inc x (.refl _),⟨its',q2,q3.ext x⟩,q4.inc x (.refl _)⟩
 | _=>exact h1
mutual
theorem Tr.de:∀ {t:Tr} {home:Int} {v:AV},Tr.Val σ es o1 o2 o3 home v t->t.Sp σ->t.size<=N->t.dep<=K->∀ (d ab:Int) (n:Nat),∀ e∈t.flat d ab n,EI σ es o1 o2 o3 N K e.1
 | .elem a h num page word own its,home,v,hv,hs,hN,hK,d,ab,n,e,m=>by
  unfold Tr.flat at m;have hv':=hv;unfold Tr.Val at hv';rcases List.mem_cons.mp m with rfl | m
  ·exact⟨⟨hv'.2.2.1,hv'.2.2.2.1,hv'.2.2.2.2⟩,hs,hN,hK⟩
  ·have hs':=hs;unfold Tr.Sp at hs';unfold Tr.size at hN;unfold Tr.dep at hK;exact ah.de hv'.2.2.2.2 hs'.2.2 (by omega) (by omega) _ _ _ e m
 | .obj a num,_,_,_,_,_,_,_,_,_,e,m=>by unfold Tr.flat at m;cases m
 | .content a p q,_,_,_,_,_,_,_,_,_,e,m=>by unfold Tr.flat at m;cases m
 | .nothing a,_,_,_,_,_,_,_,_,_,e,m=>by unfold Tr.flat at m;cases m
theorem ah.de:∀ {r:ah} {home:Int},r.Val σ es o1 o2 o3 home->r.Sp σ->r.size<=N->r.dep<=K->∀ (d ab:Int) (n:Nat),∀ e∈r.flat d ab n,EI σ es o1 o2 o3 N K e.1
 | .nil,_,_,_,_,_,_,_,_,e,m=>by unfold ah.flat at m;cases m
 | .cons v t r,home,hv,hs,hN,hK,d,ab,n,e,m=>by
  unfold ah.flat at m;unfold ah.Val at hv;unfold ah.Sp at hs;unfold ah.size at hN;unfold ah.dep at hK;rcases List.mem_append.mp m with m | m
  ·exact Tr.de hv.1 hs.1 (by omega) (by omega) _ _ _ e m
  ·exact ah.de hv.2 hs.2 (by omega) (by omega) _ _ _ e m
end
theorem ah.Sp.mem:∀ {r:ah},r.Sp σ->∀ p∈r.pairs,p.2.Sp σ
 | .nil,_,p,m=>by cases m
 | .cons v t r,h,p,m=>by
  unfold ah.Sp at h;rcases List.mem_cons.mp m with rfl | m
  ·exact h.1
  ·exact h.2.mem p m
def dA (p:AV×Tr):Bool:=p.2.told.isSome
theorem oF (r:ah):r.bt=(r.pairs.filter dA).filterMap fun p=>p.2.told:=by
 unfold ah.bt;rw[List.filterMap_filter];congr;funext p;unfold dA;cases p.2.told<;>rfl
theorem pT {t:Tr} (h:t.Sp σ) (hc:t.told.isSome=true):∃ a p m,t=.content a p m/\t.told=some (p,m)/\σ a=some (.dS [("is",.str "content"),("page",.int p),("number",.int m)]):=by
 cases t with
 | content a p m=>unfold Tr.Sp at h;exact⟨a,p,m,rfl,rfl,h⟩
 | _=>cases hc
theorem jA {α β:Type} {p:α->Bool} {g:α->β}:∀ {l:List α},l.filterMap (fun x=>if p x=true then some (g x) else none)=(l.filter p).map g
 | []=>rfl
 | x::l=>by
  rw[List.filterMap_cons,List.filter_cons];cases h:p x with
  | false=>simpa using jA (l:=l)
  | true=>simpa using jA (l:=l)
theorem lK {a:Nat} {l:List (Str×AV)} {pg:Int} (ha:σ a=some (.dS l)) (hl:atKey l "page"=some (.int pg)) {cs:List (AV×Tr)} (hcs:∀ q∈cs,∃ a p m,q.2=.content a p m/\q.2.told=some (p,m)/\σ a=some (.dS [("is",.str "content"),("page",.int p),("number",.int m)])) {P:AV->St->Prop} (h:P (.int (gQ pg (cs.filterMap fun q=>q.2.told))) σ):
  (if decide (((cs.map fun q=>AV.ref q.2.adr).length:Int) >0)=true then mB (cs.map fun q=>AV.ref q.2.adr)[0]? fun v=>itemM v (.str "page") P E σ else cS (σ a) fun x=>mO x fun es=>mB (atKey es "page") fun v=>P v σ):=by
 cases cs with
 | nil=>
  rw[if_neg (by simp)];simp? [ha,hl];exact h
 | cons c0 cs=>
  obtain⟨a',p',m',e1,e2,e3⟩:=hcs c0 (.head _);rw[List.filterMap_cons,e2] at h;rw[if_pos (by simp only[List.map_cons,List.length_cons,decide_eq_true_eq];omega)];have k2:atKey [(("is":Str),AV.str "content"),("page",.int p'),("number",.int m')] "page"=some (.int p'):=rfl;simp? [show c0.2.adr=a' from by rw[e1];rfl,e3,k2];exact h
theorem fN {fl p:Nat} {pl:List (Str×AV)} (hp:σ p=some (.dS pl)) (hf:bp pl f) (hW:∀ s t,f s=some t->s∈aF) {L:List (Tr×Int×Int)} (hfl:σ fl=some (.list (L.map gj))) (hL:∀ e∈L,EI σ es o1 o2 o3 N K e.1) (hN:N<=1000) (hlen:L.length<=1000)
  (hQ:∀ b σ',Ext σ σ'->σ' b=some (.list (L.map (jz f)))->Q (.ref b) σ'):FF sa sl (n+3) 43 [.ref fl,.ref p] Q E σ:=by
 refine ao Law.f_law_rows rfl (by decide) rfl ?_;unfold runs Law.f_law_rows;tb_start;intro b hb;simp? [ae (fresh_ne hb hfl),hfl];have loop:∀ (L':List (Tr×Int×Int)) (acc:List AV) (σ1:St) (s3 s4 s5 s6 s7 s8 s9:Option AV) (V:Fl×Frame->St->Prop),(∀ e∈L',EI σ es o1 o2 o3 N K e.1)->acc.length+L'.length<=1000->Ext σ σ1->σ1 b=some (.list acc)->
   (∀ σ' s3 s4 s5 s6 s7 s8 s9,Ext σ σ'->σ' b=some (.list (acc++L'.map (jz f)))->V (.next,[some (.ref fl),some (.ref p),some (.ref b),s3,s4,s5,s6,s7,s8,s9]) σ')->
   forM (fun σ=>σ fl=some (.list (L.map gj))) stopF (iy (FF sa sl (n+2)) [3,4,5] Law.B_law_rows_0) (L'.map gj) (.next,[some (.ref fl),some (.ref p),some (.ref b),s3,s4,s5,s6,s7,s8,s9]) V (fun _=>False) σ1:=by
  intro L';induction L' with
  | nil=>intro acc σ1 s3 s4 s5 s6 s7 s8 s9 V _ _ x hb' hV;exact⟨x _ _ hfl,hV σ1 _ _ _ _ _ _ _ x (by simpa using hb')⟩
  | cons e L' ih=>
   intro acc σ1 s3 s4 s5 s6 s7 s8 s9 V hL hl x hb' hV;rw[List.length_cons] at hl;obtain⟨ev,sp,hsz,_⟩:=(hL e (.head _)).ext x;refine aq (x _ _ hfl) ?_;obtain⟨t,d,ab⟩:=e;cases t with
   | elem a h num page word own its=>
    have wF:=sp;unfold Tr.Sp at wF;obtain⟨⟨bT,th,h1,h2,h3⟩,_,h4⟩:=wF;obtain⟨a1,a2,a3,a4,a5,a6,a7⟩:=dc (num:=num) (h:=h) (page:=page) (word:=word) (own:=own) (rw:=bT) (th:=th);have iN:=its.pairs_len;have Br:its.size<=N:=by have:=hsz;unfold Tr.size at this;omega
    unfold gj;rw[xR];unfold Law.B_law_rows_0;simp? [show (Tr.elem a h num page word own its).adr=a from rfl,h1,a7,h3];unfold ah.aT;unfold ah.aT at h3;refine aU (σ:=σ1) (fun p:AV×Tr=>if dA p=true then some (.ref p.2.adr) else none) its.pairs (fun σ2 x2=>x2 _ _ h3) (by omega) (fun q m σ2 x2 K hK=>⟨_,rfl,?_⟩) fun σ2 x2 c hc=>?_
    ·obtain⟨l,q1,q2⟩:=(h4.mem q m).is;unfold cm cf;have:=hK σ2 (.refl _);unfold dA at this;simp? [x2 _ _ q1,q2];cases hq:q.2 with
     | content a p m=>rw[hq] at this;exact this
     | elem _ _ _ _ _ _ _=>rw[hq] at this;exact this
     | obj _ _=>rw[hq] at this;exact this
     | nothing _=>rw[hq] at this;exact this
    ·rw[jA];have hcs:∀ q∈its.pairs.filter dA,∃ a p m,q.2=.content a p m/\q.2.told=some (p,m)/\σ1 a=some (.dS [("is",.str "content"),("page",.int p),("number",.int m)]):=fun q m=>by
      rw[List.mem_filter] at m;exact pT (h4.mem q m.1) m.2
     have wG:=oF its;have hcl:=List.length_filter_le dA its.pairs;generalize its.pairs.filter dA=cs at hcs wG hcl ⊢;have x3:Ext σ1 (put σ2 c (.list (cs.map fun q=>.ref q.2.adr))):=x2.put hc;have uG:put σ2 c (.list (cs.map fun q=>.ref q.2.adr)) c=some (.list (cs.map fun q=>.ref q.2.adr)):=af;generalize put σ2 c (.list (cs.map fun q=>.ref q.2.adr))=σ3 at x3 uG ⊢;have vk:=x3 _ _ hb';have pb:(cs.map fun q:AV×Tr=>AV.ref q.2.adr).length<=1000000:=by rw[List.length_map];omega
     have hacc:acc.length<=1000000:=by omega
     refine⟨pb,lK (x3 _ _ h1) a3 (fun q m=>by
      obtain⟨a',p',m',e1,e2,e3⟩:=hcs q m;exact⟨a',p',m',e1,e2,x3 _ _ e3⟩) ?_⟩
     rw[<- wG];simp? [vk,x3 _ _ h1,a4];refine fL (x3 _ _ (x _ _ hp)) hf (dz hW word).2 ?_;simp? [uG];refine aU (σ:=σ3) (fun q:AV×Tr=>q.2.told.map fun c=>.int c.2) cs (fun σ4 x4=>x4 _ _ uG) (by omega) (fun q m σ4 x4 K hK=>⟨_,rfl,?_⟩) fun σ4 x4 g hg=>?_
     ·obtain⟨a',p',m',e1,e2,e3⟩:=hcs q m;unfold cm cf;have:=hK σ4 (.refl _);rw[e2] at this;have k2:atKey [(("is":Str),AV.str "content"),("page",.int p'),("number",.int m')] "number"=some (.int m'):=rfl;simp? [show q.2.adr=a' from by rw[e1];rfl,x4 _ _ (x3 _ _ e3),k2];exact this
     ·have e4:(cs.filterMap fun q:AV×Tr=>q.2.told.map fun c=>AV.int c.2)=its.bt.map fun c=>.int c.2:=by rw[wG,List.map_filterMap]
      rw[e4];have uC:(its.bt.map fun c=>AV.int c.2).length<=1000000:=by
       rw[List.length_map,wG];have:=List.length_filterMap_le (fun p:AV×Tr=>p.2.told) cs;omega
      have xU:b≠g:=fresh_ne hg (x4 _ _ vk);simp? [uC,ae xU,x4 _ _ vk,hacc];refine ih _ _ _ _ _ _ _ _ _ V (fun e m=>hL e (.tail _ m)) (by rw[List.length_append,List.length_cons,List.length_nil];omega) (fun q o hq=>?_) af fun σ' s3 s4 s5 s6 s7 s8 s9 x' hb'=>hV σ' _ _ _ _ _ _ _ x' (by rw[hb',List.append_assoc];rfl);have h1:q≠b:=fun z=>by rw[z,hb] at hq;cases hq
      rw[ae h1];exact ((x.trans x3).trans (x4.put hg)) _ _ hq
   | _=>exact ev.elim
 refine loop L [] _ none none none none none none none _ hL (by simpa using hlen) ((Ext.refl σ).put hb) af fun σ' s3 s4 s5 s6 s7 s8 s9 x' hb'=>?_;tb_start;exact hQ b σ' x' (by simpa using hb')
structure All (σ:St) (tb ax rt:Nat) (es:List (Int×AV)) (aJ:List (Str×AV)) (o1 o2 o3:Int) (f:Str->Option Str) (its:ah):Prop where
 shelf:bh σ tb ax es aJ rt
 zA:iM σ es aJ o1 o2 o3
 items:∃ its',br rt its its'/\aA σ es rt its'.vals
 val:its.Val σ es o1 o2 o3 (-1)
 sp:its.Sp σ
 nodup:its.nums.Nodup
 size:its.size<=390
 vm:∃ res,σ rt=some (.dS res)/\RM σ es res f
 words:∀ s t,f s=some t->s∈aF
theorem All.ext {its:ah} (x:Ext σ σ') (A:All σ tb ax rt es aJ o1 o2 o3 f its):All σ' tb ax rt es aJ o1 o2 o3 f its:=by
 obtain⟨h1,h2,⟨its',h3,h4⟩,h5,h6,h7,h8,⟨res,h9,h10⟩,h11⟩:=A;exact⟨h1.ext x,h2.ext x,⟨its',h3,h4.ext x⟩,h5.inc x (.refl _),h6.ext x,h7,h8,⟨res,x _ _ h9,h10.inc x (.refl _)⟩,h11⟩
theorem All.oG {its:ah} (A:All σ tb ax rt es aJ o1 o2 o3 f its) (hQ:∀ fa σ',Ext σ σ'->σ' fa=some (.list ((its.flat 0 (-1) 0).map cU))->Q (.ref fa) σ'):FF sa sl (n+5) 18 [ak tb ax] Q E σ:=by
 obtain⟨its',h3,h4⟩:=A.items;have:=A.size;exact fH A.shelf h3 h4 A.val.vi A.nodup (by omega) hQ
theorem All.flat {its:ah} (A:All σ tb ax rt es aJ o1 o2 o3 f its) (d ab:Int) (n:Nat):∀ e∈its.flat d ab n,EI σ es o1 o2 o3 390 its.dep e.1:=ah.de A.val A.sp A.size (Nat.le_refl _) d ab n
theorem jB {c a h pl:Nat} {hes:List (Str×AV)} {cs:List (Int×Int)} (hc:σ c=some (.list (cs.map sX))) (ha:σ a=none) (hh:σ h=some (.dS hes)) (hp:σ pl=some (.dI (aM o1 o2 o3))) (hv:iq σ (bB hes)) (dt:bR o1 o2 o3 (bB hes)=page) {P:AV->St->Prop} (hP:∀ σ2,Ext σ σ2->P (.int (gQ page cs)) σ2):
  cmpM .ne (.ref c) (.ref a) (fun t σ=>if t=true then itemM (.ref c) (.int 0) (fun x σ=>itemM x (.int 0) P E σ) E σ else FF sa sl (n+1) 20 [.ref h,.ref pl] P E σ) E (put σ a (.list [])):=by
 have x:Ext σ (put σ a (.list [])):=(Ext.refl σ).put ha;cases cs with
 | nil=>
  refine fW (x _ _ hc) af ?_;rw[if_neg (by decide)];refine bo (x _ _ hh) (x _ _ hp) (hv.ext x) ?_;rw[dt];exact hP _ x
 | cons q cs=>
  refine dM (x _ _ hc) af (by simp) ?_;rw[if_pos rfl];simp? [x _ _ hc];exact hP _ x
theorem lL {its:ah} (A:All σ tb ax rt es aJ o1 o2 o3 f its) {e:Tr×Int×Int} (I:EI σ es o1 o2 o3 390 K e.1) {pl b:Nat} (hp:σ pl=some (.dI (aM o1 o2 o3))) {acc:List AV} (hb:σ b=some (.list acc)) {φ:St} (xV:φ b=none) (x:Ext φ σ) (hacc:acc.length<=1000) {R:Fl×Frame->St->Prop} {s4 s5 s6:Option AV}
  (hR:∀ σ' s4 s5 s6,Ext φ σ'->σ' b=some (.list (acc++[jz f e]))->R (.next,[some (ak tb ax),some (.ref pl),some (.ref b),some (cU e),s4,s5,s6]) σ'):
  evSs (FF sa sl (n+8)) newM GG Law.B_structure_rows_0 [some (ak tb ax),some (.ref pl),some (.ref b),some (cU e),s4,s5,s6] R E σ:=by
 obtain⟨t,d,ab⟩:=e;obtain⟨ev,sp,hsz,_⟩:=I;cases t with
 | elem a h num page word own aB=>
  obtain⟨H,⟨its',hx,hi⟩,hV⟩:=ev;obtain⟨hes,h1,h2,h3,h4⟩:=id H;have pU:aB.size<=390:=by simp only[Tr.size] at hsz;omega
  unfold Law.B_structure_rows_0 cU;unfold cU at hR;dsimp only at hR;tb_start;refine fJ A.shelf hx hi hV h1 hp h2 h3 (by omega) fun c σ1 x1 hc=>?_;intro a ha;refine jB hc ha (x1 _ _ h1) (x1 _ _ hp) (h2.ext x1) h3 fun σ2 x2=>?_;have fF:=x1.trans x2;simp? [fF _ _ hb];obtain⟨res,xW,ti⟩:=A.vm;refine lF (n:=n+3) (A.shelf.ext fF) (fF _ _ xW) (ti.inc fF (.refl _)) (H.inc fF (.refl _)) (dz A.words word).1 fun σ3 x3=>?_;have uG:=x3 _ _ (x2 _ _ hc);simp? [uG];refine aU (σ:=σ3) (fun q:Int×Int=>some (.int q.2)) aB.bt (fun σ4 x4=>x4 _ _ uG) (by
   have:=List.length_filterMap_le (fun p:AV×Tr=>p.2.told) aB.pairs;have:=aB.pairs_len;unfold ah.bt;omega) (fun q m σ4 x4 K hK=>⟨_,rfl,?_⟩) fun σ4 x4 g hg=>?_
  ·unfold cm cf;tb_start;exact hK σ4 (.refl _)
  ·rw[show (fun q:Int×Int=>some (AV.int q.2))=(some ∘ fun q:Int×Int=>AV.int q.2) from rfl,List.filterMap_eq_map];have uC:(aB.bt.map fun q=>AV.int q.2).length<=1000000:=by
    have:=List.length_filterMap_le (fun p:AV×Tr=>p.2.told) aB.pairs;have:=aB.pairs_len;rw[List.length_map];unfold ah.bt;omega
   have xb:=(fF.trans x3).trans x4;have xU:b≠g:=fresh_ne hg (xb _ _ hb);have vn:acc.length<=1000000:=by omega
   simp? [uC,ae xU,xb _ _ hb,vn];refine hR _ _ _ _ (fun q o hq=>?_) af;have h1:q≠b:=fun z=>by rw[z,xV] at hq;cases hq
   rw[ae h1];exact (xb.put hg) _ _ (x _ _ hq)
 | _=>exact ev.elim
theorem lM {its:ah} (A:All σ tb ax rt es aJ o1 o2 o3 f its) (hQ:∀ b σ',Ext σ σ'->σ' b=some (.list ((its.flat 0 (-1) 0).map (jz f)))->Q (.ref b) σ'):FF sa sl (n+9) 24 [ak tb ax] Q E σ:=by
 refine ao Law.f_structure_rows rfl (by decide) rfl ?_;unfold runs Law.f_structure_rows;tb_start;refine cg A.shelf A.zA fun pl σ1 x1 hp=>?_;intro b hb;have x2:Ext σ (put σ1 b (.list [])):=x1.put hb;have hp2:put σ1 b (.list []) pl=some (.dI (aM o1 o2 o3)):=by rw[ae (fresh_ne hb hp)];exact hp
 have hb2:put σ1 b (.list []) b=some (.list []):=af;generalize put σ1 b (.list [])=σ2 at x2 hp2 hb2 ⊢;refine (A.ext x2).oG (n:=n+3) fun la σ3 x3 bA=>?_;simp? [bA];generalize hL:its.flat 0 (-1) 0=L at bA hQ ⊢;have hall:=A.flat 0 (-1) 0;have hlen:=its.aI 0 (-1) 0;have hsz:=A.size;rw[hL] at hall hlen;have xX:σ b=none:=x1.none hb;have loop:∀ (L':List (Tr×Int×Int)) (acc:List AV) (σ4:St) (s3 s4 s5 s6:Option AV) (V:Fl×Frame->St->Prop),(∀ e∈L',EI σ es o1 o2 o3 390 its.dep e.1)->(L'≠[]->la≠b)->acc.length+L'.length<=1000->Ext σ σ4->σ4 pl=some (.dI (aM o1 o2 o3))->σ4 la=some (.list (L.map cU))->σ4 b=some (.list acc)->
   (∀ σ' s3 s4 s5 s6,Ext σ σ'->σ' b=some (.list (acc++L'.map (jz f)))->V (.next,[some (ak tb ax),some (.ref pl),some (.ref b),s3,s4,s5,s6]) σ')->
   forM (fun σ=>σ la=some (.list (L.map cU))) stopF (iy (FF sa sl (n+8)) [3] Law.B_structure_rows_0) (L'.map cU) (.next,[some (ak tb ax),some (.ref pl),some (.ref b),s3,s4,s5,s6]) V (fun _=>False) σ4:=by
  intro L';induction L' with
  | nil=>intro acc σ4 s3 s4 s5 s6 V _ _ _ x _ hl hb' hV;exact⟨hl,hV σ4 _ _ _ _ x (by simpa using hb')⟩
  | cons e L' ih=>
   intro acc σ4 s3 s4 s5 s6 V hL zB hlen x iN hl hb' hV;rw[List.length_cons] at hlen;rw[List.map_cons];refine aq hl ?_;rw[iF];have xV:∀ c o,(fun c=>if c=b then none else σ4 c) c=some o->c≠b/\σ4 c=some o:=fun c o h=>by
    dsimp only at h;split at h
    ·cases h
    ·exact⟨by assumption,h⟩
   refine lL (φ:=fun c=>if c=b then none else σ4 c) (A.ext x) ((hL e (.head _)).ext x) iN hb' (if_pos rfl) (fun c o h=>(xV c o h).2) (by omega) fun σ5 s4 s5 s6 x5 Bs=>?_;have k5:∀ c o,c≠b->σ4 c=some o->σ5 c=some o:=fun c o hc h=>x5 _ _ (by show (if c=b then none else σ4 c)=some o;rw[if_neg hc];exact h);refine ih _ σ5 _ _ _ _ V (fun e m=>hL e (.tail _ m)) (fun _=>zB (by simp)) (by rw[List.length_append,List.length_cons,List.length_nil];omega) (fun c o h=>k5 c o (fun q=>by rw[q,xX] at h;cases h) (x _ _ h)) (k5 _ _ (fun q=>by rw[q,hb'] at iN;cases iN) iN) (k5 _ _ (zB (by simp)) hl) Bs fun σ' s3 s4 s5 s6 x' xY=>hV σ' _ _ _ _ x' (by rw[xY,List.append_assoc];rfl)
 refine loop L [] σ3 none none none none _ hall (fun hne q=>by
  have h3:=x3 _ _ hb2;rw[<- q,bA] at h3;cases L with
  | nil=>exact hne rfl
  | cons e L=>cases h3) (by rw[List.length_nil];omega) (x2.trans x3) (x3 _ _ hp2) bA (x3 _ _ hb2) fun σ' s3 s4 s5 s6 x' hb'=>?_
 tb_start;exact hQ b σ' x' (by simpa using hb')
def Tr.pf:Tr->Bool
 | .elem _ _ _ _ _ _ _=>true
 | _=>false
section
variable (T:Int->Int->Str)
def ah.fk:ah->List AV
 | .nil=>[]
 | .cons _ t r=>(if t.pf=true then [.str (t.text T)] else [])++r.fk
def kK (j:Int) (e:Tr×Int×Int):Option AV:=if e.2.2=j then some (.str (e.1.text T)) else none
end
def Tr.its:Tr->ah
 | .elem _ _ _ _ _ _ its=>its
 | _=>.nil
mutual
theorem Tr.cH (d ab:Int) (n:Nat):∀ (t:Tr),∀ (pre:List (Tr×Int×Int)) (e:Tr×Int×Int) (post:List (Tr×Int×Int)),t.flat d ab n=pre++e::post->e.2.2=ab\/((n:Int)<=e.2.2/\e.2.2 < (n:Int)+(pre.length:Int))
 | .elem a h num page word own its,pre,e,post,he=>by
  unfold Tr.flat at he;cases pre with
  | nil=>rw[List.nil_append] at he;cases he;exact .inl rfl
  | cons p pre=>
   rw[List.cons_append] at he;obtain⟨_,he⟩:=List.cons.inj he;rcases ah.cH (d+1) n (n+1) its pre e post he with h | h
   ·refine .inr ⟨by omega,?_⟩;rw[List.length_cons];omega
   ·refine .inr ⟨by omega,?_⟩;rw[List.length_cons];omega
 | .obj _ _,pre,e,post,he=>by unfold Tr.flat at he;cases pre<;>cases he
 | .content _ _ _,pre,e,post,he=>by unfold Tr.flat at he;cases pre<;>cases he
 | .nothing _,pre,e,post,he=>by unfold Tr.flat at he;cases pre<;>cases he
theorem ah.cH (d ab:Int) (n:Nat):∀ (r:ah),∀ (pre:List (Tr×Int×Int)) (e:Tr×Int×Int) (post:List (Tr×Int×Int)),r.flat d ab n=pre++e::post->e.2.2=ab\/((n:Int)<=e.2.2/\e.2.2 < (n:Int)+(pre.length:Int))
 | .nil,pre,e,post,he=>by unfold ah.flat at he;cases pre<;>cases he
 | .cons v t r,pre,e,post,he=>by
  unfold ah.flat at he;rw[List.append_eq_append_iff] at he;rcases he with ⟨as,h1,h2⟩ | ⟨bs,h1,h2⟩
  ·rcases ah.cH d ab (n+(t.flat d ab n).length) r as e post h2 with h | h
   ·exact .inl h
   ·refine .inr ⟨by omega,?_⟩;rw[h1,List.length_append];omega
  ·cases bs with
   | nil=>
    rw[List.append_nil] at h1;rcases ah.cH d ab (n+(t.flat d ab n).length) r [] e post (by rw[List.nil_append];exact h2.symm) with h | h
    ·exact .inl h
    ·rw[List.length_nil] at h;omega
   | cons b bs=>
    rw[List.cons_append] at h2;obtain⟨q1,q2⟩:=List.cons.inj h2;subst q1;exact Tr.cH d ab n t pre e bs h1
end
theorem ej {d ab:Int} {n:Nat} {r:ah} {e:Tr×Int×Int} (m:e∈r.flat d ab n):e.2.2=ab\/((n:Int)<=e.2.2/\e.2.2 < n+(r.flat d ab n).length):=by
 obtain⟨pre,post,h⟩:=List.append_of_mem m;rcases r.cH d ab n pre e post h with h' | h'
 ·exact .inl h'
 ·rw[h,List.length_append,List.length_cons];exact .inr ⟨h'.1,by omega⟩
theorem kL {T:Int->Int->Str} {j:Int} {L:List (Tr×Int×Int)} (h:∀ e∈L,e.2.2≠j):L.filterMap (kK T j)=[]:=by
 rw[List.filterMap_eq_nil_iff];intro e m;unfold kK;exact if_neg (h e m)
section
variable {T:Int->Int->Str}
theorem kM (d ab:Int):∀ (r:ah) (n:Nat),ab < n->(r.flat d ab n).filterMap (kK T ab)=r.fk T
 | .nil,_,_=>rfl
 | .cons v t r,n,hn=>by
  unfold ah.flat ah.fk;rw[List.filterMap_append,kM d ab r _ (by omega)];congr 1;cases t with
  | elem a h num page word own its=>
   unfold Tr.flat;rw[List.filterMap_cons];have e1:kK T ab (Tr.elem a h num page word own its,d,ab)=some (.str ((Tr.elem a h num page word own its).text T)):=if_pos rfl;rw[e1,kL (fun e m q=>by
    rcases ej m with h | h
    ·omega
    ·omega)]
   rfl
  | _=>rfl
mutual
theorem Tr.kt_at (d ab:Int) (n:Nat) (hn:ab < n):∀ (t:Tr),∀ (pre:List (Tr×Int×Int)) (e:Tr×Int×Int) (post:List (Tr×Int×Int)),t.flat d ab n=pre++e::post->post.filterMap (kK T (n+pre.length))=e.1.its.fk T
 | .elem a h num page word own its,pre,e,post,he=>by
  unfold Tr.flat at he;cases pre with
  | nil=>
   rw[List.nil_append] at he;obtain⟨h1,h2⟩:=List.cons.inj he;subst h1;rw[<- h2,List.length_nil];exact kM (d+1) n its (n+1) (by omega)
  | cons p pre=>
   rw[List.cons_append] at he;obtain⟨_,he⟩:=List.cons.inj he;have:=ah.kt_at (d+1) n (n+1) (by omega) its pre e post he;rw[List.length_cons];rw[show ((n:Int)+((pre.length+1:Nat):Int))=((n+1:Nat):Int)+pre.length from by omega];exact this
 | .obj _ _,pre,e,post,he=>by unfold Tr.flat at he;cases pre<;>cases he
 | .content _ _ _,pre,e,post,he=>by unfold Tr.flat at he;cases pre<;>cases he
 | .nothing _,pre,e,post,he=>by unfold Tr.flat at he;cases pre<;>cases he
theorem ah.kt_at (d ab:Int) (n:Nat) (hn:ab < n):∀ (r:ah),∀ (pre:List (Tr×Int×Int)) (e:Tr×Int×Int) (post:List (Tr×Int×Int)),r.flat d ab n=pre++e::post->post.filterMap (kK T (n+pre.length))=e.1.its.fk T
 | .nil,pre,e,post,he=>by unfold ah.flat at he;cases pre<;>cases he
 | .cons v t r,pre,e,post,he=>by
  unfold ah.flat at he;rw[List.append_eq_append_iff] at he;rcases he with ⟨as,h1,h2⟩ | ⟨bs,h1,h2⟩
  ·have:=ah.kt_at d ab (n+(t.flat d ab n).length) (by omega) r as e post h2;rw[h1,List.length_append];rw[show ((n:Int)+(((t.flat d ab n).length+as.length:Nat):Int))=((n+(t.flat d ab n).length:Nat):Int)+as.length from by omega];exact this
  ·cases bs with
   | nil=>
    rw[List.append_nil] at h1;have:=ah.kt_at d ab (n+(t.flat d ab n).length) (by omega) r [] e post (by rw[List.nil_append];exact h2.symm);rw[List.length_nil] at this;rw[<- h1];rw[show ((n:Int)+((t.flat d ab n).length:Int))=((n+(t.flat d ab n).length:Nat):Int)+((0:Nat):Int) from by omega];exact this
   | cons b bs=>
    rw[List.cons_append] at h2;obtain⟨q1,q2⟩:=List.cons.inj h2;subst q1;rw[q2,List.filterMap_append,Tr.kt_at d ab n hn t pre e bs h1];rw[kL (fun e' m q=>?_),List.append_nil];have:pre.length < (t.flat d ab n).length:=by rw[h1,List.length_append,List.length_cons];omega
    rcases ej m with h | h
    ·omega
    ·omega
end
end
theorem ah.jC {T:Int->Int->Str}:∀ (r:ah),joinS (r.pairs.map fun p=>p.2.text T)=r.text T:=by
 have h:∀ (l:List Str) (a:Str),l.foldl (· ++·) a=a++l.foldl (· ++·) Str.empty:=by
  intro l;induction l with
  | nil=>intro a;exact (Str.append_empty a).symm
  | cons x l ih=>
   intro a;rw[List.foldl_cons,List.foldl_cons,ih,ih (Str.empty++x),Str.empty_append,Str.append_assoc]
 intro r;induction r using ah.rec (motive_1:=fun _=>True) with
 | nil=>rfl
 | cons v t r _ ih=>
  unfold ah.text;rw[<- ih];show (t.text T::r.pairs.map fun p=>p.2.text T).foldl (· ++·) Str.empty=_;rw[List.foldl_cons,h,Str.empty_append];rfl
 | _=>trivial
theorem fq:∀ (l:List Str),allStr (l.map AV.str)=some l
 | []=>rfl
 | s::l=>by
  show (allStr (l.map AV.str)).map (s::·)=_;rw[fq l];rfl
def Kp (kl sg:Nat) (σ σ':St):Prop:=∀ b o,b≠kl->b≠sg->σ b=some o->σ' b=some o
theorem dE {T:Int->Int->Str}:∀ {r:ah},r.bw->r.text T=Str.empty/\r.fk T=[]
 | .nil,_=>⟨by unfold ah.text;rfl,rfl⟩
 | .cons v t r,⟨h1,h2⟩=>by
  cases t<;>first | exact h1.elim | skip
  obtain⟨e1,e2⟩:=dE (T:=T) h2;refine⟨?_,?_⟩
  ·unfold ah.text Tr.text;rw[e1];rfl
  ·unfold ah.fk;rw[e2];rfl
theorem kN {T:Int->Int->Str}:∀ {r:ah},∀ v∈r.fk T,∃ s,v=.str s
 | .nil,v,m=>by cases m
 | .cons w t r,v,m=>by
  unfold ah.fk at m;rcases List.mem_append.mp m with m | m
  ·split at m
   ·rw[List.mem_singleton] at m;exact⟨_,m⟩
   ·cases m
  ·exact kN v m
section
variable {T:Int->Int->Str}
theorem bb.bE {k:Nat} {v w:AV} (h:bb σ es k v w) (s:Str):v≠.str s:=by
 rintro rfl;cases h with
 | base h=>exact h
theorem av.bE {v:AV} {z:Str} (h:av σ es v z) (s:Str):v≠.str s:=by
 cases h with
 | content h _=>exact h.bE s
 | neg h _=>exact h.bE s
 | other h _ _ _=>exact h.bE s
 | dict h _ _ _=>exact h.bE s
theorem Tr.Val.bE {v:AV} {t:Tr} (h:Tr.Val σ es o1 o2 o3 home v t) (s:Str):v≠.str s:=by
 cases t with
 | elem a h' num page word own its=>unfold Tr.Val at h;exact h.2.1.bE s
 | _=>unfold Tr.Val at h;obtain⟨_,_,z,hz,_⟩:=h;exact hz.bE s
theorem ah.Val.bE:∀ {r:ah},r.Val σ es o1 o2 o3 home->∀ v∈r.vals,∀ s,v≠.str s
 | .nil,_,v,m,_=>by cases m
 | .cons w t r,h,v,m,s=>by
  unfold ah.Val at h;rcases List.mem_cons.mp m with rfl | m
  ·exact h.1.bE s
  ·exact h.2.bE v m s
theorem lO {h:Nat} {its its':ah} (hx:br h its its'):its'.text T=its.text T/\its'.fk T=its.fk T:=by
 rcases hx with rfl | ⟨rfl,hn⟩
 ·exact⟨rfl,rfl⟩
 ·obtain⟨e1,e2⟩:=dE (T:=T) hn;exact⟨by rw[e1];unfold ah.text;rfl,by rw[e2];rfl⟩
theorem pV {h:Nat} {its its':ah} (hx:br h its its') (hs:its.Sp σ):its'.Sp σ:=by
 rcases hx with rfl | ⟨rfl,hn⟩
 ·exact hs
 ·unfold ah.Sp;trivial
def ah.strs (T:Int->Int->Str) (r:ah):List Str:=r.pairs.map fun p=>p.2.text T
theorem fP {σ0:St} (S0:bh σ0 tb ax es aJ rt) {h pl tx kl:Nat} {hes:List (Str×AV)} {fG:List (List Int×AV)} {r d ab:AV} {its its':ah} (hx:br h its its') (hi:aA σ0 es h its'.vals) (hV:its.Val σ0 es o1 o2 o3 page) (hh:σ0 h=some (.dS hes)) (hv:iq σ0 (bB hes)) (dt:bR o1 o2 o3 (bB hes)=page) (hsz:its.size<=1000) (sp:its.Sp σ0) (lr:σ0 kl=none) (x:Ext σ0 σ)
  (hp:σ pl=some (.dI (aM o1 o2 o3))) (lP:σ tx=some (.dT fG)) (hT:oE fG T) (hk:σ kl=some (.list (its.fk T)))
  (hQ:∀ σ',(∀ b o,b≠kl->σ b=some o->σ' b=some o)->Q (.str (its.text T)) σ'):FF sa sl (n+5) 26 [ak tb ax,.inst 6 [r,.ref h,d,ab],.ref pl,.ref tx,.ref kl] Q E σ:=by
 obtain⟨rZ,_,_,hs'⟩:=fh hx hV;obtain⟨te,ee⟩:=lO (T:=T) hx;have wF:=pV hx sp;rw[<- ee] at hk;rw[<- te] at hQ;have hsz':its'.size<=1000:=by omega
 clear te ee hV sp hx hs' hsz;refine ao Law.f_gathered_text rfl (by decide) rfl ?_;unfold runs Law.f_gathered_text;tb_start;intro sg tj;have x1:Ext σ0 (put σ sg (.list [])):=x.put tj;have hne:kl≠sg:=fresh_ne tj hk;have si:put σ sg (.list []) kl=some (.list (its'.fk T)):=by rw[ae hne];exact hk
 refine bP (S0.ext x1) (hi.ext x1) fun b σ2 x2 hb=>?_;simp? [hb];have hb':its'.vals≠[]->b≠kl/\b≠sg:=fun hne=>by
  refine⟨fun q=>?_,fun q=>?_⟩
  ·have h1:=x2 _ _ si;rw[<- q,hb] at h1;cases hl:its'.vals with
   | nil=>exact hne hl
   | cons v l=>
    rw[hl] at h1;have m:v∈its'.fk T:=by
     have:=Option.some.inj h1;have:=AO.list.inj this;rw[<- this];exact .head _
    obtain⟨s,rfl⟩:=kN v m;exact rZ.bE _ (by rw[hl];exact .head _) s rfl
  ·have h1:=x2 _ _ (af (σ:=σ) (a:=sg) (o:=.list []));rw[<- q,hb] at h1;exact hne (AO.list.inj (Option.some.inj h1))
 have Bt:pl≠kl:=fun q=>by rw[q,hk] at hp;cases hp
 have Bu:tx≠kl:=fun q=>by rw[q,hk] at lP;cases lP
 have zC:pl≠sg:=fresh_ne tj hp;have zD:tx≠sg:=fresh_ne tj lP;have hp2:σ2 pl=some (.dI (aM o1 o2 o3)):=x2 _ _ (by rw[ae zC];exact hp);have xZ:σ2 tx=some (.dT fG):=x2 _ _ (by rw[ae zD];exact lP);have yb:σ0 sg=none:=x.none tj;have loop:∀ (r':ah),(r'.vals≠[]->b≠kl/\b≠sg)->r'.Val σ0 es o1 o2 o3 page->r'.Sp σ0->∀ (acc:List Str) (σ1:St) (s6:Option AV) (V:Fl×Frame->St->Prop),acc.length+r'.size<=1000->(acc.map fun y:Str=>y.length).sum+3 * r'.size<=100000->Ext σ0 σ1->Kp kl sg σ2 σ1->σ1 b=some (.list its'.vals)->σ1 sg=some (.list (acc.map AV.str))->σ1 kl=some (.list (r'.fk T))->
   (∀ σ' s6,Kp kl sg σ2 σ'->σ' sg=some (.list ((acc++r'.strs T).map AV.str))->((acc++r'.strs T).map fun y:Str=>y.length).sum<=100000->V (.next,[some (ak tb ax),some (.inst 6 [r,.ref h,d,ab]),some (.ref pl),some (.ref tx),some (.ref kl),some (.ref sg),s6]) σ')->
   forM (fun σ=>σ b=some (.list its'.vals)) stopF (iy (FF sa sl (n+4)) [6] Law.B_gathered_text_0) r'.vals (.next,[some (ak tb ax),some (.inst 6 [r,.ref h,d,ab]),some (.ref pl),some (.ref tx),some (.ref kl),some (.ref sg),s6]) V (fun _=>False) σ1:=by
  intro r';induction r' using ah.rec (motive_1:=fun _=>True) with
  | nil=>
   intro zE hV hs acc σ1 s6 V hl hl2 x kp hb1 lQ si rZ;exact⟨hb1,rZ σ1 s6 kp (by simpa [ah.strs,ah.pairs] using lQ) (by simp [ah.strs,ah.pairs,ah.size] at hl2 ⊢;omega)⟩
  | cons v t r' _ ih=>
   intro zE hV hs acc σ1 s6 V hl hl2 x kp hb1 lQ si Bv;obtain⟨bk,bs⟩:=zE (by simp [ah.vals]);unfold ah.Val at hV;unfold ah.Sp at hs;simp only[ah.size] at hl hl2;have hp1:=kp _ _ Bt zC hp2;have tm:=kp _ _ Bu zD xZ;have tl:=Tr.text_len (T:=T) (fun p m=>(hT.1 p m).2) hs.1;have Dh:1<=t.size:=by cases t<;>simp only[Tr.size]<;>omega
   have jb:(ah.cons v t r').strs T=t.text T::r'.strs T:=rfl;have wH:(acc.map AV.str).length<=1000000:=by rw[List.length_map];omega
   have ap:(acc.map AV.str)++[AV.str (t.text T)]=(acc++[t.text T]).map AV.str:=by rw[List.map_append];rfl
   have go:∀ σ3 s6,Ext σ0 σ3->Kp kl sg σ2 σ3->σ3 b=some (.list its'.vals)->σ3 sg=some (.list (acc.map AV.str))->σ3 kl=some (.list (r'.fk T))->forM (fun σ=>σ b=some (.list its'.vals)) stopF (iy (FF sa sl (n+4)) [6] Law.B_gathered_text_0) r'.vals (.next,[some (ak tb ax),some (.inst 6 [r,.ref h,d,ab]),some (.ref pl),some (.ref tx),some (.ref kl),some (.ref sg),s6]) V (fun _=>False) (put σ3 sg (.list ((acc.map AV.str)++[AV.str (t.text T)]))):=by
    intro σ3 s6 x3 k3 b3 g3 l3;refine ih (fun _=>⟨bk,bs⟩) hV.2 hs.2 (acc++[t.text T]) _ _ V (by rw[List.length_append,List.length_cons,List.length_nil];omega) (by rw[List.map_append,List.sum_append];simp only[List.map_cons,List.map_nil,List.sum_cons,List.sum_nil];omega) (fun c o hc=>?_) (fun c o h1 h2 hc=>?_) ?_ ?_ ?_ fun σ' s6 k' g' l'=>?_
    ·have:c≠sg:=fun q=>by rw[q,yb] at hc;cases hc
     rw[ae this];exact x3 _ _ hc
    ·rw[ae h2];exact k3 _ _ h1 h2 hc
    ·rw[ae bs];exact b3
    ·rw[af,ap]
    ·rw[ae hne];exact l3
    ·refine Bv σ' s6 k' ?_ ?_
     ·rw[g',jb,List.append_assoc];rfl
     ·rw[jb];rw[List.append_assoc] at l';exact l'
   refine aq hb1 ?_;rw[iF];unfold Law.B_gathered_text_0;cases t with
   | elem a2 h2 num kJ word own aB=>
    have hv1:=hV.1;unfold Tr.Val at hv1;tb_start;refine aK (x _ _ S0.tab) (hv1.2.1.ext x) fun σ3 x3=>?_;have g3:=x3 _ _ lQ;have l3:=x3 _ _ si;have el:(ah.cons v (Tr.elem a2 h2 num kJ word own aB) r').fk T=.str ((Tr.elem a2 h2 num kJ word own aB).text T)::r'.fk T:=rfl;rw[el] at l3;have tn:(r'.fk T).length<=1000000:=by
     have:∀ r:ah,(r.fk T).length<=r.size:=by
      intro r;induction r using ah.rec (motive_1:=fun _=>True) with
      | nil=>exact Nat.le_refl _
      | cons v t r _ ih=>
       have:1<=t.size:=by cases t<;>simp only[Tr.size]<;>omega
       unfold ah.fk ah.size;rw[List.length_append];split
       ·simp only[List.length_cons,List.length_nil];omega
       ·simp only[List.length_nil];omega
      | _=>trivial
     have:=this r';omega
    simp? [g3,l3,sJ l3 tn,ae (Ne.symm hne),wH];refine go (put σ3 kl (.list (r'.fk T))) _ (fun c o hc=>?_) (fun c o h1 h2 hc=>?_) ?_ ?_ af
    ·have:c≠kl:=fun q=>by rw[q,lr] at hc;cases hc
     rw[ae this];exact x3 _ _ (x _ _ hc)
    ·rw[ae h1];exact x3 _ _ (kp _ _ h1 h2 hc)
    ·rw[ae bk];exact x3 _ _ hb1
    ·rw[ae (Ne.symm hne)];exact g3
   | content a2 p m=>
    have hv1:=hV.1;unfold Tr.Val at hv1;obtain⟨z,vo,vp⟩:=hv1.2.2;have oH:=beq_eq_false_iff_ne.mpr vp;tb_start;refine aK (x _ _ S0.tab) (vo.ext x) fun σ3 x3=>?_;have g3:=x3 _ _ lQ;have sj:=x3 _ _ tm;have fQ:=x.trans x3;simp? [oH,g3,sj,bN];refine bJ (fQ _ _ S0.tab) (fQ _ _ hh) (x3 _ _ hp1) (hv.ext fQ) dt (hv1.1.inc fQ (.refl _)) fun σ4 x4=>?_;have vq:=x4 _ _ sj;have g4:=x4 _ _ g3;simp? [qX vq (show allInt [.int p,.int m]=some [p,m] from rfl),(hT.1 p m).1,g4,wH];exact go σ4 _ (fQ.trans x4) (fun c o h1 h2 hc=>x4 _ _ (x3 _ _ (kp _ _ h1 h2 hc))) (x4 _ _ (x3 _ _ hb1)) g4 (x4 _ _ (x3 _ _ si))
   | obj a2 m=>
    have hv1:=hV.1;unfold Tr.Val at hv1;obtain⟨z,vo,vp⟩:=hv1.2.2;have oH:=beq_eq_false_iff_ne.mpr vp;tb_start;refine aK (x _ _ S0.tab) (vo.ext x) fun σ3 x3=>?_;have g3:=x3 _ _ lQ;have sj:=x3 _ _ tm;have fQ:=x.trans x3;simp? [oH,g3,sj,bN];refine bJ (fQ _ _ S0.tab) (fQ _ _ hh) (x3 _ _ hp1) (hv.ext fQ) dt (hv1.1.inc fQ (.refl _)) fun σ4 x4=>?_;have vq:=x4 _ _ sj;have g4:=x4 _ _ g3;simp? [qY vq hT.2,g4,wH];exact go σ4 _ (fQ.trans x4) (fun c o h1 h2 hc=>x4 _ _ (x3 _ _ (kp _ _ h1 h2 hc))) (x4 _ _ (x3 _ _ hb1)) g4 (x4 _ _ (x3 _ _ si))
   | nothing a2=>
    have hv1:=hV.1;unfold Tr.Val at hv1;obtain⟨z,vo,vp⟩:=hv1.2.2;have oH:=beq_eq_false_iff_ne.mpr vp;tb_start;refine aK (x _ _ S0.tab) (vo.ext x) fun σ3 x3=>?_;have g3:=x3 _ _ lQ;have sj:=x3 _ _ tm;have fQ:=x.trans x3;simp? [oH,g3,sj,bN];refine bJ (fQ _ _ S0.tab) (fQ _ _ hh) (x3 _ _ hp1) (hv.ext fQ) dt (hv1.1.inc fQ (.refl _)) fun σ4 x4=>?_;have vq:=x4 _ _ sj;have g4:=x4 _ _ g3;simp? [qY vq hT.2,g4,wH];exact go σ4 _ (fQ.trans x4) (fun c o h1 h2 hc=>x4 _ _ (x3 _ _ (kp _ _ h1 h2 hc))) (x4 _ _ (x3 _ _ hb1)) g4 (x4 _ _ (x3 _ _ si))
  | _=>trivial
 refine loop its' hb' rZ wF [] σ2 none _ (by rw[List.length_nil];omega) (by simp;omega) (x1.trans x2) (fun c o _ _ hc=>hc) hb (x2 _ _ af) (x2 _ _ si) fun σ' s6 k' g' l'=>?_;rw[List.nil_append] at g' l';tb_start;rw[eI (s:="") (by decide) g' (fq _) (by omega)];unfold ah.strs;rw[ah.jC];exact hQ σ' fun c o hc h=>k' _ _ hc (fresh_ne tj h) (x2 _ _ (by rw[ae (fresh_ne tj h)];exact h))
end
def gk (T:Int->Int->Str) (e:Tr×Int×Int):AV:=.str (e.1.text T)
theorem iQ {α:Type} {a:α}:∀ n:Nat,(List.replicate n [a]).flatten=List.replicate n a
 | 0=>rfl
 | n+1=>by rw[List.replicate_succ,List.flatten_cons,iQ n,List.replicate_succ];rfl
section
variable {T:Int->Int->Str}
theorem ew {σ0:St} {la:Nat} {xs:List AV} (bA:σ0 la=some (.list xs)) {ρ:Frame} {V:List AV->St->Prop}:∀ (ys:List AV) (acc:List Nat) (σ:St),acc.length+ys.length<=1000->Ext σ0 σ->acc.Nodup->(∀ k∈acc,σ0 k=none/\σ k=some (.list []))->
  (∀ (ks:List Nat) σ',ks.length=acc.length+ys.length->Ext σ0 σ'->ks.Nodup->(∀ k∈ks,σ0 k=none/\σ' k=some (.list []))->V (ks.map AV.ref) σ')->
  forM (fun σ=>σ la=some (.list xs)) (fun _=>ret false) (compF [8] ρ (cm (FF sa sl n) .nil) (cf (FF sa sl n) (.list .nil))) ys (acc.map AV.ref) V E σ
 | [],acc,σ,_,x,nd,hk,hV=>⟨x _ _ bA,hV acc σ (by simp) x nd hk⟩
 | y::ys,acc,σ,hl,x,nd,hk,hV=>by
  rw[List.length_cons] at hl;refine ay (x _ _ bA) rfl ?_;unfold cm cf;tb_start;intro a ha;refine⟨by rw[List.length_map];omega,?_⟩;have e:acc.map AV.ref++[AV.ref a]=(acc++[a]).map AV.ref:=by rw[List.map_append];rfl
  rw[e];refine ew bA ys (acc++[a]) _ (by rw[List.length_append,List.length_cons,List.length_nil];omega) (x.put ha) ?_ ?_ ?_
  ·rw[List.nodup_append];refine⟨nd,by simp,fun p hp q hq=>?_⟩;rw[List.mem_singleton] at hq;intro z;have:=(hk p hp).2;rw[z,hq,ha] at this;cases this
  ·intro k m;rcases List.mem_append.mp m with m | m
   ·exact⟨(hk k m).1,by rw[ae (fresh_ne ha (hk k m).2)];exact (hk k m).2⟩
   ·rw[List.mem_singleton] at m;subst m;exact⟨x.none ha,af⟩
  ·intro ks σ' h1;exact hV ks σ' (by rw[h1,List.length_append,List.length_cons,List.length_nil,List.length_cons];omega)
def oI:PSs:=(.cons (.ite (.cmp .ge (.attr (.item (.loc 3) (.loc 6)) 8) (.int 0)) (.cons (.expr (.meth 3 (.item (.loc 5) (.attr (.item (.loc 3) (.loc 6)) 8)) (.cons (.int 0) (.cons (.item (.loc 4) (.loc 6)) .nil)))) .nil) .nil) .nil)
theorem yc:Law.B_element_texts_0=.cons (.asg (.loc 7) (.call 25 (.cons (.loc 0) (.cons (.item (.loc 3) (.loc 6)) .nil))))
  (.cons (.asg (.sub (.loc 4) (.loc 6)) (.ite (.cmp .is (.loc 7) .none) (.call 26 (.cons (.loc 0) (.cons (.item (.loc 3) (.loc 6)) (.cons (.loc 2) (.cons (.loc 1) (.cons (.item (.loc 5) (.loc 6)) .nil)))))) (.loc 7))) oI):=rfl
structure TX (σ0:St) (la fo kr pl tx:Nat) (L:List (Tr×Int×Int)) (ks:List Nat) (o1 o2 o3:Int) (fG:List (List Int×AV)) (T:Int->Int->Str) (i:Nat) (post:List (Tr×Int×Int)) (σ:St):Prop where
 ext:Ext σ0 σ
 rows:σ la=some (.list (L.map cU))
 found:σ fo=some (.list (List.replicate i (.str "")++post.map (gk T)))
 kids:σ kr=some (.list (ks.map AV.ref))
 pl:σ pl=some (.dI (aM o1 o2 o3))
 tx:σ tx=some (.dT fG)
 kl:∀ j k,j < i->ks[j]? =some k->σ k=some (.list (post.filterMap (kK T j)))
theorem jD {σ0:St} {its:ah} (A:All σ0 tb ax rt es aJ o1 o2 o3 f its) {la fo kr pl tx:Nat} {ks:List Nat} {fG:List (List Int×AV)} (hT:oE fG T) (vr:ks.Nodup) (vt:∀ k∈ks,σ0 k=none/\k≠la/\k≠fo/\k≠kr) (uH:σ0 fo=none) (hfl:fo≠la/\fo≠kr) {i:Nat} {pre post:List (Tr×Int×Int)} {e:Tr×Int×Int} (hL:its.flat 0 (-1) 0=pre++e::post) (hi:pre.length=i) (lr:ks.length=(its.flat 0 (-1) 0).length) {R:Fl×Frame->St->Prop} {s7 s8:Option AV}
  (hR:∀ σ' s7 s8,TX σ0 la fo kr pl tx (its.flat 0 (-1) 0) ks o1 o2 o3 fG T i (e::post) σ'->R (.next,[some (ak tb ax),some (.ref tx),some (.ref pl),some (.ref la),some (.ref fo),some (.ref kr),some (.int i),s7,s8]) σ')
  {σ:St} (X:TX σ0 la fo kr pl tx (its.flat 0 (-1) 0) ks o1 o2 o3 fG T (i+1) post σ):
  evSs (FF sa sl (n+8)) newM GG Law.B_element_texts_0 [some (ak tb ax),some (.ref tx),some (.ref pl),some (.ref la),some (.ref fo),some (.ref kr),some (.int i),s7,s8] R E σ:=by
 have sk:=its.aI 0 (-1) 0;have hsz:=A.size;have he:e∈its.flat 0 (-1) 0:=by rw[hL];exact List.mem_append_right _ (.head _)
 have hab:=its.cH 0 (-1) 0 pre e post hL;have zF:=its.kt_at (T:=T) 0 (-1) 0 (by decide) pre e post hL;obtain⟨ev,sp,ft,_⟩:=A.flat 0 (-1) 0 e he;have Di:(its.flat 0 (-1) 0).length=i+1+post.length:=by rw[hL,List.length_append,List.length_cons];omega
 generalize its.flat 0 (-1) 0=L at *;obtain⟨ki,wI⟩:∃ k,ks[i]? =some k:=⟨ks[i]'(by omega),List.getElem?_eq_getElem (by omega)⟩;have lR:(L.map cU)[((i:Nat):Int).toNat]? =some (cU e):=by
  rw[Int.toNat_natCast,List.getElem?_map,hL,List.getElem?_append_right (by omega),hi,Nat.sub_self];rfl
 have yd:(ks.map AV.ref)[((i:Nat):Int).toNat]? =some (.ref ki):=by
  rw[Int.toNat_natCast,List.getElem?_map,wI];rfl
 have ot:(0:Int)<=(i:Int)/\(i:Int) < 1152921504606846976:=by omega
 obtain⟨t,d,ab⟩:=e;cases t with
 | elem a h num page word own aB=>
  obtain⟨H,⟨its',hx,uB⟩,hV⟩:=ev;obtain⟨hes,h1,h2,h3,h4⟩:=id H;have pU:aB.size<=390:=by simp only[Tr.size] at ft;omega
  replace lR:(L.map cU)[((i:Nat):Int).toNat]? =some (.inst 6 [if 0 < num then ai num else .none,.ref h,.int d,.int ab]):=lR;have ye:ki∈ks:=List.mem_of_getElem? wI;obtain⟨k0,k1,k2,k3⟩:=vt ki ye;have wJ:=X.kl i ki (by omega) wI;have zG:=sp;unfold Tr.Sp at zG;rw[hi,show ((0:Nat):Int)+(i:Int)=(i:Int) from by omega] at zF;have yf:post.filterMap (kK T i)=aB.fk T:=zF;rw[yf] at wJ;have lay:∀ (σ1:St) (s7:Option AV),(∀ b o,b≠ki->σ b=some o->σ1 b=some o)->evSs (FF sa sl (n+8)) newM GG oI [some (ak tb ax),some (.ref tx),some (.ref pl),some (.ref la),some (.ref fo),some (.ref kr),some (.int i),s7,s8] R E (put σ1 fo (.list ((List.replicate (i+1) (AV.str "")++post.map (gk T)).set i (.str ((Tr.elem a h num page word own aB).text T))))):=by
   intro σ1 s7 k;have hset:(List.replicate (i+1) (AV.str "")++post.map (gk T)).set i (.str ((Tr.elem a h num page word own aB).text T))=List.replicate i (AV.str "")++((Tr.elem a h num page word own aB,d,ab)::post).map (gk T):=by
    rw[List.replicate_succ',List.append_assoc,List.set_append_right _ _ (by rw[List.length_replicate];exact Nat.le_refl _),List.length_replicate,Nat.sub_self];rfl
   rw[hset];have Bw:=k _ _ (Ne.symm k1) X.rows;have Bx:=k _ _ (Ne.symm k3) X.kids;generalize oJ:put σ1 fo (.list (List.replicate i (AV.str "")++((Tr.elem a h num page word own aB,d,ab)::post).map (gk T)))=σ2;have wK:σ2 la=some (.list (L.map cU)):=by rw[<- oJ,ae (Ne.symm hfl.1)];exact Bw
   have yg:σ2 kr=some (.list (ks.map AV.ref)):=by rw[<- oJ,ae (Ne.symm hfl.2)];exact Bx
   have uI:σ2 fo=some (.list (List.replicate i (AV.str "")++((Tr.elem a h num page word own aB,d,ab)::post).map (gk T))):=by rw[<- oJ,af]
   have keep:∀ b o,b≠ki->b≠fo->σ b=some o->σ2 b=some o:=fun b o q1 q2 hb=>by rw[<- oJ,ae q2];exact k _ _ q1 hb
   have x2:Ext σ0 σ2:=fun b o hb=>keep b o (fun q=>by rw[q,k0] at hb;cases hb) (fun q=>by rw[q,uH] at hb;cases hb) (X.ext _ _ hb);have wL:σ2 pl=some (.dI (aM o1 o2 o3)):=keep _ _ (fun q=>by have:=X.pl;rw[q,wJ] at this;cases this) (fun q=>by have:=X.pl;rw[q,X.found] at this;cases this) X.pl;have wM:σ2 tx=some (.dT fG):=keep _ _ (fun q=>by have:=X.tx;rw[q,wJ] at this;cases this) (fun q=>by have:=X.tx;rw[q,X.found] at this;cases this) X.tx;have sq:∀ j k,j < i->ks[j]? =some k->k≠ki/\k≠fo/\k≠la/\k≠kr:=fun j k hj hk=>by
    have m:=List.mem_of_getElem? hk;obtain⟨_,m1,m2,m3⟩:=vt k m;refine⟨fun q=>?_,m2,m1,m3⟩;subst q;have:=(List.getElem?_inj (by omega) vr).mp (hk.trans wI.symm);omega
   have vv:∀ j k,j < i->ks[j]? =some k->σ2 k=some (.list (post.filterMap (kK T j))):=fun j k hj hk=>by
    obtain⟨q1,q2,_⟩:=sq j k hj hk;exact keep _ _ q1 q2 (X.kl j k (by omega) hk)
   clear oJ;unfold oI;have c7:fieldAt (fieldsOf 6) [if 0 < num then ai num else AV.none,.ref h,.int d,.int ab] 8=some (.int ab):=rfl;simp? [wK,lR,ot,c7];have zH:∀ j:Nat,((Tr.elem a h num page word own aB,d,ab)::post).filterMap (kK T j)=(if ab=j then [.str ((Tr.elem a h num page word own aB).text T)] else [])++post.filterMap (kK T j):=fun j=>by
    rw[List.filterMap_cons];unfold kK;by_cases q:ab=(j:Int)
    ·simp [q]
    ·simp [q]
   by_cases yh:(0:Int)<=ab
   ·have hlt:ab < i:=by
     rcases hab with q | q
     ·have q':ab=-1:=q;omega
     ·have:=q.2;simp only at this;omega
    obtain⟨m,rfl⟩:∃ m:Nat,ab=m:=⟨ab.toNat,by omega⟩;have hm:m < i:=by omega
    obtain⟨km,pW⟩:∃ k,ks[m]? =some k:=⟨ks[m]'(by omega),List.getElem?_eq_getElem (by omega)⟩;have vw:(ks.map AV.ref)[((m:Nat):Int).toNat]? =some (.ref km):=by
     rw[Int.toNat_natCast,List.getElem?_map,pW];rfl
    have wN:(0:Int)<=(m:Int)/\(m:Int) < 1152921504606846976:=by omega
    obtain⟨d1,d2,d3,d4⟩:=sq m km hm pW;have zI:(List.replicate i (AV.str "")++((Tr.elem a h num page word own aB,(d:Int),(m:Int))::post).map (gk T))[((i:Nat):Int).toNat]? =some (.str ((Tr.elem a h num page word own aB).text T)):=by
     rw[Int.toNat_natCast,List.getElem?_append_right (by rw[List.length_replicate];exact Nat.le_refl _),List.length_replicate,Nat.sub_self];rfl
    have yi:=uI;generalize List.replicate i (AV.str "")++((Tr.elem a h num page word own aB,(d:Int),(m:Int))::post).map (gk T)=F2 at uI zI;have yj:(post.filterMap (kK T m)).length<=1000000:=by
     have:=List.length_filterMap_le (kK T m) post;omega
    have hge:((m:Int)>=0):=wN.1;simp? [hge,wK,lR,ot,c7,yg,vw,wN,uI,zI,vv m km hm pW,yj];refine hR _ _ _ ⟨fun b o hb=>?_,?_,?_,?_,?_,?_,?_⟩
    ·have:b≠km:=fun q=>by rw[q,(vt km (List.mem_of_getElem? pW)).1] at hb;cases hb
     rw[ae this];exact x2 _ _ hb
    ·rw[ae (Ne.symm d3)];exact wK
    ·rw[ae (Ne.symm d2)];exact yi
    ·rw[ae (Ne.symm d4)];exact yg
    ·rw[ae (fun q=>by rw[q,vv m km hm pW] at wL;cases wL)];exact wL
    ·rw[ae (fun q=>by rw[q,vv m km hm pW] at wM;cases wM)];exact wM
    ·intro j k hj hk;rw[zH];by_cases q:j=m
     ·subst q;rw[hk] at pW;cases pW;rw[if_pos rfl,af];rfl
     ·have:k≠km:=fun z=>by
       subst z;have:=(List.getElem?_inj (by omega) vr).mp (hk.trans pW.symm);omega
      rw[if_neg (by omega),List.nil_append,ae this];exact vv j k hj hk
   ·have hge:¬ ab>=0:=yh;simp? [hge];refine hR _ _ _ ⟨x2,wK,uI,yg,wL,wM,fun j k hj hk=>?_⟩;rw[zH,if_neg (by omega),List.nil_append];exact vv j k hj hk
  have hlen:i < (List.replicate (i+1) (AV.str "")++post.map (gk T)).length:=by rw[List.length_append,List.length_replicate];omega
  have yk:(0:Int)<=(i:Int)/\(i:Int) < 1152921504606846976/\((i:Nat):Int).toNat < (List.replicate (i+1) (AV.str "")++post.map (gk T)).length:=⟨ot.1,ot.2,by rw[Int.toNat_natCast];exact hlen⟩;have tq:∀ (σ1:St) (s7:Option AV),(∀ b o,b≠ki->σ b=some o->σ1 b=some o)->_:=lay;clear lay;have zJ:=X.found;generalize List.replicate (i+1) (AV.str "")++post.map (gk T)=F1 at hlen yk tq zJ;rw[yc];simp? [X.rows,lR,ot];refine oC (n:=n+5) (X.ext _ _ A.shelf.tab) (H.inc X.ext (.refl _)) fun σ1 x1=>?_;have vx:=x1 _ _ X.rows;have zK:=x1 _ _ zJ;have vy:=x1 _ _ X.kids;cases own with
  | some s=>
   simp? [zK,yk];exact tq σ1 (some (.str s)) fun b o _ hb=>x1 _ _ hb
  | none=>
   simp? [vx,lR,ot,vy,yd];refine fP (n:=n+3) A.shelf hx uB hV h1 h2 h3 (by omega) zG.2.2 k0 (X.ext.trans x1) (x1 _ _ X.pl) (x1 _ _ X.tx) hT (x1 _ _ wJ) fun σ2 zL=>?_;have uI:=zL _ _ (Ne.symm k2) zK;simp? [uI,yk];exact tq σ2 (some .none) fun b o q hb=>zL _ _ q (x1 _ _ hb)
 | _=>exact ev.elim
theorem jE {its:ah} (A:All σ tb ax rt es aJ o1 o2 o3 f its) {tx:Nat} {fG:List (List Int×AV)} (lP:σ tx=some (.dT fG)) (hT:oE fG T) (hQ:∀ b σ',Ext σ σ'->σ' b=some (.list ((its.flat 0 (-1) 0).map (gk T)))->Q (.ref b) σ'):FF sa sl (n+9) 27 [ak tb ax,.ref tx] Q E σ:=by
 refine ao Law.f_element_texts rfl (by decide) rfl ?_;unfold runs Law.f_element_texts;tb_start;refine cg A.shelf A.zA fun pl σ1 x1 hp=>?_;refine (A.ext x1).oG (n:=n+3) fun la σ2 x2 bA=>?_;have fF:=x1.trans x2;have sk:=its.aI 0 (-1) 0;have hsz:=A.size;generalize By:its.flat 0 (-1) 0=L at bA hQ sk;have uD:(L.map cU).length<=1000000:=by rw[List.length_map];omega
 have Bz:(1 * ((L.map cU).length:Int).toNat<=1000000/\0<=((L.map cU).length:Int)/\((L.map cU).length:Int) < 1152921504606846976):=by rw[List.length_map];omega
 simp? [bA,uD,List.length_map];intro a0 fR;have yl:put σ2 a0 (.list [.str ""]) la=some (.list (L.map cU)):=by rw[ae (fresh_ne fR bA)];exact bA
 simp? [yl,uD,List.length_map];refine⟨by omega,by omega,?_⟩;intro fo uH;have sr:la≠fo:=fresh_ne uH yl;have x3:Ext σ (put (put σ2 a0 (.list [.str ""])) fo (.list (List.replicate ((L.length:Nat):Int).toNat [AV.str ""]).flatten)):=(fF.put fR).put uH;have ym:σ fo=none:=(fF.put fR).none uH;have tu:put (put σ2 a0 (.list [.str ""])) fo (.list (List.replicate ((L.length:Nat):Int).toNat [AV.str ""]).flatten) pl=some (.dI (aM o1 o2 o3)):=by
  have:put σ2 a0 (.list [.str ""]) pl=some (.dI (aM o1 o2 o3)):=by rw[ae (fresh_ne fR (x2 _ _ hp))];exact x2 _ _ hp
  rw[ae (fresh_ne uH this)];exact this
 have uJ:put (put σ2 a0 (.list [.str ""])) fo (.list (List.replicate ((L.length:Nat):Int).toNat [AV.str ""]).flatten) la=some (.list (L.map cU)):=by rw[ae sr];exact yl
 have wO:put (put σ2 a0 (.list [.str ""])) fo (.list (List.replicate ((L.length:Nat):Int).toNat [AV.str ""]).flatten) fo=some (.list (List.replicate L.length (AV.str ""))):=by rw[af,iQ,Int.toNat_natCast]
 generalize put (put σ2 a0 (.list [.str ""])) fo (.list (List.replicate ((L.length:Nat):Int).toNat [AV.str ""]).flatten)=σ3 at x3 tu uJ wO ⊢;simp? [uJ];refine ew uJ (L.map cU) [] σ3 (by rw[List.length_nil,List.length_map];omega) (.refl _) .nil (fun k m=>by cases m) fun ks σ4 lr x4 hnd vr=>?_;intro kr tv;rw[List.length_nil,Nat.zero_add,List.length_map] at lr;have zM:put σ4 kr (.list (ks.map AV.ref)) la=some (.list (L.map cU)):=by rw[ae (fresh_ne tv (x4 _ _ uJ))];exact x4 _ _ uJ
 have su:fo≠kr:=fresh_ne tv (x4 _ _ wO);have X0:TX σ la fo kr pl tx L ks o1 o2 o3 fG T L.length [] (put σ4 kr (.list (ks.map AV.ref))):=by
  refine⟨(x3.trans x4).put tv,zM,?_,af,?_,?_,fun j k hj hk=>?_⟩
  ·rw[ae su,List.map_nil,List.append_nil];exact x4 _ _ wO
  ·rw[ae (fresh_ne tv (x4 _ _ tu))];exact x4 _ _ tu
  ·exact ((x3.trans x4).put tv) _ _ lP
  ·have:=(vr k (List.mem_of_getElem? hk)).2;rw[ae (fresh_ne tv this)];exact this
 have vt:∀ k∈ks,σ k=none/\k≠la/\k≠fo/\k≠kr:=fun k m=>by
  obtain⟨m1,m2⟩:=vr k m;exact⟨x3.none m1,(fun q=>by rw[q,uJ] at m1;cases m1),(fun q=>by rw[q,wO] at m1;cases m1),fresh_ne tv m2⟩
 simp? [zM,uD,List.length_map];have loop:∀ (i:Nat) (pre post:List (Tr×Int×Int)) (σ5:St) (s6 s7 s8:Option AV) (V:Fl×Frame->St->Prop),L=pre++post->pre.length=i->TX σ la fo kr pl tx L ks o1 o2 o3 fG T i post σ5->
   (∀ σ' s6 s7 s8,TX σ la fo kr pl tx L ks o1 o2 o3 fG T 0 L σ'->V (.next,[some (ak tb ax),some (.ref tx),some (.ref pl),some (.ref la),some (.ref fo),some (.ref kr),s6,s7,s8]) σ')->
   forM (fun _=>True) stopF (iy (FF sa sl (n+8)) [6] Law.B_element_texts_0) (rangeL ((i:Int) - 1) i (-1)) (.next,[some (ak tb ax),some (.ref tx),some (.ref pl),some (.ref la),some (.ref fo),some (.ref kr),s6,s7,s8]) V (fun _=>False) σ5:=by
  intro i;induction i with
  | zero=>
   intro pre post σ5 s6 s7 s8 V hL hi X hV;have:pre=[]:=List.eq_nil_of_length_eq_zero hi;subst this;rw[List.nil_append] at hL;subst hL;exact⟨trivial,hV σ5 _ _ _ X⟩
  | succ i ih=>
   intro pre post σ5 s6 s7 s8 V hL hi X hV;have hne:pre≠[]:=fun q=>by rw[q] at hi;cases hi
   have yn:pre.dropLast++[pre.getLast hne]=pre:=List.dropLast_concat_getLast hne;generalize pre.dropLast=vz at yn;generalize pre.getLast hne=e at yn;subst yn;rw[List.length_append,List.length_cons,List.length_nil] at hi;have uB:vz.length=i:=by omega
   rw[List.append_assoc,List.cons_append,List.nil_append] at hL;have e1:((i+1:Nat):Int) - 1=(i:Int):=by omega
   rw[e1];show forM _ _ _ (.int (i:Int)::rangeL ((i:Int)+-1) i (-1)) _ _ _ _;refine aq trivial ?_;rw[iF];subst By;refine jD A hT hnd vt ym ⟨Ne.symm sr,su⟩ hL uB lr (fun σ' s7 s8 X'=>?_) X;exact ih vz (e::post) σ' _ _ _ V hL uB X' hV
 have e2:(((L.length:Nat):Int) - 1 - -1).toNat=L.length:=by omega
 refine⟨by omega,?_⟩;refine⟨by omega,by omega,by decide,by decide,.inl ⟨rfl,?_⟩⟩;rw[e2];refine loop L.length L [] _ none none none _ (List.append_nil _).symm rfl X0 fun σ' s6 s7 s8 X'=>?_;tb_start;exact hQ fo σ' X'.ext (by have:=X'.found;simpa using this)
end
def KX (X:List Nat) (σ σ':St):Prop:=∀ b o,b∉X->σ b=some o->σ' b=some o
theorem KX.refl (X:List Nat) (σ:St):KX X σ σ:=fun _ _ _ h=>h
theorem KX.trans {X:List Nat} {σ σ' σ'':St} (x:KX X σ σ') (y:KX X σ' σ''):KX X σ σ'':=fun b o h e=>y b o h (x b o h e)
theorem KX.mono {X Y:List Nat} (h:∀ b∈X,b∈Y) {σ σ':St} (x:KX X σ σ'):KX Y σ σ':=fun b o hb e=>x b o (fun m=>hb (h b m)) e
theorem KX.fresh {X:List Nat} {σ σ':St} (x:KX X σ σ') {a:Nat} (h:σ' a=none) (ha:a∉X):σ a=none:=by
 cases q:σ a with
 | none=>rfl
 | some o=>have:=x a o ha q;rw[h] at this;cases this
theorem KX.put {X:List Nat} {σ σ':St} (x:KX X σ σ') {a:Nat} {o:AO} (h:a∈X\/σ a=none):KX X σ (put σ' a o):=fun b ob hb e=>by
 have:b≠a:=by
  rintro rfl;rcases h with h | h
  ·exact hb h
  ·rw[h] at e;cases e
 rw[ae this];exact x b ob hb e
theorem KX.new {X:List Nat} {σ σ':St} (x:KX X σ σ') {a:Nat} {o:AO} (h:σ' a=none):KX X σ (Mine.put σ' a o):=by
 by_cases m:a∈X
 ·exact x.put (.inl m)
 ·exact x.put (.inr (x.fresh h m))
theorem Ext.kx {σ σ':St} (x:Ext σ σ') (X:List Nat):KX X σ σ':=fun b o _ e=>x b o e
def Al (X:List Nat) (σ:St):Prop:=∀ b∈X,∃ o,σ b=some o
theorem KX.gm {X:List Nat} {σ σ':St} (x:KX X σ σ') (hX:Al X σ') {b:Nat} (h:σ' b=none):σ b=none:=by
 refine x.fresh h fun m=>?_;obtain⟨o,e⟩:=hX b m;rw[h] at e;cases e
def aD (σ σ':St):St:=fun b=>match σ b with | none=>σ' b | some _=>none
theorem aD.at {σ σ':St} {a:Nat} (h:σ a=none):aD σ σ' a=σ' a:=by unfold aD;rw[h]
theorem aD.inv {σ σ':St} {a:Nat} {o:AO} (h:aD σ σ' a=some o):σ a=none/\σ' a=some o:=by
 unfold aD at h;cases q:σ a with
 | none=>rw[q] at h;exact⟨rfl,h⟩
 | some o'=>rw[q] at h;cases h
theorem aD.ext {σ1 σ2 τ:St} (h:∀ b o,σ1 b=none->σ2 b=some o->τ b=some o):Ext (aD σ1 σ2) τ:=fun b o e=>by
 obtain⟨h1,h2⟩:=aD.inv e;exact h b o h1 h2
theorem aD.up {X:List Nat} {σ0 σ1 σ2 σ3:St} (hX:Al X σ1) (k0:KX X σ0 σ1) (k:KX X σ2 σ3):Ext (aD σ1 σ2) (aD σ0 σ3):=aD.ext fun b o h1 h2=>by
 rw[aD.at (k0.gm hX h1)];refine k b o (fun m=>?_) h2;obtain⟨o',e⟩:=hX b m;rw[h1] at e;cases e
theorem aD.all (σ σ':St):Ext (aD σ σ') σ':=aD.ext fun _ _ _ h=>h
inductive jF (es:List (Int×AV)) (bare:AV):Nat->AV->Prop where
 | base {k}:jF es bare k bare
 | gF {k n v}:atKey es n=some (.tup [.int 0,v])->jF es bare k v->jF es bare (k+1) (ai n)
theorem jF.inc {es es':List (Int×AV)} (i:cn es es') {bare v:AV} {k:Nat} (h:jF es bare k v):jF es' bare k v:=by
 induction h with
 | base=>exact .base
 | gF h _ ih=>exact .gF (i.1 _ _ h) ih
theorem jF.sN {σ:St} {es:List (Int×AV)} {bare v w:AV} {k j:Nat} (h:jF es bare k v) (hf:bb σ es j bare w):bb σ es (j+k) v w:=by
 induction h with
 | base=>exact hf.more (by omega)
 | gF h _ ih=>exact .gF h ih
theorem jF.bG {σ:St} {es:List (Int×AV)} {bare v w:AV} {k j:Nat} (h:jF es bare k v) (hf:bb σ es j bare w) (hl:j+k<=9):bb σ es 9 v w:=(h.sN hf).more hl
structure GS (ta tb m:Nat) (es:List (Int×AV)) (σ:St):Prop where
 eD:∃ dg sd c:Int,σ ta=some (.list [.int dg,.int sd,.int c])/\0<=dg/\0<=sd/\sd < 1000000007/\0<=c/\c<=m
 tab:σ tb=some (.dI es)
 len:es.length<=m+10
 keys:∀ p∈es,p.1 < 100+es.length/\p.1≠99/\p.1≠1
theorem GS.ne (G:GS ta tb m es σ):ta≠tb:=fun q=>by
 obtain⟨dg,sd,c,h,_⟩:=G.eD;rw[q,G.tab] at h;cases h
theorem GS.more (G:GS ta tb m es σ) {m':Nat} (h:m<=m'):GS ta tb m' es σ:=by
 obtain⟨⟨dg,sd,c,h1,h2,h3,h4,h5,h6⟩,h7,h8,h9⟩:=G;exact⟨⟨dg,sd,c,h1,h2,h3,h4,h5,by omega⟩,h7,by omega,h9⟩
theorem GS.keep {X:List Nat} (k:KX X σ σ') (h1:ta∉X) (h2:tb∉X) (G:GS ta tb m es σ):GS ta tb m es σ':=by
 obtain⟨⟨dg,sd,c,q1,q2⟩,h7,h8,h9⟩:=G;exact⟨⟨dg,sd,c,k _ _ h1 q1,q2⟩,k _ _ h2 h7,h8,h9⟩
theorem GS.ext (k:Ext σ σ') (G:GS ta tb m es σ):GS ta tb m es σ':=G.keep (k.kx []) (by simp) (by simp)
theorem GS.put (G:GS ta tb m es σ) {a:Nat} {o:AO} (h1:ta≠a) (h2:tb≠a):GS ta tb m es (put σ a o):=by
 obtain⟨⟨dg,sd,c,q1,q2⟩,h7,h8,h9⟩:=G;exact⟨⟨dg,sd,c,by rw[ae h1];exact q1,q2⟩,by rw[ae h2];exact h7,h8,h9⟩
theorem GS.ey (G:GS ta tb m es σ) {k:Int} (h:k=99\/k=1\/100+(es.length:Int)<=k):atKey es k=none:=by
 unfold atKey;rw[Option.map_eq_none_iff,List.find?_eq_none];intro p hp q;have:=G.keys p hp;have q':p.1=k:=by simpa using q
 omega
theorem dF {k:Int} {v:AV} (h:atKey es k=none) (BA:k≠99):cn es (es++[(k,v)]):=by
 refine⟨fun j w hj=>?_,fun h9=>?_⟩
 ·rw[aP,hj]
 ·rw[aP,h9];exact if_neg BA
theorem gR {k:Int} {v:AV} (h:atKey es k=none):atKey (es++[(k,v)]) k=some v:=by
 rw[aP,h];exact if_pos rfl
theorem GS.grow (G:GS ta tb m es σ) {v:AV}:GS ta tb (m+1) (es++[(100+(es.length:Int),v)]) (Mine.put σ tb (.dI (putK es (100+(es.length:Int)) v))):=by
 have hn:=G.ey (k:=100+(es.length:Int)) (.inr (.inr (Int.le_refl _)));have hne:=G.ne;obtain⟨⟨dg,sd,c,h1,h2,h3,h4,h5,h6⟩,h7,h8,h9⟩:=G;refine⟨⟨dg,sd,c,by rw[ae hne];exact h1,h2,h3,h4,h5,by omega⟩,by rw[af,aL hn],by rw[List.length_append,List.length_cons,List.length_nil];omega,fun p hp=>?_⟩;rw[List.length_append,List.length_cons,List.length_nil];rcases List.mem_append.mp hp with hp | hp
 ·have:=h9 p hp;omega
 ·rw[List.mem_singleton] at hp;subst hp;simp only;omega
theorem aH (G:GS ta tb m es σ) (hm:m < 1000000) {many:Int} (h0:0 < many) (h1:many < 1152921504606846976) (hQ:∀ k σ',0<=k->k < many->GS ta tb (m+1) es σ'->KX [ta] σ σ'->Q (.int k) σ'):FF sa sl (n+1) 30 [.ref ta,.int many] Q E σ:=by
 have hne:=G.ne;obtain⟨⟨dg,sd,c,q1,q2,q3,q4,q5,q6⟩,q7,q8,q9⟩:=G;have fin:∀ (pj c':Int) (σ1:St),σ1 ta=some (.list [.int pj,.int sd,.int c'])->KX [ta] σ σ1->0<=pj->0<=c'->c'<=m+1->Q (.int (pj%many)) (put σ1 ta (.list [.int (pj / many),.int sd,.int c'])):=by
  intro pj c' σ1 e1 k1 a1 a2 a3;refine hQ _ _ (Int.emod_nonneg _ (by omega)) (Int.emod_lt_of_pos _ h0) ⟨⟨_,_,_,af,Int.ediv_nonneg a1 (by omega),q3,q4,a2,by omega⟩,?_,by omega,q9⟩ (k1.put (.inl (.head _)));rw[ae (Ne.symm hne)];exact k1 _ _ (by simpa using Ne.symm hne) q7
 refine ao Law.f_law_draw rfl (by decide) rfl ?_;unfold runs Law.f_law_draw;by_cases hz:dg=0
 ·subst hz;have b1:(0:Int)<=sd+70001 * (c+1):=by omega
  have b2:sd+70001 * (c+1) < 1152921504606846976:=by omega
  have b3:-1152921504606846976 < c+1:=by omega
  have b4:c+1 < 1152921504606846976:=by omega
  simp? [q1,b1,b2,b3,b4,h0,h1,Int.toNat_zero,Int.toNat_one,show (2:Int).toNat=2 from rfl];have:=fin ((sd+70001 * (c+1)) ^ 3%1000000007) (c+1) (put σ ta (.list [.int ((sd+70001 * (c+1)) ^ 3%1000000007),.int sd,.int (c+1)])) af ((KX.refl _ _).put (.inl (.head _))) (Int.emod_nonneg _ (by decide)) (by omega) (by omega);rw[eF] at this;exact this
 ·have yo:(dg==0)=false:=beq_eq_false_iff_ne.mpr hz;simp? [q1,yo,h0,h1,Int.toNat_zero,Int.toNat_one,show (2:Int).toNat=2 from rfl];exact fin dg c σ q1 (KX.refl _ _) q2 q5 (by omega)
theorem ar (G:GS ta tb m es σ) (hm:m < 500000) {bare:AV} (hQ:∀ v es' σ',GS ta tb (m+3) es' σ'->cn es es'->es.length<=es'.length->jF es' bare 2 v->KX [ta,tb] σ σ'->Q v σ'):FF sa sl (n+2) 31 [.ref ta,.ref tb,bare] Q E σ:=by
 refine ao Law.f_law_dressed rfl (by decide) rfl ?_;unfold runs Law.f_law_dressed;tb_start;refine aH G (by omega) (by decide) (by decide) fun k σ1 k0 k1 G1 x1=>?_;have pq:KX [ta,tb] σ σ1:=x1.mono (by simp);have hk:k=0\/k=1\/k=2\/k=3:=by omega
 have pa:es.length<=1000000:=by have:=G1.len;omega
 have one:∀ {es:List (Int×AV)} {σ:St} {m:Nat} {here:AV} {j:Nat},GS ta tb m es σ->jF es bare j here->jF (es++[(100+(es.length:Int),.tup [.int 0,here])]) bare (j+1) (ai (100+(es.length:Int))):=by
  intro es σ m here j G D;have hn:=G.ey (k:=100+(es.length:Int)) (.inr (.inr (Int.le_refl _)));exact .gF (gR hn) (D.inc (dF hn (by omega)))
 have tw:∀ {es:List (Int×AV)} {σ:St} {m:Nat} {here:AV},GS ta tb m es σ->cn es (es++[(100+(es.length:Int),.tup [.int 0,here])]):=by
  intro es σ m here G;exact dF (G.ey (k:=100+(es.length:Int)) (.inr (.inr (Int.le_refl _)))) (by omega)
 rcases hk with rfl | rfl | rfl | rfl
 ·simp? [Int.toNat_zero,show rangeL 0 0 1=[] from rfl];exact hQ _ _ _ (G1.more (by omega)) (.refl _) (Nat.le_refl _) .base pq
 ·simp? [Int.toNat_one,show rangeL 0 1 1=[.int 0] from rfl];refine aq trivial ?_;unfold Law.B_law_dressed_0;simp? [G1.tab,pa];refine hQ _ _ _ ((G1.grow (v:=.tup [.int 0,bare])).more (by omega)) (tw G1) (by simp) ((one G1 .base)) (pq.put (.inl (by simp)))
 ·simp? [show (2:Int).toNat=2 from rfl,show rangeL 0 0 1=[] from rfl,Int.toNat_zero];exact hQ _ _ _ (G1.more (by omega)) (.refl _) (Nat.le_refl _) .base pq
 ·simp? [show (3:Int).toNat=3 from rfl,show (2:Int).toNat=2 from rfl,show rangeL 0 2 1=[.int 0,.int 1] from rfl];refine aq trivial ?_;unfold Law.B_law_dressed_0;simp? [G1.tab,pa];refine aq trivial ?_;have G2:=G1.grow (v:=.tup [.int 0,bare]);have hl2:(es++[(100+(es.length:Int),AV.tup [.int 0,bare])]).length<=1000000:=by have:=G2.len;omega
  have hp:=aL (v:=.tup [.int 0,bare]) (G1.ey (k:=100+(es.length:Int)) (.inr (.inr (Int.le_refl _))));rw[hp];rw[hp] at G2;simp? [G2.tab,hl2];have G3:=G2.grow (v:=.tup [.int 0,ai (100+(es.length:Int))]);rw[eF] at G3;exact hQ _ _ _ (G3.more (by omega)) ((tw G1).trans (tw G2)) (by simp) (one G2 (one G1 .base)) (pq.put (.inl (by simp)))
structure du (o1 o2 o3:Int):Prop where
 has:∀ k,3<=k->k<=5->k=o1\/k=o2\/k=o3
 lo:(3<=o1/\o1<=5)/\(3<=o2/\o2<=5)/\3<=o3/\o3<=5
 ne:o1≠o2/\o1≠o3/\o2≠o3
abbrev eE (o1 o2 o3:Int):AV:=.tup [.int o1,.int o2,.int o3]
inductive tA (σ:St) (o1 o2 o3:Int):AV->AV->Prop where
 | none:tA σ o1 o2 o3 .none .none
 | some {v}:iq σ v->isNone v=false->tA σ o1 o2 o3 v (.int (bR o1 o2 o3 v))
inductive bZ (σ:St) (es:List (Int×AV)):AV->Prop where
 | ju {d hes w s}:σ d=some (.dS hes)->bb σ es 3 ((atKey hes "Type").getD .none) (nameA "MCR")->bb σ es 3 ((atKey hes "MCID").getD .none) w->aO σ w s->(s≠"int"\/∃ i,w=.int i/\i < 0)->bZ σ es (.ref d)
 | obj {d hes}:σ d=some (.dS hes)->atKey hes "Type"=some (nameA "OBJR")->bO σ ((atKey hes "Obj").getD .none)->bZ σ es (.ref d)
 | nil:bZ σ es .none
 | list {a l}:σ a=some (.list l)->bZ σ es (.ref a)
 | neg {i}:i < 0->bZ σ es (.int i)
 | bool (b:Bool):bZ σ es (.bool b)
 | name (vs:List AV):bZ σ es (.inst 0 vs)
 | str (vs:List AV):bZ σ es (.inst 1 vs)
 | miss:atKey es 99=none->bZ σ es (ai 99)
 | nine {vs}:atKey es 9=some (.tup [.int 0,.inst 2 vs])->bZ σ es (ai 9)
theorem bZ.inc (x:Ext σ σ') (i:cn es es') {v:AV} (h:bZ σ es v):bZ σ' es' v:=by
 cases h with
 | ju a b c d e=>exact .ju (x _ _ a) (b.ext x i) (c.ext x i) (d.ext x) e
 | obj a b c=>exact .obj (x _ _ a) b (c.ext x)
 | nil=>exact .nil
 | list a=>exact .list (x _ _ a)
 | neg a=>exact .neg a
 | bool b=>exact .bool b
 | name vs=>exact .name vs
 | str vs=>exact .str vs
 | miss h=>exact .miss (i.2 h)
 | nine h=>exact .nine (i.1 _ _ h)
theorem bZ.vA {bare v:AV} (D:jF es bare 2 v) (h:bZ σ es bare):(∀ home,Told σ es o1 o2 o3 home v none)/\dU σ es v none/\∃ s,av σ es v s/\s≠"element":=by
 have skip:∀ s,av σ es v s->s≠"content"->s≠"mcr"->s≠"objr"->s≠"element"->(∀ home,Told σ es o1 o2 o3 home v none)/\dU σ es v none/\∃ s,av σ es v s/\s≠"element":=fun s hs a b c d=>⟨fun home=>.skip hs a b,.skip hs c,s,hs,d⟩;have tB:∀ {k:Nat} {w:AV} {s:Str},k<=7->bb σ es k bare w->aO σ w s->s≠"int"->s≠"dict"->(∀ home,Told σ es o1 o2 o3 home v none)/\dU σ es v none/\∃ s,av σ es v s/\s≠"element":=fun hk hf k a b=>skip _ (.other (D.bG hf (by omega)) k a b) (by decide) (by decide) (by decide) (by decide);cases h with
 | @ju d hes w s a b c k e=>
  have hv:=D.bG (σ:=σ) (j:=0) (.base ⟨_,a,.inr rfl⟩) (by omega);have hs:=av.dict hv a (b.more (m:=9) (by omega)) (.name "MCR");exact⟨fun home=>.kG hv a (b.more (by omega)) (c.more (by omega)) k e,.skip hs (by decide),_,hs,by decide⟩
 | @obj d hes a b c=>
  have hv:=D.bG (σ:=σ) (j:=0) (.base ⟨_,a,.inr rfl⟩) (by omega);have hs:=av.dict (k:=nameA "OBJR") hv a (by rw[b];exact .base (.inl rfl)) (.name "OBJR");exact⟨fun home=>.skip hs (by decide) (by decide),.no hv a hs rfl c,_,hs,by decide⟩
 | nil=>exact tB (k:=0) (by omega) (.base trivial) .none (by decide) (by decide)
 | list a=>exact tB (k:=0) (by omega) (.base ⟨_,a,.inl rfl⟩) (.list a) (by decide) (by decide)
 | neg a=>exact skip _ (.neg (D.bG (j:=0) (.base trivial) (by omega)) a) (by decide) (by decide) (by decide) (by decide)
 | bool b=>exact tB (k:=0) (by omega) (.base trivial) (.bool b) (by decide) (by decide)
 | name vs=>exact tB (k:=0) (by omega) (.base (.inl rfl)) (.name vs) (by decide) (by decide)
 | str vs=>exact tB (k:=0) (by omega) (.base (.inr (.inl rfl))) (.str vs) (by decide) (by decide)
 | miss h=>exact tB (k:=1) (by omega) (.miss rfl h) .none (by decide) (by decide)
 | nine h=>exact tB (k:=1) (by omega) (.gF h (.base (.inr (.inr rfl)))) (.stream _) (by decide) (by decide)
def gS (σ:St) (es:List (Int×AV)) (v:AV) (t:Tr):Prop:=(∃ w,bb σ es 9 v w/\bl σ w)\/(bb σ es 9 v .none/\t.dO)
theorem gS.inc (x:Ext σ σ') (i:cn es es') {v:AV} {t:Tr}:gS σ es v t->gS σ' es' v t
 | .inl ⟨w,a,b⟩=>.inl ⟨w,a.ext x i,b.ext x⟩
 | .inr ⟨a,b⟩=>.inr ⟨a.ext x i,b⟩
def iR:Option AO->Bool
 | some (.list _)=>false
 | _=>true
def gn (σ:St):AV->Bool
 | .none=>false
 | .ref a=>iR (σ a)
 | _=>true
theorem bZ.flag {bare:AV} (h:bZ σ es bare) {B:AV->St->Prop} (x:Ext σ σ') (hB:B (.bool (gn σ bare)) σ'):if (!isNone bare)=true then instM bare 12 (fun t σ=>B (.bool (!t)) σ) E σ' else B (.bool (!isNone bare)) σ':=by
 cases h with
 | @ju d0 hes w s a b c d e=>
  have:gn σ (.ref d0)=true:=by show iR (σ d0)=true;rw[a];rfl
  rw[this] at hB;rw[eU,Bool.not_false,if_pos rfl,eP,x _ _ a,aW];exact⟨.inr rfl,hB⟩
 | @obj d0 hes a b c=>
  have:gn σ (.ref d0)=true:=by show iR (σ d0)=true;rw[a];rfl
  rw[this] at hB;rw[eU,Bool.not_false,if_pos rfl,eP,x _ _ a,aW];exact⟨.inr rfl,hB⟩
 | nil=>exact hB
 | @list d0 l a=>
  have:gn σ (.ref d0)=false:=by show iR (σ d0)=false;rw[a];rfl
  rw[this] at hB;rw[eU,Bool.not_false,if_pos rfl,eP,x _ _ a,aW];exact⟨.inl rfl,hB⟩
 | neg a=>exact hB
 | bool b=>exact hB
 | name vs=>exact⟨by decide,hB⟩
 | str vs=>exact⟨by decide,hB⟩
 | miss h=>exact⟨by decide,hB⟩
 | nine h=>exact⟨by decide,hB⟩
theorem bZ.vB {bare v:AV} (D:jF es bare 2 v) (h:bZ σ es bare) (hf:gn σ bare=true) {t:Tr} (ht:t.dO):gS σ es v t:=by
 cases h with
 | ju a b c d e=>exact .inl ⟨_,D.bG (j:=0) (.base ⟨_,a,.inr rfl⟩) (by omega),_,a,rfl⟩
 | obj a b c=>exact .inl ⟨_,D.bG (j:=0) (.base ⟨_,a,.inr rfl⟩) (by omega),_,a,rfl⟩
 | nil=>cases hf
 | @list d0 l a=>
  have zN:iR (σ d0)=true:=hf;rw[a] at zN;cases zN
 | neg a=>exact .inl ⟨_,D.bG (j:=0) (.base trivial) (by omega),trivial⟩
 | bool b=>exact .inl ⟨_,D.bG (j:=0) (.base trivial) (by omega),trivial⟩
 | name vs=>exact .inl ⟨_,D.bG (j:=0) (.base (.inl rfl)) (by omega),.inl rfl⟩
 | str vs=>exact .inl ⟨_,D.bG (j:=0) (.base (.inr (.inl rfl))) (by omega),.inr (.inl rfl)⟩
 | miss h=>exact .inr ⟨D.bG (j:=1) (.miss rfl h) (by omega),ht⟩
 | nine h=>exact .inl ⟨_,D.bG (j:=1) (.gF h (.base (.inr (.inr rfl)))) (by omega),.inr (.inr rfl)⟩
theorem vC {a b d i:Int}:methM 7 (.tup [.int a,.int b,.int d]) [.int i] Q E σ=((i=a\/i=b\/i=d)/\Q (.int (if i=a then 0 else if i=b then 1 else 2)) σ):=Eq.trans rfl rfl
theorem place_spec (G:GS ta tb m es σ) (hO:du o1 o2 o3) (hm:m < 500000) (hQ:∀ g p σ',GS ta tb (m+1) es σ'->KX [ta,tb] σ σ'->tA (aD σ σ') o1 o2 o3 g p->Q (.tup [g,p]) σ'):FF sa sl (n+2) 33 [.ref ta,eE o1 o2 o3] Q E σ:=by
 refine ao Law.f_law_place rfl (by decide) rfl ?_;unfold runs Law.f_law_place;tb_start;refine aH G (by omega) (by decide) (by decide) fun k σ1 k0 k1 G1 x1=>?_;have pq:KX [ta,tb] σ σ1:=x1.mono (by simp);by_cases h3:k < 3
 ·have hk:=hO.has (3+k) (by omega) (by omega);simp? [h3,vC,hk];have e:bR o1 o2 o3 (ai (3+k))=if 3+k=o1 then 0 else if 3+k=o2 then 1 else 2:=by
   unfold bR;simp only;by_cases h1:3+k=o1
   ·rw[if_pos h1,if_pos h1]
   ·rw[if_neg h1,if_neg h1];by_cases h2:3+k=o2
    ·rw[if_pos h2,if_pos h2]
    ·rw[if_neg h2,if_neg h2,if_pos (by rcases hk with h | h | h;exact absurd h h1;exact absurd h h2;exact h)]
  rw[<- e];exact hQ _ _ _ G1 pq (.some (.ref _) rfl)
 ·have h3':¬ k < 3:=h3;obtain⟨l1,l2,l3⟩:=hO.lo;by_cases h4:k=3
  ·subst h4;simp? [h3'];have e:bR o1 o2 o3 (ai 99)=-1:=by
    unfold bR;simp only;rw[if_neg (by omega),if_neg (by omega),if_neg (by omega)]
   rw[<- e];exact hQ _ _ _ G1 pq (.some (.ref _) rfl)
  ·have zO:(k==3)=false:=beq_eq_false_iff_ne.mpr h4;by_cases h5:k=4
   ·subst h5;simp? [h3',zO];intro a ha;refine hQ _ (.int (-1)) _ (G1.ext ((Ext.refl _).put ha)) (pq.new ha) (.some (v:=.ref a) (.dict (l:=[]) ?_) rfl);rw[aD.at ?_,af];refine pq.gm (fun b hb=>?_) ha;have ht:=G1.tab;obtain⟨dg,sd,c,fT,_⟩:=G1.eD;simp only[List.mem_cons,List.not_mem_nil,or_false] at hb;rcases hb with rfl | rfl
    ·exact⟨_,fT⟩
    ·exact⟨_,ht⟩
   ·have BC:(k==4)=false:=beq_eq_false_iff_ne.mpr h5;simp? [h3',zO,BC];exact hQ _ _ _ G1 pq .none
theorem GS.al (G:GS ta tb m es σ):Al [ta,tb] σ:=fun b hb=>by
 have ht:=G.tab;obtain⟨dg,sd,c,fT,_⟩:=G.eD;simp only[List.mem_cons,List.not_mem_nil,or_false] at hb;rcases hb with rfl | rfl
 ·exact⟨_,fT⟩
 ·exact⟨_,ht⟩
theorem gU (G:GS ta tb m es σ) (hm:m < 500000) (h9:∃ vs,atKey es 9=some (.tup [.int 0,.inst 2 vs])) {digit:Int} (hd:0<=digit) (hQ:∀ v es' σ',GS ta tb (m+4) es' σ'->cn es es'->es.length<=es'.length->bZ (aD σ σ') es' v->KX [ta,tb] σ σ'->Q v σ'):FF sa sl (n+3) 34 [.ref ta,.ref tb,.int digit] Q E σ:=by
 refine ao Law.f_law_nothing rfl (by decide) rfl ?_;unfold runs Law.f_law_nothing;tb_start;refine ar G hm fun mk jb σ1 G1 i1 lE D1 x1=>?_;intro d1 wD;have mE:=(Ext.refl σ1).put (o:=.dS [("Type",mk)]) wD;have zP:put σ1 d1 (.dS [("Type",mk)]) d1=some (.dS [("Type",mk)]):=af;generalize put σ1 d1 (.dS [("Type",mk)])=tC at mE zP ⊢;intro d2 hd2;have mF:=(Ext.refl tC).put (o:=.dS [("Type",mk),("MCID",.int (-1 - digit))]) hd2;have zQ:put tC d2 (.dS [("Type",mk),("MCID",.int (-1 - digit))]) d2=some (.dS [("Type",mk),("MCID",.int (-1 - digit))]):=af;generalize put tC d2 (.dS [("Type",mk),("MCID",.int (-1 - digit))])=tD at mF zQ ⊢;intro d3 hd3;have mG:=(Ext.refl tD).put (o:=.dS [("Type",mk),("MCID",.bool true)]) hd3;have zR:put tD d3 (.dS [("Type",mk),("MCID",.bool true)]) d3=some (.dS [("Type",mk),("MCID",.bool true)]):=af;generalize put tD d3 (.dS [("Type",mk),("MCID",.bool true)])=tE at mG zR ⊢;intro l1 pa;have lS:=(Ext.refl tE).put (o:=.list [.ref d1,.ref d2,.ref d3]) pa;have zS:put tE l1 (.list [.ref d1,.ref d2,.ref d3]) l1=some (.list [.ref d1,.ref d2,.ref d3]):=af;generalize put tE l1 (.list [.ref d1,.ref d2,.ref d3])=tF at lS zS ⊢;intro d4 zT;have lT:=(Ext.refl tF).put (o:=.dS [("Type",mk),("MCID",ai 99),("Pg",ai 3)]) zT;have zU:put tF d4 (.dS [("Type",mk),("MCID",ai 99),("Pg",ai 3)]) d4=some (.dS [("Type",mk),("MCID",ai 99),("Pg",ai 3)]):=af;generalize put tF d4 (.dS [("Type",mk),("MCID",ai 99),("Pg",ai 3)])=tG at lT zU ⊢;intro d5 zV;have lU:=(Ext.refl tG).put (o:=.dS [("Type",mk),("MCID",nameA "A")]) zV;have zW:put tG d5 (.dS [("Type",mk),("MCID",nameA "A")]) d5=some (.dS [("Type",mk),("MCID",nameA "A")]):=af;generalize put tG d5 (.dS [("Type",mk),("MCID",nameA "A")])=tH at lU zW ⊢;intro l2 hl2;have kP:=(Ext.refl tH).put (o:=.list [.ref d4,.ref d5]) hl2;have zX:put tH l2 (.list [.ref d4,.ref d5]) l2=some (.list [.ref d4,.ref d5]):=af;generalize put tH l2 (.list [.ref d4,.ref d5])=tI at kP zX ⊢;have w1:=kP _ _ (lU _ _ (lT _ _ (zS)));have w2:=zX;simp? [w1,w2];intro l3 pb;have lV:=(Ext.refl tI).put (o:=.list [.ref d1,.ref d2,.ref d3,.ref d4,.ref d5]) pb;have zY:put tI l3 (.list [.ref d1,.ref d2,.ref d3,.ref d4,.ref d5]) l3=some (.list [.ref d1,.ref d2,.ref d3,.ref d4,.ref d5]):=af;generalize put tI l3 (.list [.ref d1,.ref d2,.ref d3,.ref d4,.ref d5])=tJ at lV zY ⊢;intro d6 zZ;have lW:=(Ext.refl tJ).put (o:=.dS [("Type",nameA "OBJR")]) zZ;have z0:put tJ d6 (.dS [("Type",nameA "OBJR")]) d6=some (.dS [("Type",nameA "OBJR")]):=af;generalize put tJ d6 (.dS [("Type",nameA "OBJR")])=tK at lW z0 ⊢;intro e7 z8;have lX:=(Ext.refl tK).put (o:=.dS []) z8;have z9:put tK e7 (.dS []) e7=some (.dS []):=af;generalize put tK e7 (.dS [])=tL at lX z9 ⊢;intro d7 Aa;have lY:=(Ext.refl tL).put (o:=.dS [("Type",nameA "OBJR"),("Obj",.ref e7)]) Aa;have Ab:put tL d7 (.dS [("Type",nameA "OBJR"),("Obj",.ref e7)]) d7=some (.dS [("Type",nameA "OBJR"),("Obj",.ref e7)]):=af;generalize put tL d7 (.dS [("Type",nameA "OBJR"),("Obj",.ref e7)])=tM at lY Ab ⊢;intro d8 Ac;have lZ:=(Ext.refl tM).put (o:=.dS [("Type",nameA "OBJR"),("Obj",.int digit)]) Ac;have Ad:put tM d8 (.dS [("Type",nameA "OBJR"),("Obj",.int digit)]) d8=some (.dS [("Type",nameA "OBJR"),("Obj",.int digit)]):=af;generalize put tM d8 (.dS [("Type",nameA "OBJR"),("Obj",.int digit)])=tN at lZ Ad ⊢;intro e9 wQ;have l9:=(Ext.refl tN).put (o:=.list [.int digit]) wQ;have Ae:put tN e9 (.list [.int digit]) e9=some (.list [.int digit]):=af;generalize put tN e9 (.list [.int digit])=tO at l9 Ae ⊢;intro l4 yp;have kQ:=(Ext.refl tO).put (o:=.list [.ref d6,.ref d7,.ref d8,.none,.ref e9,.int (-1 - digit),.bool true]) yp;have Af:put tO l4 (.list [.ref d6,.ref d7,.ref d8,.none,.ref e9,.int (-1 - digit),.bool true]) l4=some (.list [.ref d6,.ref d7,.ref d8,.none,.ref e9,.int (-1 - digit),.bool true]):=af;generalize put tO l4 (.list [.ref d6,.ref d7,.ref d8,.none,.ref e9,.int (-1 - digit),.bool true])=tP at kQ Af ⊢;have w3:=kQ _ _ (l9 _ _ (lZ _ _ (lY _ _ (lX _ _ (lW _ _ (zY))))));have w4:=Af;simp? [w3,w4];intro l5 yq;have ma:=(Ext.refl tP).put (o:=.list [.ref d1,.ref d2,.ref d3,.ref d4,.ref d5,.ref d6,.ref d7,.ref d8,.none,.ref e9,.int (-1 - digit),.bool true]) yq;have Ah:put tP l5 (.list [.ref d1,.ref d2,.ref d3,.ref d4,.ref d5,.ref d6,.ref d7,.ref d8,.none,.ref e9,.int (-1 - digit),.bool true]) l5=some (.list [.ref d1,.ref d2,.ref d3,.ref d4,.ref d5,.ref d6,.ref d7,.ref d8,.none,.ref e9,.int (-1 - digit),.bool true]):=af;generalize put tP l5 (.list [.ref d1,.ref d2,.ref d3,.ref d4,.ref d5,.ref d6,.ref d7,.ref d8,.none,.ref e9,.int (-1 - digit),.bool true])=tQ at ma Ah ⊢;intro l6 yr;have kR:=(Ext.refl tQ).put (o:=.list [nameA "A",bf [48],ai 99,ai 9]) yr;have Ai:put tQ l6 (.list [nameA "A",bf [48],ai 99,ai 9]) l6=some (.list [nameA "A",bf [48],ai 99,ai 9]):=af;generalize put tQ l6 (.list [nameA "A",bf [48],ai 99,ai 9])=tR at kR Ai ⊢;have w5:=kR _ _ (Ah);have w6:=Ai;simp? [w5,w6];intro l7 BD;have md:=(Ext.refl tR).put (o:=.list [.ref d1,.ref d2,.ref d3,.ref d4,.ref d5,.ref d6,.ref d7,.ref d8,.none,.ref e9,.int (-1 - digit),.bool true,nameA "A",bf [48],ai 99,ai 9]) BD;have yt:put tR l7 (.list [.ref d1,.ref d2,.ref d3,.ref d4,.ref d5,.ref d6,.ref d7,.ref d8,.none,.ref e9,.int (-1 - digit),.bool true,nameA "A",bf [48],ai 99,ai 9]) l7=some (.list [.ref d1,.ref d2,.ref d3,.ref d4,.ref d5,.ref d6,.ref d7,.ref d8,.none,.ref e9,.int (-1 - digit),.bool true,nameA "A",bf [48],ai 99,ai 9]):=af;generalize put tR l7 (.list [.ref d1,.ref d2,.ref d3,.ref d4,.ref d5,.ref d6,.ref d7,.ref d8,.none,.ref e9,.int (-1 - digit),.bool true,nameA "A",bf [48],ai 99,ai 9])=vD at md yt ⊢;have X:Ext σ1 vD:=((((((((((((((((mE).trans mF).trans mG).trans lS).trans lT).trans lU).trans kP).trans lV).trans lW).trans lX).trans lY).trans lZ).trans l9).trans kQ).trans ma).trans kR).trans md;simp only[Int.cast_ofNat_Int];refine aH (G1.ext X) (by omega) (by decide) (by decide) fun k σ2 k0 k1 G2 x2=>?_;have w7:=x2 _ _ (show l7∉[ta] from fun q=>by
  rw[List.mem_singleton] at q;obtain⟨_,_,_,fT,_⟩:=(G1.ext ((((((((((((((((((mE).trans mF).trans mG).trans lS).trans lT).trans lU).trans kP).trans lV).trans lW).trans lX).trans lY).trans lZ).trans l9).trans kQ).trans ma).trans kR).trans md))).eD;rw[<- q,yt] at fT;cases fT) yt
 have x3:KX [ta,tb] σ σ2:=(x1.trans (X.kx _)).trans (x2.mono (by simp));have nw:∀ a o,σ1 a=none->vD a=some o->aD σ σ2 a=some o:=fun a o h1 h2=>by
  rw[aD.at (x1.gm G1.al h1)];refine x2 _ _ (fun q=>?_) h2;rw[List.mem_singleton] at q;obtain⟨_,_,_,fT,_⟩:=G1.eD;rw[q,fT] at h1;cases h1
 have Aj:atKey jb 99=none:=G1.ey (.inl rfl);obtain⟨Dj,BE⟩:=h9;have N9:=i1.1 _ _ BE;have fm:bb (aD σ σ2) jb 3 mk (nameA "MCR"):=(D1.sN (j:=0) (.base (.inl rfl))).more (by omega);have sx:∀ (v:AV) (r:List (Str×AV)),(atKey ((("Type":Str),v)::r) "Type")=some v:=fun v r=>by rw[aj,if_pos rfl]
 have BF:=nw _ _ (wD) (md _ _ (kR _ _ (ma _ _ (kQ _ _ (l9 _ _ (lZ _ _ (lY _ _ (lX _ _ (lW _ _ (lV _ _ (kP _ _ (lU _ _ (lT _ _ (lS _ _ (mG _ _ (mF _ _ (zP)))))))))))))))));have BG:=nw _ _ ((mE).none hd2) (md _ _ (kR _ _ (ma _ _ (kQ _ _ (l9 _ _ (lZ _ _ (lY _ _ (lX _ _ (lW _ _ (lV _ _ (kP _ _ (lU _ _ (lT _ _ (lS _ _ (mG _ _ (zQ))))))))))))))));have BH:=nw _ _ (((mE).trans mF).none hd3) (md _ _ (kR _ _ (ma _ _ (kQ _ _ (l9 _ _ (lZ _ _ (lY _ _ (lX _ _ (lW _ _ (lV _ _ (kP _ _ (lU _ _ (lT _ _ (lS _ _ (zR)))))))))))))));have BI:=nw _ _ (((((mE).trans mF).trans mG).trans lS).none zT) (md _ _ (kR _ _ (ma _ _ (kQ _ _ (l9 _ _ (lZ _ _ (lY _ _ (lX _ _ (lW _ _ (lV _ _ (kP _ _ (lU _ _ (zU)))))))))))));have BJ:=nw _ _ ((((((mE).trans mF).trans mG).trans lS).trans lT).none zV) (md _ _ (kR _ _ (ma _ _ (kQ _ _ (l9 _ _ (lZ _ _ (lY _ _ (lX _ _ (lW _ _ (lV _ _ (kP _ _ (zW))))))))))));have BK:=nw _ _ (((((((((mE).trans mF).trans mG).trans lS).trans lT).trans lU).trans kP).trans lV).none zZ) (md _ _ (kR _ _ (ma _ _ (kQ _ _ (l9 _ _ (lZ _ _ (lY _ _ (lX _ _ (z0)))))))));have BL:=nw _ _ ((((((((((mE).trans mF).trans mG).trans lS).trans lT).trans lU).trans kP).trans lV).trans lW).none z8) (md _ _ (kR _ _ (ma _ _ (kQ _ _ (l9 _ _ (lZ _ _ (lY _ _ (z9))))))));have BM:=nw _ _ (((((((((((mE).trans mF).trans mG).trans lS).trans lT).trans lU).trans kP).trans lV).trans lW).trans lX).none Aa) (md _ _ (kR _ _ (ma _ _ (kQ _ _ (l9 _ _ (lZ _ _ (Ab)))))));have BN:=nw _ _ ((((((((((((mE).trans mF).trans mG).trans lS).trans lT).trans lU).trans kP).trans lV).trans lW).trans lX).trans lY).none Ac) (md _ _ (kR _ _ (ma _ _ (kQ _ _ (l9 _ _ (Ad))))));have wR:=nw _ _ (((((((((((((mE).trans mF).trans mG).trans lS).trans lT).trans lU).trans kP).trans lV).trans lW).trans lX).trans lY).trans lZ).none wQ) (md _ _ (kR _ _ (ma _ _ (kQ _ _ (Ae)))));have hk:∃ i:Nat,i < 16/\k=(i:Int):=⟨k.toNat,by omega,by omega⟩;obtain⟨i,hi,rfl⟩:=hk;have fin:∀ v,([.ref d1,.ref d2,.ref d3,.ref d4,.ref d5,.ref d6,.ref d7,.ref d8,.none,.ref e9,.int (-1 - digit),.bool true,nameA "A",bf [48],ai 99,ai 9]:List AV)[i]? =some v->bZ (aD σ σ2) jb v:=by
  intro v hv
  match i,hi with
  | 0,_=>cases hv;exact .ju BF (by rw[sx];exact fm) (w:=.none) (.base trivial) .none (.inl (by decide))
  | 1,_=>cases hv;exact .ju BG (by rw[sx];exact fm) (w:=.int (-1 - digit)) (.base trivial) (.int _) (.inr ⟨_,rfl,by omega⟩)
  | 2,_=>cases hv;exact .ju BH (by rw[sx];exact fm) (w:=.bool true) (.base trivial) (.bool _) (.inl (by decide))
  | 3,_=>cases hv;exact .ju BI (by rw[sx];exact fm) (w:=.none) (.miss rfl Aj) .none (.inl (by decide))
  | 4,_=>cases hv;exact .ju BJ (by rw[sx];exact fm) (w:=nameA "A") (.base (.inl rfl)) (.name _) (.inl (by decide))
  | 5,_=>cases hv;exact .obj BK (sx _ _) trivial
  | 6,_=>cases hv;exact .obj BM (sx _ _) ⟨_,BL,.inr rfl⟩
  | 7,_=>cases hv;exact .obj BN (sx _ _) trivial
  | 8,_=>cases hv;exact .nil
  | 9,_=>cases hv;exact .list wR
  | 10,_=>cases hv;exact .neg (by omega)
  | 11,_=>cases hv;exact .bool _
  | 12,_=>cases hv;exact .name _
  | 13,_=>cases hv;exact .str _
  | 14,_=>cases hv;exact .miss Aj
  | 15,_=>cases hv;exact .nine N9
 obtain⟨v,hv⟩:∃ v,([.ref d1,.ref d2,.ref d3,.ref d4,.ref d5,.ref d6,.ref d7,.ref d8,.none,.ref e9,.int (-1 - digit),.bool true,nameA "A",bf [48],ai 99,ai 9]:List AV)[i]? =some v:=⟨_,List.getElem?_eq_getElem (by simpa using hi)⟩;have ot:(0:Int)<=(i:Int)/\(i:Int) < 1152921504606846976:=by omega
 rw[gA,w7,aW,mP,Int.toNat_natCast,hv,bM];exact⟨ot,hQ _ _ _ (G2.more (by omega)) i1 lE (fin v hv) x3⟩
mutual
def Tr.heads:Tr->List Nat
 | .elem _ h _ _ _ _ its=>h::its.heads
 | _=>[]
def ah.heads:ah->List Nat
 | .nil=>[]
 | .cons _ t r=>t.heads++r.heads
end
abbrev bc (tb:Nat) (left:Int) (o1 o2 o3:Int):List (Str×AV):=[("table",.ref tb),("left",.int left),("order",eE o1 o2 o3)]
structure WS (ta tb wa m:Nat) (es:List (Int×AV)) (o1 o2 o3:Int) (σ:St):Prop where
 gs:GS ta tb m es σ
 bU:∃ left,σ wa=some (.dS (bc tb left o1 o2 o3))
 nine:∃ vs,atKey es 9=some (.tup [.int 0,.inst 2 vs])
structure Made (σ σ':St) (es es':List (Int×AV)) (o1 o2 o3 home:Int) (v:AV) (t:Tr) (fl:Bool) (S D:Nat):Prop where
 val:Tr.Val (aD σ σ') es' o1 o2 o3 home v t
 sp:t.Sp (aD σ σ')
 vB:fl=true->gS (aD σ σ') es' v t
 size:t.size<=S
 dep:t.dep<=D
 nums:(∀ x∈t.nums,100+(es.length:Int)<=x/\x < 100+(es'.length:Int))/\t.nums.Nodup
 heads:(∀ h∈t.heads,σ h=none/\∃ o,σ' h=some (.dS o)/\o.length<=40)/\t.heads.Nodup
theorem WS.ne (W:WS ta tb wa m es o1 o2 o3 σ):wa∉[ta,tb]:=fun q=>by
 obtain⟨left,h⟩:=W.bU;obtain⟨_,_,_,fT,_⟩:=W.gs.eD;have ht:=W.gs.tab;simp only[List.mem_cons,List.not_mem_nil,or_false] at q;rcases q with rfl | rfl
 ·rw[h] at fT;cases fT
 ·rw[h] at ht;cases ht
theorem WS.al (W:WS ta tb wa m es o1 o2 o3 σ):Al [ta,tb,wa] σ:=fun b hb=>by
 obtain⟨left,h⟩:=W.bU;obtain⟨_,_,_,fT,_⟩:=W.gs.eD;have ht:=W.gs.tab;simp only[List.mem_cons,List.not_mem_nil,or_false] at hb;rcases hb with rfl | rfl | rfl
 ·exact⟨_,fT⟩
 ·exact⟨_,ht⟩
 ·exact⟨_,h⟩
theorem WS.step (W:WS ta tb wa m es o1 o2 o3 σ) {m':Nat} (G:GS ta tb m' es' σ') (k:KX [ta,tb] σ σ') (i:cn es es'):WS ta tb wa m' es' o1 o2 o3 σ':=by
 obtain⟨left,h⟩:=W.bU;obtain⟨vs,h9⟩:=W.nine;exact⟨G,⟨left,k _ _ W.ne h⟩,vs,i.1 _ _ h9⟩
theorem WS.ext (W:WS ta tb wa m es o1 o2 o3 σ) (x:Ext σ σ'):WS ta tb wa m es o1 o2 o3 σ':=W.step (W.gs.ext x) (x.kx _) (.refl _)
theorem WS.more (W:WS ta tb wa m es o1 o2 o3 σ) {m':Nat} (h:m<=m'):WS ta tb wa m' es o1 o2 o3 σ:=⟨W.gs.more h,W.bU,W.nine⟩
theorem KX.w3 {ta tb:Nat} {wa:Nat} (k:KX [ta,tb] σ σ'):KX [ta,tb,wa] σ σ':=k.mono (by simp only[List.mem_cons,List.not_mem_nil,or_false];intro b h;exact h.elim .inl (fun h=>.inr (.inl h)))
def yu (home:Int):AV->Int
 | .none=>home
 | .int i=>i
 | _=>0
def kT:PSs:=(.cons (.asg (.loc 6) (.call 30 (.cons (.loc 0) (.cons (.int 4) .nil))))
  (.cons (.ite (.cmp .eq (.loc 5) (.int 5)) (.cons (.asg (.loc 7) (.call 34 (.cons (.loc 0) (.cons (.loc 4) (.cons (.loc 6) .nil)))))
  (.cons (.ret (.tup (.cons (.call 31 (.cons (.loc 0) (.cons (.loc 4) (.cons (.loc 7) .nil)))) (.cons (.dictS [("is":Str)] (.cons (.str ("nothing":Str)) .nil)) (.cons (.andor true (.cons (.cmp .isnot (.loc 7) .none) (.cons (.not (.isinst (.loc 7) 12)) .nil))) .nil)))))
  .nil)) .nil)
  (.cons (.ite (.cmp .eq (.loc 5) (.int 4)) (.cons (.asg (.loc 8) (.dictS [("Type":Str),("Obj":Str)] (.cons (.call 31 (.cons (.loc 0) (.cons (.loc 4) (.cons (.new 0 (.cons (.str ("OBJR":Str)) .nil)) .nil)))) (.cons (.new 3 (.cons (.bin .add (.int 6) (.loc 6)) (.cons (.int 0) .nil))) .nil))))
  (.cons (.ret (.tup (.cons (.call 31 (.cons (.loc 0) (.cons (.loc 4) (.cons (.loc 8) .nil)))) (.cons (.dictS [("is":Str),("number":Str)] (.cons (.str ("object":Str)) (.cons (.bin .add (.int 6) (.loc 6)) .nil))) (.cons (.bool true) .nil)))))
  .nil)) .nil)
  (.cons (.ite (.cmp .eq (.loc 5) (.int 3)) (.cons (.asgs [(.loc 9),(.loc 10)] (.call 33 (.cons (.loc 0) (.cons (.item (.loc 1) (.str ("order":Str))) .nil))))
  (.cons (.asg (.loc 8) (.dictS [("Type":Str),("MCID":Str)] (.cons (.call 31 (.cons (.loc 0) (.cons (.loc 4) (.cons (.new 0 (.cons (.str ("MCR":Str)) .nil)) .nil)))) (.cons (.call 31 (.cons (.loc 0) (.cons (.loc 4) (.cons (.loc 6) .nil)))) .nil))))
  (.cons (.ite (.cmp .isnot (.loc 9) .none) (.cons (.asg (.sub (.loc 8) (.str ("Pg":Str))) (.loc 9))
  .nil) .nil)
  (.cons (.ret (.tup (.cons (.call 31 (.cons (.loc 0) (.cons (.loc 4) (.cons (.loc 8) .nil)))) (.cons (.dictS [("is":Str),("page":Str),("number":Str)] (.cons (.str ("content":Str)) (.cons (.ite (.cmp .is (.loc 10) .none) (.loc 2) (.loc 10)) (.cons (.loc 6) .nil)))) (.cons (.bool true) .nil)))))
  .nil)))) .nil)
  (.cons (.ret (.tup (.cons (.call 31 (.cons (.loc 0) (.cons (.loc 4) (.cons (.loc 6) .nil)))) (.cons (.dictS [("is":Str),("page":Str),("number":Str)] (.cons (.str ("content":Str)) (.cons (.loc 2) (.cons (.loc 6) .nil)))) (.cons (.bool true) .nil)))))
  .nil)))))
theorem tS:Law.f_law_thing.body=(.cons (.asg (.loc 4) (.item (.loc 1) (.str ("table":Str))))
  (.cons (.asg (.loc 5) (.call 30 (.cons (.loc 0) (.cons (.int 6) .nil))))
  (.cons (.ite (.andor true (.cons (.cmp .lt (.loc 5) (.ite (.cmp .eq (.loc 3) (.int 0)) (.int 4) (.int 2))) (.cons (.cmp .lt (.loc 3) (.int 4)) (.cons (.cmp .gt (.item (.loc 1) (.str ("left":Str))) (.int 0)) .nil)))) (.cons (.ret (.call 38 (.cons (.loc 0) (.cons (.loc 1) (.cons (.loc 3) .nil)))))
  .nil) .nil) kT))):=rfl
theorem dp {v:AV} {t:Tr} {fl:Bool} (h:Tr.Val (aD σ σ') es' o1 o2 o3 home v t) (hs:t.Sp (aD σ σ')) (hf:fl=true->gS (aD σ σ') es' v t) (ht:t.size=1/\t.dep=0/\t.nums=[]/\t.heads=[]) {S D:Nat} (hS:1<=S):Made σ σ' es es' o1 o2 o3 home v t fl S D:=by
 obtain⟨t1,t2,t3,t4⟩:=ht;exact⟨h,hs,hf,by omega,by omega,by rw[t3];exact⟨fun x m=>(by cases m),List.nodup_nil⟩,by rw[t4];exact⟨fun x m=>(by cases m),List.nodup_nil⟩⟩
theorem cx {left:Int}:atKey (bc tb left o1 o2 o3) "table"=some (.ref tb)/\atKey (bc tb left o1 o2 o3) "left"=some (.int left)/\atKey (bc tb left o1 o2 o3) "order"=some (eE o1 o2 o3):=⟨rfl,rfl,rfl⟩
abbrev fu (ta tb wa m:Nat) (es:List (Int×AV)) (o1 o2 o3 home:Int) (S D:Nat) (Q:AV->St->Prop) (σ:St):Prop:=∀ v a fl t es' σ',WS ta tb wa m es' o1 o2 o3 σ'->cn es es'->es.length<=es'.length->KX [ta,tb,wa] σ σ'->t.adr=a->Made σ σ' es es' o1 o2 o3 home v t fl S D->Q (.tup [v,.ref a,.bool fl]) σ'
theorem me (W:WS ta tb wa m es o1 o2 o3 σ) (hO:du o1 o2 o3) (hm:m < 400000) {way deep:Int} {S D:Nat} (hS:1<=S) (hQ:fu ta tb wa (m+19) es o1 o2 o3 home S D Q σ):
  evSs (FF sa sl (n+5)) newM GG kT [some (.ref ta),some (.ref wa),some (.int home),some (.int deep),some (.ref tb),some (.int way),none,none,none,none,none] (fun x σ=>Q (bj x.1) σ) E σ:=by
 unfold kT;tb_start;refine aH W.gs (by omega) (by decide) (by decide) fun dg σ1 d0 d1 G1 x1=>?_;have X1:KX [ta,tb] σ σ1:=x1.mono (by simp);have W1:=W.step G1 X1 (.refl _);have fx:∀ {pX tT:St},KX [ta,tb] σ pX->(∀ b∈[ta,tb],∃ o,pX b=some o)->∀ {Ak:St},KX [ta,tb] tT Ak->Ext (aD pX tT) (aD σ Ak):=fun k0 al _ k=>aD.up al k0 k;by_cases w5:way=5
 ·subst w5;tb_start;refine gU (n:=n+2) W1.gs (by omega) W1.nine d0 fun bare es2 σ2 G2 i2 l2 B2 X2=>?_;have W2:=W1.step G2 X2 i2;refine ar (n:=n+3) G2 (by omega) fun v es3 σ3 G3 i3 l3 D3 X3=>?_;have W3:=W2.step G3 X3 i3;intro a ha;have y4:=(Ext.refl σ3).put (o:=.dS [("is",.str "nothing")]) ha;have z4:put σ3 a (.dS [("is",.str "nothing")]) a=some (.dS [("is",.str "nothing")]):=af;generalize put σ3 a (.dS [("is",.str "nothing")])=σ4 at y4 z4 ⊢;have wU:=X3.trans (y4.kx _);have X4:=(X1.trans X2).trans wU;refine bZ.flag (σ:=aD σ1 σ2) (bare:=bare) (B:=fun x σ=>Q (.tup [v,.ref a,x]) σ) B2 ((aD.up W1.gs.al (KX.refl _ _) wU).trans (aD.all σ1 σ4)) ?_;have BB:=B2.inc (aD.up W1.gs.al X1 wU) i3;have za:aD σ σ4 a=some (.dS [("is",.str "nothing")]):=by
   rw[aD.at ((X1.trans (X2.trans X3)).gm W3.gs.al ha)];exact z4
  obtain⟨q1,q2,q3⟩:=BB.vA (o1:=o1) (o2:=o2) (o3:=o3) D3;have fe:gn (aD σ1 σ2) bare=true->gS (aD σ σ4) es3 v (.nothing a):=fun hf=>((B2.inc (Ext.refl _) i3).vB D3 (t:=.nothing a) hf trivial).inc (aD.up W1.gs.al X1 wU) (.refl _);refine hQ v a _ (.nothing a) es3 σ4 ((W3.ext y4).more (by omega)) (i2.trans i3) (by omega) X4.w3 rfl (dp ?_ ?_ fe ⟨rfl,rfl,rfl,rfl⟩ hS)
  ·unfold Tr.Val;exact⟨q1 _,q2,q3⟩
  ·unfold Tr.Sp;exact za
 ·have Am:(way==5)=false:=beq_eq_false_iff_ne.mpr w5;by_cases w4:way=4
  ·subst w4;tb_start;refine ar (n:=n+3) G1 (by omega) fun mk es2 σ2 G2 i2 l2 D2 X2=>?_;have W2:=W1.step G2 X2 i2;intro hd jl;have y3:=(Ext.refl σ2).put (o:=.dS [("Type",mk),("Obj",ai (6+dg))]) jl;have z3:put σ2 hd (.dS [("Type",mk),("Obj",ai (6+dg))]) hd=some (.dS [("Type",mk),("Obj",ai (6+dg))]):=af;generalize put σ2 hd (.dS [("Type",mk),("Obj",ai (6+dg))])=σ3 at y3 z3 ⊢;refine ar (n:=n+3) (G2.ext y3) (by omega) fun v pY σ4 G4 i4 l4 D4 X4=>?_;have W4:=(W2.ext y3).step G4 X4 i4;intro a ha;have y5:=(Ext.refl σ4).put (o:=.dS [("is",.str "object"),("number",.int (6+dg))]) ha;have z5:put σ4 a (.dS [("is",.str "object"),("number",.int (6+dg))]) a=some (.dS [("is",.str "object"),("number",.int (6+dg))]):=af;generalize put σ4 a (.dS [("is",.str "object"),("number",.int (6+dg))])=σ5 at y5 z5 ⊢;have yv:=X1.trans X2;have An:=(y3.kx [ta,tb]).trans X4;have X5:=(yv.trans An).trans (y5.kx _);have za:aD σ σ5 a=some (.dS [("is",.str "object"),("number",.int (6+dg))]):=by
    rw[aD.at ((yv.trans An).gm W4.gs.al ha)];exact z5
   have ne:∀ {b:Nat} {o:AO},σ2 b=none->b∉[ta,tb]:=fun h m=>by
    obtain⟨o,e⟩:=G2.al _ m;rw[h] at e;cases e
   have zh:aD σ σ5 hd=some (.dS [("Type",mk),("Obj",ai (6+dg))]):=by
    rw[aD.at (yv.gm G2.al jl)];exact y5 _ _ (X4 _ _ (ne (o:=.own) jl) z3)
   have fv:bb (aD σ σ5) pY 9 v (.ref hd):=D4.bG (j:=0) (.base ⟨_,zh,.inr rfl⟩) (by omega);have k1:atKey [(("Type":Str),mk),("Obj",ai (6+dg))] "Type"=some mk:=rfl;have k2:atKey [(("Type":Str),mk),("Obj",ai (6+dg))] "Obj"=some (ai (6+dg)):=rfl;have fm:bb (aD σ σ5) pY 9 mk (nameA "OBJR"):=(D2.inc i4).bG (j:=0) (.base (.inl rfl)) (by omega);have hs:=av.dict fv zh (by rw[k1];exact fm) (.name "OBJR");refine hQ v a true (.obj a (6+dg)) pY σ5 ((W4.ext y5).more (by omega)) (i2.trans i4) (by omega) X5.w3 rfl (dp ?_ ?_ (fun _=>.inl ⟨_,fv,_,zh,rfl⟩) ⟨rfl,rfl,rfl,rfl⟩ hS)
   ·unfold Tr.Val;exact⟨.skip hs (by decide) (by decide),.obj fv zh hs k2,_,hs,by decide⟩
   ·unfold Tr.Sp;exact za
  ·have Ao:(way==4)=false:=beq_eq_false_iff_ne.mpr w4;by_cases w3:way=3
   ·subst w3;obtain⟨left,hw⟩:=W1.bU;obtain⟨_,_,k3⟩:=cx (tb:=tb) (left:=left) (o1:=o1) (o2:=o2) (o3:=o3);simp? [Am,Ao,hw,k3];refine place_spec (n:=n+3) G1 hO (by omega) fun g p σ2 G2 X2 P2=>?_;have W2:=W1.step G2 X2 (.refl _);tb_start;refine ar (n:=n+3) G2 (by omega) fun mk es3 σ3 G3 i3 l3 D3 X3=>?_;refine ar (n:=n+3) G3 (by omega) fun mc pY σ4 G4 i4 l4 D4 X4=>?_;have W4:=W2.step G4 (X3.trans X4) (i3.trans i4);intro hd jl;have yw:=(X1.trans X2).trans (X3.trans X4);have hdn:=yw.gm G4.al jl;have hdx:hd∉[ta,tb]:=fun m=>by
     obtain⟨o,e⟩:=G4.al _ m;rw[jl] at e;cases e
    have fin:∀ (hes:List (Str×AV)) (σ5:St),KX [ta,tb] σ4 σ5->σ5 hd=some (.dS hes)->GS ta tb (m+8) pY σ5->atKey hes "Type"=some mk->atKey hes "MCID"=some mc->iq (aD σ σ5) (bB hes)->(if (atKey hes "Pg").isSome then bR o1 o2 o3 (bB hes) else home)=(yu home p)->
      FF sa sl (n+5) 31 [.ref ta,.ref tb,.ref hd] (fun v σ=>∀ a,σ a=none->Q (.tup [v,.ref a,.bool true]) (put σ a (.dS [("is",.str "content"),("page",.int (yu home p)),("number",.int dg)]))) E σ5:=by
     intro hes σ5 x5 h5 G5 t1 t2 t3 t4;refine ar (n:=n+3) G5 (by omega) fun v pw gp G6 i6 l6 D6 X6=>?_;have W6:=(W4.step G5 x5 (.refl _)).step G6 X6 i6;intro a ha;generalize ou:yu home p=pg at t4 ⊢;have y7:=(Ext.refl gp).put (o:=.dS [("is",.str "content"),("page",.int pg),("number",.int dg)]) ha;have z7:put gp a (.dS [("is",.str "content"),("page",.int pg),("number",.int dg)]) a=some (.dS [("is",.str "content"),("page",.int pg),("number",.int dg)]):=af;generalize put gp a (.dS [("is",.str "content"),("page",.int pg),("number",.int dg)])=oK at y7 z7 ⊢;have Ap:=x5.trans X6;have X7:=(yw.trans Ap).trans (y7.kx _);have za:aD σ oK a=some (.dS [("is",.str "content"),("page",.int pg),("number",.int dg)]):=by
      rw[aD.at ((yw.trans Ap).gm W6.gs.al ha)];exact z7
     have zh:aD σ oK hd=some (.dS hes):=by
      rw[aD.at hdn];exact y7 _ _ (X6 _ _ hdx h5)
     have fv:bb (aD σ oK) pw 9 v (.ref hd):=D6.bG (j:=0) (.base ⟨_,zh,.inr rfl⟩) (by omega);have fm:bb (aD σ oK) pw 9 mk (nameA "MCR"):=((D3.inc i4).inc i6).bG (j:=0) (.base (.inl rfl)) (by omega);have fc:bb (aD σ oK) pw 9 mc (.int dg):=(D4.inc i6).bG (j:=0) (.base trivial) (by omega);have hs:=av.dict fv zh (by rw[t1];exact fm) (.name "MCR");have xe:Ext (aD σ σ5) (aD σ oK):=aD.up W.gs.al (KX.refl _ _) (X6.trans (y7.kx _));refine hQ v a true (.content a pg dg) pw oK ((W6.ext y7).more (by omega)) ((i3.trans i4).trans i6) (by omega) X7.w3 rfl (dp ?_ ?_ (fun _=>.inl ⟨_,fv,_,zh,rfl⟩) ⟨rfl,rfl,rfl,rfl⟩ hS)
     ·unfold Tr.Val;have T:=Told.ju (o1:=o1) (o2:=o2) (o3:=o3) (home:=home) fv zh (by rw[t1];exact fm) (by rw[t2];exact fc) d0 (t3.ext xe);rw[t4] at T;exact⟨T,.skip hs (by decide),_,hs,by decide⟩
     ·unfold Tr.Sp;exact za
    have y5:=(Ext.refl σ4).put (o:=.dS [("Type",mk),("MCID",mc)]) jl;have G5:=(G4.ext y5).more (show m+1+1+3+3<=m+8 by omega);cases P2 with
    | none=>
     tb_start;exact fin [("Type",mk),("MCID",mc)] _ (y5.kx _) af G5 rfl rfl .none rfl
    | some pv pn=>
     simp? [pn];have k1:atKey [(("Type":Str),mk),("MCID",mc)] "Pg"=none:=rfl;have e:putK [(("Type":Str),mk),("MCID",mc)] "Pg" g=[(("Type":Str),mk),("MCID",mc),("Pg",g)]:=aL k1;rw[e];have k2:atKey [(("Type":Str),mk),("MCID",mc),("Pg",g)] "Pg"=some g:=rfl;have G6:GS ta tb (m+8) pY (put σ4 hd (.dS [("Type",mk),("MCID",mc),("Pg",g)])):=(G4.ext ((Ext.refl σ4).put jl)).more (by omega);have:=fin [("Type",mk),("MCID",mc),("Pg",g)] _ (((Ext.refl σ4).put (o:=.dS [("Type",mk),("MCID",mc),("Pg",g)]) jl).kx _) af G6 rfl rfl (by
      show iq _ ((atKey _ _).getD _);rw[k2];exact pv.ext (aD.up W1.gs.al X1 ((X3.trans X4).trans (((Ext.refl σ4).put jl).kx _)))) (by
      show (if (atKey _ _).isSome=true then bR o1 o2 o3 ((atKey _ _).getD _) else home)=_;rw[k2];rfl)
     exact this
   ·have BO:(way==3)=false:=beq_eq_false_iff_ne.mpr w3;simp? [Am,Ao,BO];refine ar (n:=n+3) G1 (by omega) fun v es2 σ2 G2 i2 l2 D2 X2=>?_;have W2:=W1.step G2 X2 i2;intro a ha;have y3:=(Ext.refl σ2).put (o:=.dS [("is",.str "content"),("page",.int home),("number",.int dg)]) ha;have z3:put σ2 a (.dS [("is",.str "content"),("page",.int home),("number",.int dg)]) a=some (.dS [("is",.str "content"),("page",.int home),("number",.int dg)]):=af;generalize put σ2 a (.dS [("is",.str "content"),("page",.int home),("number",.int dg)])=σ3 at y3 z3 ⊢;have za:aD σ σ3 a=some (.dS [("is",.str "content"),("page",.int home),("number",.int dg)]):=by
     rw[aD.at ((X1.trans X2).gm W2.gs.al ha)];exact z3
    have fv:bb (aD σ σ3) es2 9 v (.int dg):=D2.bG (j:=0) (.base trivial) (by omega);refine hQ v a true (.content a home dg) es2 σ3 ((W2.ext y3).more (by omega)) i2 l2 ((X1.trans X2).trans (y3.kx _)).w3 rfl (dp ?_ ?_ (fun _=>.inl ⟨_,fv,trivial⟩) ⟨rfl,rfl,rfl,rfl⟩ hS)
    ·unfold Tr.Val;exact⟨.plain fv d0,.skip (.content fv d0) (by decide),_,.content fv d0,by decide⟩
    ·unfold Tr.Sp;exact za
theorem au {K:Type} [DecidableEq K] {v:AV} {k j:K}:∀ {es:List (K×AV)},atKey (putK es k v) j=if k=j then some v else atKey es j:=by
 intro es;unfold putK;split
 ·rename_i h;have key:∀ es:List (K×AV),atKey (es.map fun e=>if e.1=k then (e.1,v) else e) j=if k=j then (if es.any (fun e=>e.1=k) then some v else none) else atKey es j:=by
   intro es;induction es with
   | nil=>simp [atKey]
   | cons e es ih=>
    obtain⟨a,w⟩:=e;rw[List.map_cons];by_cases q:a=k
    ·subst q;rw[if_pos rfl,aj,aj];by_cases p:a=j
     ·rw[if_pos p,if_pos p];simp
     ·rw[if_neg p,if_neg p,ih,if_neg p];exact (if_neg p).symm
    ·rw[if_neg q,aj,aj,ih];by_cases p:a=j
     ·subst p;rw[if_pos rfl,if_neg (Ne.symm q)];simp
     ·rw[if_neg p];by_cases z:k=j
      ·rw[if_pos z,if_pos z];simp only[List.any_cons,decide_eq_false q,Bool.false_or]
      ·rw[if_neg z,if_neg z];exact (if_neg p).symm
  rw[key];by_cases z:k=j
  ·rw[if_pos z,if_pos z,if_pos h]
  ·rw[if_neg z,if_neg z]
 ·rename_i h;rw[aP];by_cases z:k=j
  ·subst z;have:atKey es k=none:=by
    unfold atKey;rw[Option.map_eq_none_iff,List.find?_eq_none];intro x hx q;exact h (List.any_eq_true.mpr ⟨x,hx,q⟩)
   rw[this]
  ·cases atKey es j<;>simp [z]
theorem aS {K:Type} [DecidableEq K] {v:AV} {k:K} {es:List (K×AV)}:(putK es k v).length<=es.length+1:=by
 unfold putK;split
 ·rw[List.length_map];omega
 ·rw[List.length_append];exact Nat.le_refl _
structure d9 (es:List (Int×AV)) (hes bx:List (Str×AV)) (word:Str) (own:Option Str):Prop where
 len:bx.length<=hes.length+3
 rest:∀ key:Str,key≠"S"->key≠"ActualText"->key≠"Type"->atKey bx key=atKey hes key
 fS:∃ k,(∀ τ,bb τ es 9 ((atKey bx "S").getD .none) k)/\∀ τ,bu τ k word
 fO:∃ k,(∀ τ,bb τ es 9 ((atKey bx "ActualText").getD .none) k)/\cY k own
 typ:atKey bx "Type"=none\/atKey bx "Type"=some (nameA "StructElem")
 short:jy word own
theorem d9.inc {es es':List (Int×AV)} {hes bx:List (Str×AV)} {word:Str} {own:Option Str} (i:cn es es') (h:d9 es hes bx word own):d9 es' hes bx word own:=by
 obtain⟨a,b,⟨k,c,d⟩,⟨k',e,f⟩,g,s⟩:=h;exact⟨a,b,⟨k,fun τ=>(c τ).ext (Ext.refl _) i,d⟩,⟨k',fun τ=>(e τ).ext (Ext.refl _) i,f⟩,g,s⟩
abbrev fw:List AV:=[.str "A",.str "B",.str "C",.str "D",.str "E"]
abbrev kU:List AV:=[.str "own",.str ⟨#[945]⟩,.str ""]
def gV:PSs:=(.cons (.ite (.cmp .eq (.call 30 (.cons (.loc 0) (.cons (.int 2) .nil))) (.int 1)) (.cons (.asg (.sub (.loc 2) (.str ("Type":Str))) (.new 0 (.cons (.str ("StructElem":Str)) .nil)))
  .nil) .nil)
  (.cons (.ret (.tup (.cons (.ite (.cmp .lt (.loc 3) (.int 5)) (.item (.glob 4) (.loc 3)) (.str ("":Str))) (.cons (.ite (.cmp .lt (.loc 4) (.int 3)) (.item (.tup (.cons (.str ("own":Str)) (.cons (.bi 3 (.int 945)) (.cons (.str ("":Str)) .nil)))) (.loc 4)) .none) .nil))))
  .nil))
def jG:PSs:=(.cons (.asg (.loc 4) (.call 30 (.cons (.loc 0) (.cons (.int 8) .nil))))
  (.cons (.ite (.cmp .lt (.loc 4) (.int 4)) (.cons (.asg (.loc 5) (.list (.cons (.new 1 (.cons (.bytes [111,119,110]) .nil)) (.cons (.new 1 (.cons (.bytes [254,255,3,177]) .nil)) (.cons (.new 1 (.cons (.bytes []) .nil)) (.cons (.new 0 (.cons (.str ("own":Str)) .nil)) .nil))))))
  (.cons (.asg (.sub (.loc 2) (.str ("ActualText":Str))) (.call 31 (.cons (.loc 0) (.cons (.loc 1) (.cons (.item (.loc 5) (.loc 4)) .nil)))))
  .nil)) .nil) gV))
theorem tU:Law.f_law_words_told.body=(.cons (.asg (.loc 3) (.call 30 (.cons (.loc 0) (.cons (.int 7) .nil))))
  (.cons (.ite (.cmp .lt (.loc 3) (.int 5)) (.cons (.asg (.sub (.loc 2) (.str ("S":Str))) (.call 31 (.cons (.loc 0) (.cons (.loc 1) (.cons (.new 0 (.cons (.item (.glob 4) (.loc 3)) .nil)) .nil)))))
  .nil) .nil)
  (.cons (.ite (.cmp .eq (.loc 3) (.int 5)) (.cons (.asg (.sub (.loc 2) (.str ("S":Str))) (.call 31 (.cons (.loc 0) (.cons (.loc 1) (.cons (.new 1 (.cons (.bytes [65]) .nil)) .nil)))))
  .nil) .nil) jG))):=rfl
theorem GS.ne2 (G:GS ta tb m es σ) (hh:σ h=some (.dS hes)):h∉[ta,tb]:=fun q=>by
 obtain⟨_,_,_,fT,_⟩:=G.eD;have ht:=G.tab;simp only[List.mem_cons,List.not_mem_nil,or_false] at q;rcases q with rfl | rfl
 ·rw[hh] at fT;cases fT
 ·rw[hh] at ht;cases ht
theorem GS.set (G:GS ta tb m es σ) (hh:σ h=some (.dS hes)) {o:AO}:GS ta tb m es (Mine.put σ h o):=by
 have:=G.ne2 hh;simp only[List.mem_cons,List.not_mem_nil,or_false,not_or] at this;exact G.put (Ne.symm this.1) (Ne.symm this.2)
abbrev jH (ta tb m:Nat) (es:List (Int×AV)) (σ:St) (h:Nat) (hes:List (Str×AV)) (Q:AV->St->Prop):Prop:=∀ word own bx es' σ',GS ta tb m es' σ'->cn es es'->es.length<=es'.length->KX [ta,tb,h] σ σ'->σ' h=some (.dS bx)->d9 es' hes bx word own->Q (.tup [.str word,ownA own]) σ'
theorem kW {σ0:St} {es0:List (Int×AV)} {hes0:List (Str×AV)} {m0:Nat} (G:GS ta tb m es σ) (hm:m < 450000) (hh:σ h=some (.dS hes)) (hlen:hes.length<=hes0.length+2) (fV:hes0.length<=20)
  (i0:cn es0 es) (l0:es0.length<=es.length) (k0:KX [ta,tb,h] σ0 σ) (wN:m+1<=m0)
  (hrest:∀ key:Str,key≠"S"->key≠"ActualText"->atKey hes key=atKey hes0 key) (kH:atKey hes0 "Type"=none) {word:Str} {own:Option Str}
  (hS:∃ k,(∀ τ,bb τ es 9 ((atKey hes "S").getD .none) k)/\∀ τ,bu τ k word) (hO:∃ k,(∀ τ,bb τ es 9 ((atKey hes "ActualText").getD .none) k)/\cY k own) (hs:∀ s,own=some s->s.length<=3)
  {role way:Int} (hr:(role < 5/\(0<=role/\role < 1152921504606846976)/\fw[role.toNat]? =some (.str word))\/(¬ role < 5/\word="")) (hw:(way < 3/\(0<=way/\way < 1152921504606846976)/\kU[way.toNat]? =some (ownA own))\/(¬ way < 3/\own=none))
  {s5:Option AV} (hQ:jH ta tb m0 es0 σ0 h hes0 Q):
  evSs (FF sa sl (n+2)) newM GG gV [some (.ref ta),some (.ref tb),some (.ref h),some (.int role),some (.int way),s5] (fun x σ=>Q (bj x.1) σ) E σ:=by
 unfold gV;tb_start;refine aH G (by omega) (by decide) (by decide) fun k σ1 Dk k1 G1 x1=>?_;have hne:=G.ne2 hh;have h1:σ1 h=some (.dS hes):=x1 _ _ (fun q=>hne (by rw[List.mem_singleton] at q;rw[q];exact .head _)) hh;have X1:KX [ta,tb,h] σ0 σ1:=k0.trans (x1.mono (by simp));have ret:∀ (bx:List (Str×AV)) (σ2:St),σ2 h=some (.dS bx)->KX [ta,tb,h] σ0 σ2->GS ta tb (m+1) es σ2->d9 es hes0 bx word own->
   (if decide (role < 5)=true then (0<=role/\role < 1152921504606846976)/\mB fw[role.toNat]? fun v=>if decide (way < 3)=true then (0<=way/\way < 1152921504606846976)/\mB kU[way.toNat]? fun BP=>Q (.tup [v,BP]) σ2 else Q (.tup [v,.none]) σ2
    else if decide (way < 3)=true then (0<=way/\way < 1152921504606846976)/\mB kU[way.toNat]? fun v=>Q (.tup [.str "",v]) σ2 else Q (.tup [.str "",.none]) σ2):=by
  intro bx σ2 h2 k2 G2 P;have:=hQ word own bx es σ2 (G2.more (by omega)) i0 l0 k2 h2 P;rcases hr with ⟨r1,r2,r3⟩ | ⟨r1,rfl⟩
  ·rw[if_pos (decide_eq_true r1),r3,bM];refine⟨r2,?_⟩;rcases hw with ⟨w1,w2,w3⟩ | ⟨w1,rfl⟩
   ·rw[if_pos (decide_eq_true w1),w3,bM];exact⟨w2,this⟩
   ·rw[if_neg (by simpa using w1)];exact this
  ·rw[if_neg (by simpa using r1)];rcases hw with ⟨w1,w2,w3⟩ | ⟨w1,rfl⟩
   ·rw[if_pos (decide_eq_true w1),w3,bM];exact⟨w2,this⟩
   ·rw[if_neg (by simpa using w1)];exact this
 have BQ:PyData.strOk word=true:=by
  rcases hr with ⟨r1,r2,r3⟩ | ⟨_,rfl⟩
  ·have:role=0\/role=1\/role=2\/role=3\/role=4:=by omega
   rcases this with rfl | rfl | rfl | rfl | rfl<;>(cases r3;decide+kernel)
  ·decide+kernel
 have hs':jy word own:=⟨hs,BQ⟩;have BR:(⟨#[(945:Int).toNat]⟩:Str)=⟨#[945]⟩:=rfl;by_cases hk:k=1
 ·subst hk;have hl:hes.length<=1000000:=by omega
  simp? [h1,hl];have P:d9 es hes0 (putK hes "Type" (nameA "StructElem")) word own:=by
   refine⟨?_,fun key a b c=>?_,?_,?_,.inr ?_,hs'⟩
   ·have:=aS (es:=hes) (k:=("Type":Str)) (v:=nameA "StructElem");omega
   ·rw[au,if_neg (Ne.symm c)];exact hrest key a b
   ·rw[au,if_neg (by decide)];exact hS
   ·rw[au,if_neg (by decide)];exact hO
   ·rw[au,if_pos rfl]
  exact ret _ _ af (X1.put (.inl (by simp))) (G1.set h1) P
 ·have hk':(k==1)=false:=beq_eq_false_iff_ne.mpr hk;simp? [hk'];exact ret _ _ h1 X1 G1 ⟨by omega,fun key a b c=>hrest key a b,hS,hO,.inl (by rw[hrest _ (by decide) (by decide)];exact kH),hs'⟩
theorem gW {σ0:St} {es0:List (Int×AV)} {hes0:List (Str×AV)} {m0:Nat} (G:GS ta tb m es σ) (hm:m < 400000) (hh:σ h=some (.dS hes)) (hlen:hes.length<=hes0.length+1) (fV:hes0.length<=20)
  (i0:cn es0 es) (l0:es0.length<=es.length) (k0:KX [ta,tb,h] σ0 σ) (wN:m+5<=m0)
  (hrest:∀ key:Str,key≠"S"->atKey hes key=atKey hes0 key) (kH:atKey hes0 "Type"=none) (tV:atKey hes0 "ActualText"=none) {word:Str}
  (hS:∃ k,(∀ τ,bb τ es 9 ((atKey hes "S").getD .none) k)/\∀ τ,bu τ k word)
  {role:Int} (hr:(role < 5/\(0<=role/\role < 1152921504606846976)/\fw[role.toNat]? =some (.str word))\/(¬ role < 5/\word="")) (hQ:jH ta tb m0 es0 σ0 h hes0 Q):
  evSs (FF sa sl (n+2)) newM GG jG [some (.ref ta),some (.ref tb),some (.ref h),some (.int role),none,none] (fun x σ=>Q (bj x.1) σ) E σ:=by
 unfold jG;tb_start;refine aH G (by omega) (by decide) (by decide) fun w σ1 w0 w1 G1 x1=>?_;have hne:=G.ne2 hh;have h1:σ1 h=some (.dS hes):=x1 _ _ (fun q=>hne (by rw[List.mem_singleton] at q;rw[q];exact .head _)) hh;have X1:KX [ta,tb,h] σ0 σ1:=k0.trans (x1.mono (by simp));by_cases hw:w < 4
 ·simp? [hw];intro a ha;have y2:=(Ext.refl σ1).put (o:=.list [bf [111,119,110],bf [254,255,3,177],bf [],nameA "own"]) ha;have z2:put σ1 a (.list [bf [111,119,110],bf [254,255,3,177],bf [],nameA "own"]) a=some (.list [bf [111,119,110],bf [254,255,3,177],bf [],nameA "own"]):=af;generalize put σ1 a (.list [bf [111,119,110],bf [254,255,3,177],bf [],nameA "own"])=σ2 at y2 z2 ⊢;have X2:KX [ta,tb,h] σ0 σ2:=X1.trans (y2.kx _);have go:∀ (bare:AV) (own:Option Str),cY bare own->(∀ τ es,bb τ es 0 bare bare)->(∀ s,own=some s->s.length<=3)->((w < 3/\(0<=w/\w < 1152921504606846976)/\kU[w.toNat]? =some (ownA own))\/(¬ w < 3/\own=none))->
    FF sa sl (n+2) 31 [.ref ta,.ref tb,bare] (fun v σ=>cS (σ h) fun x=>mO x fun es=>es.length<=1000000/\evSs (FF sa sl (n+2)) newM GG gV [some (.ref ta),some (.ref tb),some (.ref h),some (.int role),some (.int w),some (.ref a)] (fun x σ=>Q (bj x.1) σ) E (put σ h (.dS (putK es "ActualText" v)))) E σ2:=by
   intro bare own O1 O2 O3 O4;refine ar (G1.ext y2) (by omega) fun v es3 σ3 G3 i3 l3 D3 X3=>?_;have h3:σ3 h=some (.dS hes):=X3 _ _ hne (y2 _ _ h1);have hl:hes.length<=1000000:=by omega
   rw[h3,aW,jX];refine⟨hl,?_⟩;obtain⟨kS,S1,S2⟩:=hS;refine kW (G3.set h3) (by omega) af (hes0:=hes0) ?_ fV (i0.trans i3) (by omega) ((X2.trans (X3.mono (by simp only[List.mem_cons,List.not_mem_nil,or_false];intro b hb;exact hb.elim .inl fun z=>.inr (.inl z)))).put (.inl (by simp))) (by omega) (fun key a b=>?_) kH ⟨kS,fun τ=>?_,S2⟩ ⟨bare,fun τ=>?_,O1⟩ O3 hr O4 hQ
   ·have:=aS (es:=hes) (k:=("ActualText":Str)) (v:=v);omega
   ·rw[au,if_neg (Ne.symm b)];exact hrest key a
   ·rw[au,if_neg (by decide)];exact (S1 τ).ext (Ext.refl _) i3
   ·rw[au,if_pos rfl];exact (D3.sN (O2 τ es3)).more (by decide)
  have BS:w=0\/w=1\/w=2\/w=3:=by omega
  rcases BS with rfl | rfl | rfl | rfl
  ·simp? [z2,Int.toNat_zero];exact go (bf [111,119,110]) (some "own") .own (fun τ es=>.base (.inr (.inl rfl))) (fun s e=>by cases e;decide) (.inl ⟨by decide,by decide,rfl⟩)
  ·simp? [z2,Int.toNat_one];exact go (bf [254,255,3,177]) (some ⟨#[945]⟩) .alpha (fun τ es=>.base (.inr (.inl rfl))) (fun s e=>by cases e;decide) (.inl ⟨by decide,by decide,rfl⟩)
  ·simp? [z2,show (2:Int).toNat=2 from rfl];exact go (bf []) (some Str.empty) .empty (fun τ es=>.base (.inr (.inl rfl))) (fun s e=>by cases e;decide) (.inl ⟨by decide,by decide,rfl⟩)
  ·simp? [z2,show (3:Int).toNat=3 from rfl];exact go (nameA "own") none (.name _) (fun τ es=>.base (.inl rfl)) (fun s e=>by cases e) (.inr ⟨by decide,rfl⟩)
 ·simp? [hw];exact kW G1 (by omega) h1 (by omega) fV i0 l0 X1 (by omega) (fun key a b=>hrest key a) kH hS ⟨.none,fun τ=>by rw[hrest _ (by decide),tV];exact .base trivial,.none⟩ (fun s e=>by cases e) hr (.inr ⟨by omega,rfl⟩) hQ
theorem jI (G:GS ta tb m es σ) (hm:m < 350000) (hh:σ h=some (.dS hes)) (fV:hes.length<=20) (kH:atKey hes "Type"=none) (tV:atKey hes "ActualText"=none) (uE:atKey hes "S"=none) (hQ:jH ta tb (m+9) es σ h hes Q):FF sa sl (n+3) 36 [.ref ta,.ref tb,.ref h] Q E σ:=by
 refine ao Law.f_law_words_told rfl (by decide) rfl ?_;unfold runs;rw[tU,show Law.f_law_words_told.nl - Law.f_law_words_told.np=3 from rfl];tb_start;refine aH G (by omega) (by decide) (by decide) fun r σ1 r0 r1 G1 x1=>?_;have hne:=G.ne2 hh;have h1:σ1 h=some (.dS hes):=x1 _ _ (fun q=>hne (by rw[List.mem_singleton] at q;rw[q];exact .head _)) hh;have X1:KX [ta,tb,h] σ σ1:=x1.mono (by simp);have up:∀ {σ2 σ3:St},KX [ta,tb] σ2 σ3->KX [ta,tb,h] σ2 σ3:=fun x=>x.mono (by simp only[List.mem_cons,List.not_mem_nil,or_false];intro b hb;exact hb.elim .inl fun z=>.inr (.inl z));have hl:hes.length<=1000000:=by omega
 by_cases hr:r < 5
 ·obtain⟨word,hw⟩:∃ word,fw[r.toNat]? =some (.str word):=by
   have:r=0\/r=1\/r=2\/r=3\/r=4:=by omega
   rcases this with rfl | rfl | rfl | rfl | rfl<;>exact⟨_,rfl⟩
  have yx:(r==5)=false:=beq_eq_false_iff_ne.mpr (by omega);have r2:r < 1152921504606846976:=by omega
  simp? [hr,hw,r0,r2];refine ar G1 (by omega) fun v es2 σ2 G2 i2 l2 D2 X2=>?_;have h2:σ2 h=some (.dS hes):=X2 _ _ hne h1;simp? [h2,hl,yx];refine gW (G2.set h2) (by omega) af (hes0:=hes) ?_ fV i2 l2 ((X1.trans (up X2)).put (.inl (by simp))) (by omega) (fun key a=>?_) kH tV ⟨nameA word,fun τ=>?_,fun τ=>.name word⟩ (.inl ⟨hr,⟨r0,r2⟩,hw⟩) hQ
  ·exact aS
  ·rw[au,if_neg (Ne.symm a)]
  ·rw[au,if_pos rfl];exact D2.bG (j:=0) (.base (.inl rfl)) (by omega)
 ·by_cases h5:r=5
  ·subst h5;tb_start;refine ar G1 (by omega) fun v es2 σ2 G2 i2 l2 D2 X2=>?_;have h2:σ2 h=some (.dS hes):=X2 _ _ hne h1;simp? [h2,hl];refine gW (G2.set h2) (by omega) af (hes0:=hes) ?_ fV i2 l2 ((X1.trans (up X2)).put (.inl (by simp))) (by omega) (fun key a=>?_) kH tV (word:="") ⟨bf [65],fun τ=>?_,fun τ=>.str _⟩ (.inr ⟨by decide,rfl⟩) hQ
   ·exact aS
   ·rw[au,if_neg (Ne.symm a)]
   ·rw[au,if_pos rfl];exact D2.bG (j:=0) (.base (.inr (.inl rfl))) (by omega)
  ·have yx:(r==5)=false:=beq_eq_false_iff_ne.mpr h5;simp? [hr,yx];exact gW G1 (by omega) h1 (hes0:=hes) (by omega) fV (.refl _) (Nat.le_refl _) X1 (by omega) (fun key a=>rfl) kH tV (word:="") ⟨.none,fun τ=>by rw[uE];exact .base trivial,fun τ=>.none⟩ (.inr ⟨hr,rfl⟩) hQ
inductive cI (P:AV->Tr->Bool->Prop):ah->List AV->Prop where
 | nil:cI P .nil []
 | cons {v t fl r l}:P v t fl->cI P r l->cI P (.cons v t r) (.tup [v,.ref t.adr,.bool fl]::l)
theorem cI.mono {P P':AV->Tr->Bool->Prop} (h:∀ v t fl,P v t fl->P' v t fl) {r:ah} {l:List AV} (T:cI P r l):cI P' r l:=by
 induction T with
 | nil=>exact .nil
 | cons a _ ih=>exact .cons (h _ _ _ a) ih
def vE:AV->Option AV
 | .tup (v::_)=>some v
 | _=>none
def tW:AV->Option AV
 | .tup (_::v::_)=>some v
 | _=>none
theorem cI.vals {P:AV->Tr->Bool->Prop} {r:ah} {l:List AV} (T:cI P r l):l.filterMap vE=r.vals:=by
 induction T with
 | nil=>rfl
 | cons a _ ih=>rw[List.filterMap_cons];exact congrArg (_::·) ih
theorem cI.aT {P:AV->Tr->Bool->Prop} {r:ah} {l:List AV} (T:cI P r l):l.filterMap tW=r.aT:=by
 induction T with
 | nil=>rfl
 | cons a _ ih=>rw[List.filterMap_cons];exact congrArg (_::·) ih
theorem cI.mem {P:AV->Tr->Bool->Prop} {r:ah} {l:List AV} (T:cI P r l):∀ x∈l,∃ v a fl,x=.tup [v,.ref a,.bool fl]:=by
 induction T with
 | nil=>intro x m;cases m
 | cons a _ ih=>
  intro x m;rcases List.mem_cons.mp m with rfl | m
  ·exact⟨_,_,_,rfl⟩
  ·exact ih x m
theorem cI.len {P:AV->Tr->Bool->Prop} {r:ah} {l:List AV} (T:cI P r l):l.length=r.vals.length:=by
 induction T with
 | nil=>rfl
 | cons a _ ih=>exact congrArg (· +1) ih
structure ez (σ σ':St) (es es':List (Int×AV)) (o1 o2 o3 home:Int) (r:ah) (l:List AV) (S D:Nat):Prop where
 val:r.Val (aD σ σ') es' o1 o2 o3 home
 sp:r.Sp (aD σ σ')
 mf:cI (fun v t fl=>fl=true->gS (aD σ σ') es' v t) r l
 size:r.size<=S
 dep:r.dep<=D
 nums:(∀ x∈r.nums,100+(es.length:Int)<=x/\x < 100+(es'.length:Int))/\r.nums.Nodup
 heads:(∀ h∈r.heads,σ h=none/\∃ o,σ' h=some (.dS o)/\o.length<=40)/\r.heads.Nodup
theorem ez.nil {S D:Nat}:ez σ σ' es es' o1 o2 o3 home .nil [] S D:=
 ⟨by unfold ah.Val;trivial,by unfold ah.Sp;trivial,.nil,Nat.zero_le _,Nat.zero_le _,⟨fun x m=>(by cases m),List.nodup_nil⟩,⟨fun x m=>(by cases m),List.nodup_nil⟩⟩
theorem ez.cons {X:List Nat} {σ1 σ2:St} {jb es2:List (Int×AV)} {v:AV} {t:Tr} {fl:Bool} {r:ah} {l:List AV} {S S' D:Nat} (A:Made σ σ1 es jb o1 o2 o3 home v t fl S D) (B:ez σ1 σ2 jb es2 o1 o2 o3 home r l S' D) (al:Al X σ) (Aq:Al X σ1) (k1:KX X σ σ1) (k2:KX X σ1 σ2) (i2:cn jb es2) (l1:es.length<=jb.length) (l2:jb.length<=es2.length):ez σ σ2 es es2 o1 o2 o3 home (.cons v t r) (.tup [v,.ref t.adr,.bool fl]::l) (S+S') D:=by
 have x1:Ext (aD σ σ1) (aD σ σ2):=aD.up al (KX.refl _ _) k2;have x2:Ext (aD σ1 σ2) (aD σ σ2):=aD.up Aq k1 (KX.refl _ _);obtain⟨a1,a2,a3,a4,a5,⟨a6,a7⟩,a8,a9⟩:=A;obtain⟨b1,b2,b3,b4,b5,⟨b6,b7⟩,b8,b9⟩:=B;refine⟨by unfold ah.Val;exact⟨a1.inc x1 i2,b1.inc x2 (.refl _)⟩,by unfold ah.Sp;exact⟨a2.ext x1,b2.ext x2⟩,.cons (fun h=>(a3 h).inc x1 i2) (b3.mono fun v t fl h f=>(h f).inc x2 (.refl _)),by unfold ah.size;omega,by unfold ah.dep;omega,⟨?_,?_⟩,?_,?_⟩
 ·intro x m;unfold ah.nums at m;rcases List.mem_append.mp m with m | m
  ·have:=a6 x m;omega
  ·have:=b6 x m;omega
 ·unfold ah.nums;rw[List.nodup_append];refine⟨a7,b7,fun x hx y hy q=>?_⟩;have h1:=a6 x hx;have h2:=b6 y hy;omega
 ·intro x m;unfold ah.heads at m;rcases List.mem_append.mp m with m | m
  ·obtain⟨h1,o,h2,h3⟩:=a8 x m;exact⟨h1,o,k2 _ _ (fun q=>by obtain⟨o',e⟩:=al x q;rw[h1] at e;cases e) h2,h3⟩
  ·obtain⟨h1,h2⟩:=b8 x m;exact⟨k1.gm Aq h1,h2⟩
 ·unfold ah.heads;rw[List.nodup_append];refine⟨a9,b9,fun x hx y hy q=>?_⟩;obtain⟨_,o,h1,_⟩:=a8 x hx;obtain⟨h2,_⟩:=b8 y hy;rw[q,h2] at h1;cases h1
theorem tY {F:Nat->List AV->M AV} {ρ:Frame} {a i:PE} {B:Bool->St->Prop}:(ev F newM GG (.item a i) ρ).2 B E σ=(ev F newM GG a ρ).1 (fun x σ=>(ev F newM GG i ρ).1 (fun y σ=>itemM x y (fun v σ=>truthM v B E σ) E σ) E σ) E σ:=Eq.trans rfl rfl
def fy (τ:St) (es:List (Int×AV)) (hes:List (Str×AV)) (l:List AV):Prop:=∃ w,bb τ es 9 ((atKey hes "K").getD .none) w/\((w=.none/\l=[])\/(∃ b,w=.ref b/\τ b=some (.list l))\/(bl τ w/\∃ v,atKey hes "K"=some v/\l=[v]))
theorem fy.items {τ:St} {l:List AV} (K:fy τ es hes l) (hh:τ h=some (.dS hes)):aA τ es h l:=by
 obtain⟨w,h1,h2⟩:=K;exact⟨hes,hh,w,h1,h2⟩
theorem ec {F:Nat->List AV->M AV} {P:AV->Tr->Bool->Prop} {its:ah} {l:List AV} (T:cI P its l) {th i:Nat} (hth:σ th=some (.list l)) (hl:l.length<=1000) {ρ:Frame} (hi:i < ρ.length) {j:Nat} (g:AV->Option AV) (hg:∀ v a fl,g (.tup [v,.ref a,.bool fl])=([v,.ref a,.bool fl]:List AV)[j]?) (hj:j < 2) {V:List AV->St->Prop} (hV:∀ σ',Ext σ σ'->V (l.filterMap g) σ'):
  forM (fun σ=>σ th=some (.list l)) (fun _=>ret false) (compF [i] ρ (cm F .nil) (cf F (.item (.loc i) (.int j)))) l [] V E σ:=by
 have h0:=aU (σ:=σ) (E:=E) (V:=V) (ρ:=ρ) (t:=[i]) (ifs:=cm F .nil) (elt:=cf F (.item (.loc i) (.int j))) (ok:=fun σ=>σ th=some (.list l)) (p:=id) g l (fun σ' x=>x _ _ hth) (by omega) (fun x m σ' x' K hK=>by
  obtain⟨v,a,fl,rfl⟩:=T.mem x m;refine⟨_,rfl,?_⟩;unfold cm cf;have hs:(ρ.set i (some (id (AV.tup [v,.ref a,.bool fl]))))[i]? =some (some (AV.tup [v,.ref a,.bool fl])):=by
   rw[List.getElem?_set_self hi];rfl
  have BU:(0:Int)<=(j:Int)/\(j:Int) < 1152921504606846976:=by omega
  have:=hK σ' (.refl _);rw[hg] at this;have BV:∃ w,([v,.ref a,.bool fl]:List AV)[j]? =some w:=by
   rcases (by omega:j=0\/j=1) with rfl | rfl<;>exact⟨_,rfl⟩
  obtain⟨w,hw⟩:=BV;rw[hw] at this;simp only[eQ,if_true,gD,fX,hs,cu,iz,gz,Int.toNat_natCast,hw,bM];exact⟨BU,this⟩) hV
 rwa [List.map_id] at h0
abbrev yy (ta tb m:Nat) (es:List (Int×AV)) (σ τ:St) (h:Nat) (hes:List (Str×AV)) (its:ah) (Q:AV->St->Prop):Prop:=∀ rw bx es' σ' its',GS ta tb m es' σ'->cn es es'->es.length<=es'.length->KX [ta,tb,h] σ σ'->σ rw=none->σ' rw=some (.list its.vals)->σ' h=some (.dS bx)->bx.length<=hes.length+1->(∀ key:Str,key≠"K"->atKey bx key=atKey hes key)->br h its its'->
 (∀ gq,Ext τ gq->gq rw=some (.list its.vals)->fy gq es' bx its'.vals)->Q (.ref rw) σ'
theorem iS {τ:St} (G:GS ta tb m es σ) (hm:m < 400000) (hh:σ h=some (.dS hes)) (fV:hes.length<=30) (hK:atKey hes "K"=none) {th:Nat} {its:ah} {l:List AV} (hth:σ th=some (.list l)) (T:cI (fun v t fl=>fl=true->gS τ es v t) its l) (hsz:its.size<=1000) (hQ:yy ta tb (m+4) es σ τ h hes its Q):FF sa sl (n+3) 37 [.ref ta,.ref tb,.ref h,.ref th] Q E σ:=by
 have hvl:=its.aR;have uD:=T.len;refine ao Law.f_law_row_put rfl (by decide) rfl ?_;unfold runs Law.f_law_row_put;simp? [hth];refine ec (j:=0) T hth (by omega) (by simp) vE (fun v a fl=>rfl) (by decide) fun σ1 x1=>?_;rw[T.vals];intro rw jJ;have y2:=x1.put (o:=.list its.vals) jJ;have z2:put σ1 rw (.list its.vals) rw=some (.list its.vals):=af;generalize put σ1 rw (.list its.vals)=σ2 at y2 z2 ⊢;have hne:=G.ne2 hh;have tZ:σ rw=none:=x1.none jJ;have uK:h≠rw:=fun q=>by rw[q,tZ] at hh;cases hh
 refine aH (G.ext y2) (by omega) (by decide) (by decide) fun k σ3 k0 k1 G3 x3=>?_;have X3:KX [ta,tb] σ σ3:=(y2.kx _).trans (x3.mono (by simp));have up:∀ {σ2 σ3:St},KX [ta,tb] σ2 σ3->KX [ta,tb,h] σ2 σ3:=fun x=>x.mono (by simp only[List.mem_cons,List.not_mem_nil,or_false];intro b hb;exact hb.elim .inl fun z=>.inr (.inl z));have h3:σ3 h=some (.dS hes):=X3 _ _ hne hh;have pZ:rw∉[ta,tb]:=fun q=>by
  obtain⟨o,e⟩:=G.al _ q;rw[tZ] at e;cases e
 have r3:σ3 rw=some (.list its.vals):=x3 _ _ (fun q=>pZ (by rw[List.mem_singleton] at q;rw[q];exact .head _)) z2;have t3:σ3 th=some (.list l):=X3 _ _ (fun q=>by
  obtain⟨_,_,_,fT,_⟩:=G.eD;have ht:=G.tab;have dq:th=tb->False:=fun e=>by rw[<- e,hth] at ht;cases ht
  have BW:th=ta->l=[.int 0]:=fun e=>by rw[<- e,hth] at fT;exact absurd T (by
   have:=AO.list.inj (Option.some.inj fT);rw[this];intro T;obtain⟨_,_,_,e⟩:=T.mem _ (.head _);cases e)
  simp only[List.mem_cons,List.not_mem_nil,or_false] at q;rcases q with q | q
  ·rw[<- q,hth] at fT;have:=AO.list.inj (Option.some.inj fT);rw[this] at T;obtain⟨_,_,_,e⟩:=T.mem _ (.head _);cases e
  ·exact dq q) hth
 have uL:its.vals.length<=1000000:=by omega
 have yz:hes.length<=1000000:=by omega
 have restOf:∀ {v:AV} {key:Str},key≠"K"->atKey (putK hes "K" v) key=atKey hes key:=fun hk=>by rw[au,if_neg (Ne.symm hk)]
 have p7:∀ {v:AV},(atKey (putK hes "K" v) "K").getD .none=v:=by intro v;rw[au,if_pos rfl];rfl
 have wV:FF sa sl (n+2) 31 [.ref ta,.ref tb,.ref rw] (fun v σ=>cS (σ h) fun x=>mO x fun es=>es.length<=1000000/\Q (.ref rw) (put σ h (.dS (putK es "K" v)))) E σ3:=by
  refine ar G3 (by omega) fun v pY σ4 G4 i4 l4 D4 X4=>?_;have h4:σ4 h=some (.dS hes):=X4 _ _ hne h3;rw[h4,aW,jX];refine⟨yz,hQ rw _ pY _ its (G4.set h4) i4 l4 (up (X3.trans X4) |>.put (.inl (by simp))) tZ ?_ af aS (fun key hk=>restOf hk) (.inl rfl) fun gq xt ht=>?_⟩
  ·rw[ae (Ne.symm uK)];exact X4 _ _ pZ r3
  ·exact⟨.ref rw,by rw[p7];exact D4.bG (j:=0) (.base ⟨_,ht,.inl rfl⟩) (by omega),.inr (.inl ⟨rw,rfl,ht⟩)⟩
 cases T with
 | nil=>
  have c0:(((ah.nil.vals.length:Nat):Int)==0)=true:=rfl;have c1:(((ah.nil.vals.length:Nat):Int)==1)=false:=rfl;have c2:¬ ((ah.nil.vals.length:Nat):Int) >0:=by decide
  have hk:k=0\/k=1\/k=2:=by omega
  rcases hk with rfl | rfl | rfl
  ·simp? [r3,uL,c0,c1,c2];exact hQ rw hes es σ3 .nil (G3.more (by omega)) (.refl _) (Nat.le_refl _) (up X3) tZ r3 h3 (by omega) (fun key _=>rfl) (.inl rfl) fun gq xt ht=>⟨.none,by rw[hK];exact .base trivial,.inl ⟨rfl,rfl⟩⟩
  ·simp? [r3,uL,c0,c1,c2,h3,yz];refine hQ rw _ es _ .nil ((G3.set h3).more (by omega)) (.refl _) (Nat.le_refl _) (up X3 |>.put (.inl (by simp))) tZ (by rw[ae (Ne.symm uK)];exact r3) af aS (fun key hk=>restOf hk) (.inl rfl) fun gq xt ht=>⟨.none,by rw[p7];exact .miss rfl (G3.ey (.inl rfl)),.inl ⟨rfl,rfl⟩⟩
  ·simp? [r3,uL,c0,c1,c2];exact wV
 | @cons v t fl r l' hs T'=>
  have c0:((((ah.cons v t r).vals.length:Nat):Int)==0)=false:=beq_eq_false_iff_ne.mpr (by simp only[ah.vals,List.length_cons];omega);have c2:(((ah.cons v t r).vals.length:Nat):Int) >0:=by simp only[ah.vals,List.length_cons];omega
  cases r with
  | cons v2 t2 r2=>
   have c1:((((ah.cons v t (.cons v2 t2 r2)).vals.length:Nat):Int)==1)=false:=beq_eq_false_iff_ne.mpr (by simp only[ah.vals,List.length_cons];omega);simp? [r3,uL,c0,c1,c2];exact wV
  | nil=>
   have c1:((((ah.cons v t .nil).vals.length:Nat):Int)==1)=true:=rfl;cases T';have i0:(0:Int).toNat=0:=rfl;have i2:(2:Int).toNat=2:=rfl;by_cases hk:k=0
   ·subst hk;simp? [r3,uL,c0,c1,c2,t3,tY,i0,i2];cases fl with
    | false=>
     rw[if_neg (by decide)];exact wV
    | true=>
     rw[if_pos rfl];have BX:(ah.cons v t .nil).vals[0]? =some v:=rfl;simp? [BX,h3,yz];rcases hs rfl with ⟨w,f1,f2⟩ | ⟨f1,f2⟩
     ·refine hQ rw _ es _ (.cons v t .nil) ((G3.set h3).more (by omega)) (.refl _) (Nat.le_refl _) (up X3 |>.put (.inl (by simp))) tZ (by rw[ae (Ne.symm uK)];exact r3) af aS (fun key hk=>restOf hk) (.inl rfl) fun gq xt ht=>⟨w,by rw[p7];exact f1.dN xt,.inr (.inr ⟨f2.ext xt,v,by rw[au,if_pos rfl],rfl⟩)⟩
     ·refine hQ rw _ es _ .nil ((G3.set h3).more (by omega)) (.refl _) (Nat.le_refl _) (up X3 |>.put (.inl (by simp))) tZ (by rw[ae (Ne.symm uK)];exact r3) af aS (fun key hk=>restOf hk) (.inr ⟨rfl,f2,trivial⟩) fun gq xt ht=>⟨.none,by rw[p7];exact f1.dN xt,.inl ⟨rfl,rfl⟩⟩
   ·have hk':(k==0)=false:=beq_eq_false_iff_ne.mpr hk;simp? [r3,uL,c0,c1,c2,hk'];exact wV
def gX:PSs:=(.cons (.asgs [(.sub (.loc 4) (.str ("word":Str))),(.sub (.loc 4) (.str ("own":Str)))] (.call 36 (.cons (.loc 0) (.cons (.loc 3) (.cons (.item (.loc 4) (.str ("head":Str))) .nil)))))
  (.cons (.asg (.loc 7) (.comp (.call 35 (.cons (.loc 0) (.cons (.loc 1) (.cons (.item (.loc 4) (.str ("page":Str))) (.cons (.bin .add (.loc 2) (.int 1)) .nil))))) [9] (.range (.cons (.call 30 (.cons (.loc 0) (.cons (.int 4) .nil))) .nil)) .nil))
  (.cons (.asg (.sub (.loc 4) (.str ("row":Str))) (.call 37 (.cons (.loc 0) (.cons (.loc 3) (.cons (.item (.loc 4) (.str ("head":Str))) (.cons (.loc 7) .nil))))))
  (.cons (.asg (.sub (.loc 4) (.str ("things":Str))) (.comp (.item (.loc 8) (.int 1)) [8] (.seq (.loc 7)) .nil))
  (.cons (.ret (.tup (.cons (.ite (.cmp .gt (.item (.loc 4) (.str ("number":Str))) (.int 0)) (.new 3 (.cons (.item (.loc 4) (.str ("number":Str))) (.cons (.int 0) .nil))) (.item (.loc 4) (.str ("head":Str)))) (.cons (.loc 4) (.cons (.bool true) .nil)))))
  .nil)))))
def jK:PSs:=(.cons (.asgs [(.loc 5),(.loc 6)] (.call 33 (.cons (.loc 0) (.cons (.item (.loc 1) (.str ("order":Str))) .nil))))
  (.cons (.asg (.sub (.loc 4) (.str ("page":Str))) (.ite (.cmp .is (.loc 6) .none) (.neg (.int 1)) (.loc 6)))
  (.cons (.ite (.cmp .isnot (.loc 5) .none) (.cons (.asg (.sub (.item (.loc 4) (.str ("head":Str))) (.str ("Pg":Str))) (.loc 5))
  .nil) .nil) gX)))
theorem t9:Law.f_law_element.body=(.cons (.asg (.loc 3) (.item (.loc 1) (.str ("table":Str))))
  (.cons (.asg (.sub (.loc 1) (.str ("left":Str))) (.bin .sub (.item (.loc 1) (.str ("left":Str))) (.int 1)))
  (.cons (.asg (.loc 4) (.dictS [("is":Str),("number":Str),("head":Str)] (.cons (.str ("element":Str)) (.cons (.int 0) (.cons (.dictS [] .nil) .nil)))))
  (.cons (.ite (.cmp .gt (.call 30 (.cons (.loc 0) (.cons (.int 3) .nil))) (.int 0)) (.cons (.asg (.sub (.loc 4) (.str ("number":Str))) (.bin .add (.int 100) (.bi 0 (.loc 3))))
  (.cons (.asg (.sub (.loc 3) (.item (.loc 4) (.str ("number":Str)))) (.tup (.cons (.int 0) (.cons (.item (.loc 4) (.str ("head":Str))) .nil))))
  .nil)) .nil) jK)))):=rfl
theorem KX.next {X Y:List Nat} {σ0 σ1 σ2:St} (k:KX X σ0 σ1) (k':KX Y σ1 σ2) (h:∀ b∈Y,b∈X\/σ0 b=none):KX X σ0 σ2:=fun b o hb e=>by
 refine k' b o (fun m=>?_) (k b o hb e);rcases h b m with q | q
 ·exact hb q
 ·rw[q] at e;cases e
theorem gr {σ:St} {es:List (Int×AV)} {v:AV} {s:Str} (h:av σ es v (if s="MCR" then "mcr" else if s="OBJR" then "objr" else "element")) (a:s≠"MCR") (b:s≠"OBJR"):av σ es v "element":=by
 rwa [if_neg a,if_neg b] at h
def cJ (sa:Nat) (sl:List AV) (ta tb wa:Nat) (o1 o2 o3:Int) (N C S D:Nat) (deep:Int):Prop:=∀ (home:Int) (m:Nat) (es:List (Int×AV)) (σ:St) (Q:AV->St->Prop) (E:St->Prop),WS ta tb wa m es o1 o2 o3 σ->m+C<=300000->fu ta tb wa (m+C) es o1 o2 o3 home S D Q σ->FF sa sl N 35 [.ref ta,.ref wa,.int home,.int deep] Q E σ
def gu (sa:Nat) (sl:List AV) (ta tb wa:Nat) (o1 o2 o3:Int) (N C S D:Nat) (deep:Int):Prop:=∀ (home:Int) (m:Nat) (es:List (Int×AV)) (σ:St) (Q:AV->St->Prop) (E:St->Prop),WS ta tb wa m es o1 o2 o3 σ->m+C<=300000->fu ta tb wa (m+C) es o1 o2 o3 home S D Q σ->FF sa sl N 38 [.ref ta,.ref wa,.int deep] Q E σ
theorem df {F:Nat->List AV->M AV} {elt:Frame->M AV} {ρ:Frame} {i C S D:Nat} {σ0:St} {E:St->Prop} (step:∀ (x:AV) (m:Nat) (es:List (Int×AV)) (σ:St) (K:AV->St->Prop),WS ta tb wa m es o1 o2 o3 σ->KX [ta,tb,wa] σ0 σ->m+C<=300000->fu ta tb wa (m+C) es o1 o2 o3 home S D K σ->elt (ρ.set i (some x)) K E σ) {V:List AV->St->Prop}:
  ∀ (xs acc:List AV) (m:Nat) (es:List (Int×AV)) (σ:St),WS ta tb wa m es o1 o2 o3 σ->KX [ta,tb,wa] σ0 σ->m+xs.length * C<=300000->acc.length+xs.length<=1000->
  (∀ r l es' σ',WS ta tb wa (m+xs.length * C) es' o1 o2 o3 σ'->cn es es'->es.length<=es'.length->KX [ta,tb,wa] σ σ'->ez σ σ' es es' o1 o2 o3 home r l (xs.length * S) D->V (acc++l) σ')->
  forM (fun _=>True) (fun _=>ret false) (compF [i] ρ (cm F .nil) elt) xs acc V E σ
 | [],acc,m,es,σ,W,k,hm,hl,hV=>⟨trivial,by
  have:=hV .nil [] es σ (W.more (by omega)) (.refl _) (Nat.le_refl _) (KX.refl _ _) ez.nil;rwa [List.append_nil] at this⟩
 | x::xs,acc,m,es,σ,W,k,hm,hl,hV=>by
  rw[List.length_cons,Nat.succ_mul] at hm hV;rw[List.length_cons] at hl;rw[Nat.succ_mul] at hV;refine ay trivial rfl ?_;unfold cm;simp only[eQ,if_true];refine step x m es σ _ W k (by omega) fun v a fl t jb σ1 W1 i1 l1 k1 ea M1=>?_;refine⟨by omega,?_⟩;refine df step xs _ (m+C) jb σ1 W1 (k.trans k1) (by omega) (by rw[List.length_append,List.length_cons,List.length_nil];omega) fun r l es2 σ2 W2 i2 l2 k2 M2=>?_;rw[List.append_assoc,List.cons_append,List.nil_append];subst ea;have M3:=ez.cons M1 M2 W.al W1.al k1 k2 i2 l1 l2;refine hV (.cons v t r) _ es2 σ2 (W2.more (by omega)) (i1.trans i2) (by omega) (k1.trans k2) ?_;rw[Nat.add_comm];exact M3
theorem Ar {a b c d e:Nat} (h:Al [a,b,c] σ) {o1 o2:AO} (hd:σ d=some o1) (he:σ e=some o2):Al [a,b,c,d,e] σ:=fun x m=>by
 simp only[List.mem_cons,List.not_mem_nil,or_false] at m;rcases m with rfl | rfl | rfl | rfl | rfl
 ·exact h _ (by simp)
 ·exact h _ (by simp)
 ·exact h _ (by simp)
 ·exact⟨_,hd⟩
 ·exact⟨_,he⟩
theorem ua {C S D:Nat} {deep:Int} (hT:cJ sa sl ta tb wa o1 o2 o3 (n+5) C S D (deep+1)) {σ0 wY:St} {es0:List (Int×AV)} {M0:Nat} (mI:Al [ta,tb,wa] σ0) (W:WS ta tb wa m es o1 o2 o3 σ) (hM:m+3 * C+20<=M0) (As:M0<=300000) (hS:3 * S<=900) (k0:KX [ta,tb,wa] σ0 σ) (i0:cn es0 es) (l0:es0.length<=es.length) {a hd:Nat} (fR:σ0 a=none) (mj:σ0 hd=none) {num pg:Int}
  (ha:σ a=some (.dS [("is",.str "element"),("number",.int num),("head",.ref hd),("page",.int pg)])) (hh:σ hd=some (.dS hes)) (hlen:hes.length<=1) (kH:atKey hes "Type"=none) (tV:atKey hes "ActualText"=none) (uE:atKey hes "S"=none) (hK:atKey hes "K"=none)
  (kp:KX [ta,tb,wa] σ0 wY) (wZ:Al [ta,tb,wa,hd,a] wY) (hp:iq (aD wY σ) (bB hes)) (ou:bR o1 o2 o3 (bB hes)=pg) (dG:num=0\/(num=100+(es0.length:Int)/\atKey es num=some (.tup [.int 0,.ref hd])/\es0.length < es.length)) (hQ:fu ta tb wa M0 es0 o1 o2 o3 home (3 * S+1) (D+1) Q σ0) {s5 s6:Option AV}:
  evSs (FF sa sl (n+5)) newM GG gX [some (.ref ta),some (.ref wa),some (.int deep),some (.ref tb),some (.ref a),s5,s6,none,none,none] (fun x σ=>Q (bj x.1) σ) E σ:=by
 have oM:a≠hd:=fun q=>by
  rw[q,hh] at ha;have:=AO.dS.inj (Option.some.inj ha);rw[this] at hlen;simp at hlen
 have jL:a∉[ta,tb,wa]:=fun q=>by obtain⟨o,e⟩:=mI _ q;rw[fR] at e;cases e
 have p9:hd∉[ta,tb,wa]:=fun q=>by obtain⟨o,e⟩:=mI _ q;rw[mj] at e;cases e
 have iT:∀ {b:Nat},b∉[ta,tb,wa]->b∉[ta,tb]:=fun h q=>h (by simp only[List.mem_cons,List.not_mem_nil,or_false] at q ⊢;exact q.elim .inl fun z=>.inr (.inl z));unfold gX;have k2:atKey [(("is":Str),AV.str "element"),("number",.int num),("head",.ref hd),("page",.int pg)] "head"=some (.ref hd):=rfl;simp? [ha,k2];refine jI (n:=n+2) W.gs (by omega) hh (by omega) kH tV uE fun word own sS es3 σ3 G3 i3 l3 X3 h3 P3=>?_;have Au:a∉[ta,tb,hd]:=fun q=>by
  simp only[List.mem_cons,List.not_mem_nil,or_false] at q;rcases q with q | q | q
  ·exact jL (by rw[q];simp)
  ·exact jL (by rw[q];simp)
  ·exact oM q
 have a3:=X3 _ _ Au ha;have e1:putK [(("is":Str),AV.str "element"),("number",.int num),("head",.ref hd),("page",.int pg)] "word" (.str word)=[(("is":Str),AV.str "element"),("number",.int num),("head",.ref hd),("page",.int pg),("word",.str word)]:=aL rfl;have e2:putK [(("is":Str),AV.str "element"),("number",.int num),("head",.ref hd),("page",.int pg),("word",.str word)] "own" (ownA own)=[(("is":Str),AV.str "element"),("number",.int num),("head",.ref hd),("page",.int pg),("word",.str word),("own",ownA own)]:=aL rfl;simp? [a3,e1,e2];obtain⟨left,hw⟩:=W.bU;have yA:wa∉[ta,tb,hd]:=fun q=>by
  have:=W.ne;simp only[List.mem_cons,List.not_mem_nil,or_false,not_or] at q this;rcases q with q | q | q
  ·exact this.1 q
  ·exact this.2 q
  ·exact p9 (by rw[<- q];simp)
 have G4:GS ta tb (m+9) es3 (put σ3 a (.dS [("is",.str "element"),("number",.int num),("head",.ref hd),("page",.int pg),("word",.str word),("own",ownA own)])):=G3.set a3;obtain⟨v9,n9⟩:=W.nine;have W4:WS ta tb wa (m+9) es3 o1 o2 o3 (put σ3 a (.dS [("is",.str "element"),("number",.int num),("head",.ref hd),("page",.int pg),("word",.str word),("own",ownA own)])):=⟨G4,⟨left,by rw[ae (fun q=>jL (by rw[<- q];simp))];exact X3 _ _ yA hw⟩,v9,i3.1 _ _ n9⟩;have Av:KX [ta,tb,wa] σ0 (put σ3 a (.dS [("is",.str "element"),("number",.int num),("head",.ref hd),("page",.int pg),("word",.str word),("own",ownA own)])):=(k0.next X3 (fun b m=>by
  simp only[List.mem_cons,List.not_mem_nil,or_false] at m ⊢;rcases m with rfl | rfl | rfl
  ·exact .inl (.inl rfl)
  ·exact .inl (.inr (.inl rfl))
  ·exact .inr mj)).put (.inr fR)
 have Aw:KX [ta,tb,wa,hd,a] σ (put σ3 a (.dS [("is",.str "element"),("number",.int num),("head",.ref hd),("page",.int pg),("word",.str word),("own",ownA own)])):=(X3.mono (by
  intro b m;simp only[List.mem_cons,List.not_mem_nil,or_false] at m ⊢;rcases m with q | q | q
  ·exact .inl q
  ·exact .inr (.inl q)
  ·exact .inr (.inr (.inr (.inl q))))).put (.inl (by simp))
 have a4:put σ3 a (.dS [("is",.str "element"),("number",.int num),("head",.ref hd),("page",.int pg),("word",.str word),("own",ownA own)]) a=some (.dS [("is",.str "element"),("number",.int num),("head",.ref hd),("page",.int pg),("word",.str word),("own",ownA own)]):=af;have h4:put σ3 a (.dS [("is",.str "element"),("number",.int num),("head",.ref hd),("page",.int pg),("word",.str word),("own",ownA own)]) hd=some (.dS sS):=by rw[ae (Ne.symm oM)];exact h3
 generalize put σ3 a (.dS [("is",.str "element"),("number",.int num),("head",.ref hd),("page",.int pg),("word",.str word),("own",ownA own)])=σ4 at G4 W4 Av Aw a4 h4 ⊢;refine aH G4 (by omega) (by decide) (by decide) fun kk σ5 Dl kk1 G5 x5=>?_;have X5:KX [ta,tb] σ4 σ5:=x5.mono (by simp);have W5:=W4.step G5 X5 (.refl _);have w9:=Av.trans X5.w3;have a5:=X5 _ _ (iT jL) a4;have h5:=X5 _ _ (iT p9) h4;have kk2:-1152921504606846976 < kk:=by omega
 have kk3:kk < 1152921504606846976:=by omega
 simp? [kk2,kk3];have iU:(rangeL 0 kk.toNat 1).length<=3:=by rw[cF];omega
 have hmul:(rangeL 0 kk.toNat 1).length * C<=3 * C:=Nat.mul_le_mul_right _ iU;have vF:(rangeL 0 kk.toNat 1).length * S<=3 * S:=Nat.mul_le_mul_right _ iU;have vG:Al [ta,tb,wa,hd,a] σ5:=Ar W5.al h5 a5;refine df (σ0:=σ5) (S:=S) (D:=D) (C:=C) (home:=pg) (fun x m' es' σ' K' W' k' xa ub=>?_) (rangeL 0 kk.toNat 1) [] (m+9+1) es3 σ5 W5 (KX.refl _ _) (by omega) (by rw[List.length_nil];omega) fun r l pw gp W6 i6 l6 k6 M6=>?_
 ·unfold cf;have a':=k' _ _ jL a5;have BY:atKey [(("is":Str),AV.str "element"),("number",.int num),("head",.ref hd),("page",.int pg),("word",.str word),("own",ownA own)] "page"=some (.int pg):=rfl;simp? [a',BY];exact hT pg m' es' σ' K' _ W' xa ub
 ·rw[List.nil_append];intro th hth;have a6:=k6 _ _ jL a5;have h6:=k6 _ _ p9 h5;have y7:=(Ext.refl gp).put (o:=.list l) hth;have z7:put gp th (.list l) th=some (.list l):=af;generalize put gp th (.list l)=oK at y7 z7 ⊢;have a7:=y7 _ _ a6;have h7:=y7 _ _ h6;have k3:atKey [(("is":Str),AV.str "element"),("number",.int num),("head",.ref hd),("page",.int pg),("word",.str word),("own",ownA own)] "head"=some (.ref hd):=rfl;simp? [a7,k3];have BZ:atKey sS "K"=none:=by rw[P3.rest _ (by decide) (by decide) (by decide)];exact hK
  have B0:=M6.size;have pb:=P3.len;refine iS (n:=n+2) (τ:=aD σ5 gp) (W6.gs.ext y7) (by omega) h7 (by omega) BZ z7 M6.mf (by omega) fun bT dh jc iu its' G8 i8 l8 X8 pz r8 h8 yB fA nx kf=>?_;have a8:=X8 _ _ Au a7;have vI:bT≠a:=fun q=>by rw[q,a7] at pz;cases pz
  have Dm:bT≠hd:=fun q=>by rw[q,h7] at pz;cases pz
  have xc:th∉[ta,tb,hd]:=fun q=>by
   have h1:gp th=none:=hth;simp only[List.mem_cons,List.not_mem_nil,or_false] at q;rcases q with rfl | rfl | rfl
   ·obtain⟨_,_,_,e,_⟩:=W6.gs.eD;rw[h1] at e;cases e
   ·have e:=W6.gs.tab;rw[h1] at e;cases e
   ·rw[h6] at h1;cases h1
  have Ax:th≠a:=fun q=>by rw[q,a6] at hth;cases hth
  have t8:=X8 _ _ xc z7;have e3:putK [(("is":Str),AV.str "element"),("number",.int num),("head",.ref hd),("page",.int pg),("word",.str word),("own",ownA own)] "row" (.ref bT)=[(("is":Str),AV.str "element"),("number",.int num),("head",.ref hd),("page",.int pg),("word",.str word),("own",ownA own),("row",.ref bT)]:=aL rfl;simp? [a8,e3,ae Ax,t8];have hvl:=r.aR;have tl:=M6.mf.len;refine ec (j:=1) M6.mf (by rw[ae Ax];exact t8) (by omega) (by simp) tW (fun v a fl=>rfl) (by decide) fun cz pA=>?_;rw[M6.mf.aT];intro cC gY;have a10:=pA _ _ (af (σ:=iu) (a:=a));have yC:a≠cC:=fresh_ne gY a10;have e4:putK [(("is":Str),AV.str "element"),("number",.int num),("head",.ref hd),("page",.int pg),("word",.str word),("own",ownA own),("row",.ref bT)] "things" (.ref cC)=bK num hd pg word own bT cC:=aL rfl;obtain⟨q1,q2,_⟩:=dc (num:=num) (h:=hd) (page:=pg) (word:=word) (own:=own) (rw:=bT) (th:=cC);have k8:KX [ta,tb,wa] σ0 iu:=((w9.trans k6).trans (y7.kx _)).next X8 (fun b m=>by
   simp only[List.mem_cons,List.not_mem_nil,or_false] at m ⊢;rcases m with rfl | rfl | rfl
   ·exact .inl (.inl rfl)
   ·exact .inl (.inr (.inl rfl))
   ·exact .inr mj)
  have k12:KX [ta,tb,wa] σ0 (put (put cz cC (.list r.aT)) a (.dS (bK num hd pg word own bT cC))):=(((k8.put (.inr fR)).trans (pA.kx _)).new gY).put (.inr fR);have B1:KX [ta,tb,wa,hd,a] oK iu:=X8.mono (by
   intro b m;simp only[List.mem_cons,List.not_mem_nil,or_false] at m ⊢;rcases m with q | q | q
   ·exact .inl q
   ·exact .inr (.inl q)
   ·exact .inr (.inr (.inr (.inl q))))
  have qc:KX [ta,tb,wa,hd,a] gp (put (put cz cC (.list r.aT)) a (.dS (bK num hd pg word own bT cC))):=(((((y7.kx _).trans B1).put (.inl (by simp))).trans (pA.kx _)).new gY).put (.inl (by simp));have wW:∃ left,put (put cz cC (.list r.aT)) a (.dS (bK num hd pg word own bT cC)) wa=some (.dS (bc tb left o1 o2 o3)):=by
   obtain⟨sy,w6⟩:=W6.bU;have pB:wa≠a:=fun q=>jL (by rw[<- q];simp);have w8:=X8 _ _ yA (y7 _ _ w6);have Ay:=pA _ _ (by rw[ae pB];exact w8);exact⟨sy,by rw[ae pB,ae (fresh_ne gY Ay)];exact Ay⟩
  have B3:GS ta tb M0 jc (put (put cz cC (.list r.aT)) a (.dS (bK num hd pg word own bT cC))):=by
   have g9:=(G8.set a8 (o:=.dS [("is",.str "element"),("number",.int num),("head",.ref hd),("page",.int pg),("word",.str word),("own",ownA own),("row",.ref bT)])).ext pA;have g11:=g9.ext ((Ext.refl _).put (o:=.list r.aT) gY);exact (g11.set (by rw[ae yC];exact a10)).more (by omega)
  have yD:WS ta tb wa M0 jc o1 o2 o3 (put (put cz cC (.list r.aT)) a (.dS (bK num hd pg word own bT cC))):=⟨B3,wW,v9,i8.1 _ _ (i6.1 _ _ (i3.1 _ _ n9))⟩;have a12:put (put cz cC (.list r.aT)) a (.dS (bK num hd pg word own bT cC)) a=some (.dS (bK num hd pg word own bT cC)):=af;have vJ:put (put cz cC (.list r.aT)) a (.dS (bK num hd pg word own bT cC)) cC=some (.list r.aT):=by rw[ae (Ne.symm yC),af]
  have h10:cz hd=some (.dS dh):=pA _ _ (by rw[ae (Ne.symm oM)];exact h8);have h12:put (put cz cC (.list r.aT)) a (.dS (bK num hd pg word own bT cC)) hd=some (.dS dh):=by rw[ae (Ne.symm oM),ae (fresh_ne gY h10)];exact h10
  have r10:cz bT=some (.list r.vals):=pA _ _ (by rw[ae vI];exact r8);have r12:put (put cz cC (.list r.aT)) a (.dS (bK num hd pg word own bT cC)) bT=some (.list r.vals):=by rw[ae vI,ae (fresh_ne gY r10)];exact r10
  have yE:σ0 cC=none:=(((k8.put (o:=.dS [("is",.str "element"),("number",.int num),("head",.ref hd),("page",.int pg),("word",.str word),("own",ownA own),("row",.ref bT)]) (.inr fR)).trans (pA.kx _))).fresh gY (fun q=>by
   have:∃ o,cz cC=some o:=by
    have g9:=(G8.set a8 (o:=.dS [("is",.str "element"),("number",.int num),("head",.ref hd),("page",.int pg),("word",.str word),("own",ownA own),("row",.ref bT)])).ext pA;simp only[List.mem_cons,List.not_mem_nil,or_false] at q;rcases q with rfl | rfl | rfl
    ·obtain⟨_,_,_,e,_⟩:=g9.eD;exact⟨_,e⟩
    ·exact⟨_,g9.tab⟩
    ·obtain⟨sy,w6⟩:=W6.bU;have pB:cC≠a:=fun q=>jL (by rw[<- q];simp);exact⟨_,pA _ _ (by rw[ae pB];exact X8 _ _ yA (y7 _ _ w6))⟩
   obtain⟨o,e⟩:=this;rw[gY] at e;cases e)
  have B4:σ0 bT=none:=((w9.trans k6).trans (y7.kx _)).fresh pz (fun q=>by
   obtain⟨o,e⟩:=W6.al _ q;rw[y7 _ _ e] at pz;cases pz)
  have fin:(if decide (num >0)=true then Q (.tup [.inst 3 [.int num,.int 0],.ref a,.bool true]) (put (put cz cC (.list r.aT)) a (.dS (bK num hd pg word own bT cC))) else Q (.tup [.ref hd,.ref a,.bool true]) (put (put cz cC (.list r.aT)) a (.dS (bK num hd pg word own bT cC)))):=by
   generalize put (put cz cC (.list r.aT)) a (.dS (bK num hd pg word own bT cC))=cQ at k12 qc yD a12 vJ h12 r12 ⊢;have xk:Ext (aD σ5 gp) (aD σ0 cQ):=aD.up vG (w9.mono (by simp)) qc;have xp:Ext (aD wY σ) (aD σ0 cQ):=aD.up wZ (kp.mono (by simp)) ((Aw.trans ((X5.trans (KX.refl _ _)).mono (by simp only[List.mem_cons,List.not_mem_nil,or_false];intro b hb;exact hb.elim .inl fun z=>.inr (.inl z)))).trans ((k6.mono (by simp only[List.mem_cons,List.not_mem_nil,or_false];intro b hb;exact hb.elim .inl fun z=>.inr (z.elim .inl fun z=>.inr (.inl z)))).trans qc));have na:aD σ0 cQ a=some (.dS (bK num hd pg word own bT cC)):=by rw[aD.at fR];exact a12
   have nh:aD σ0 cQ hd=some (.dS dh):=by rw[aD.at mj];exact h12
   have nr:aD σ0 cQ bT=some (.list r.vals):=by rw[aD.at B4];exact r12
   have nt:aD σ0 cQ cC=some (.list r.aT):=by rw[aD.at yE];exact vJ
   have iA:=(i3.trans i6).trans i8;have P8:=P3.inc (i6.trans i8);have Az:bB dh=bB hes:=by
    unfold bB;rw[fA _ (by decide),P3.rest _ (by decide) (by decide) (by decide)]
   have KF:=(kf (aD σ0 cQ) xk nr).items nh;have made:∀ v,cv (aD σ0 cQ) jc v hd num->Made σ0 cQ es0 jc o1 o2 o3 home v (.elem a hd num pg word own r) true (3 * S+1) (D+1):=by
    intro v ev;have fv:=ev.sN;have hs:av (aD σ0 cQ) jc v "element":=by
     rcases P8.typ with t | t
     ·exact gr (av.dict (k:=.none) (fv.more (by decide)) nh (by rw[fA _ (by decide),t];exact .base trivial) .none) (by decide) (by decide)
     ·exact gr (av.dict (k:=nameA "StructElem") (fv.more (by decide)) nh (by rw[fA _ (by decide),t];exact .base (.inl rfl)) (.name _)) (by decide) (by decide)
    have hH:cZ (aD σ0 cQ) jc o1 o2 o3 hd pg word own:=by
     obtain⟨kS,s1,s2⟩:=P8.fS;obtain⟨kO,B6,B7⟩:=P8.fO;exact⟨dh,nh,by rw[Az];exact hp.ext xp,by rw[Az];exact ou,⟨kS,by rw[fA _ (by decide)];exact s1 _,s2 _⟩,kO,by rw[fA _ (by decide)];exact B6 _,B7⟩
    have sz:(∀ x∈r.nums,100+(es3.length:Int)<=x/\x < 100+(pw.length:Int)):=M6.nums.1;refine⟨?_,?_,fun _=>.inl ⟨.ref hd,fv.more (by decide),_,nh,rfl⟩,?_,?_,⟨?_,?_⟩,?_,?_⟩
    ·unfold Tr.Val;exact⟨ev,hs,hH,⟨its',nx,KF⟩,M6.val.inc xk i8⟩
    ·unfold Tr.Sp;exact⟨⟨bT,cC,na,nr,nt⟩,P3.short,M6.sp.ext xk⟩
    ·unfold Tr.size;omega
    ·have:=M6.dep;unfold Tr.dep;omega
    ·intro x m;unfold Tr.nums at m;rcases List.mem_append.mp m with m | m
     ·split at m
      ·rw[List.mem_singleton] at m;rcases dG with q | ⟨q,_,q'⟩
       ·omega
       ·omega
      ·cases m
     ·have:=sz x m;omega
    ·unfold Tr.nums;rw[List.nodup_append];refine⟨by split<;>simp,M6.nums.2,fun x hx y hy q=>?_⟩;split at hx
     ·rw[List.mem_singleton] at hx;have:=sz y hy;rcases dG with z | ⟨z,_,z'⟩
      ·omega
      ·omega
     ·cases hx
    ·intro x m;unfold Tr.heads at m;rcases List.mem_cons.mp m with rfl | m
     ·exact⟨mj,_,h12,by omega⟩
     ·obtain⟨q1,o,q2,q3⟩:=M6.heads.1 x m;exact⟨w9.gm W5.al q1,o,qc _ _ (fun q=>by obtain⟨o',e⟩:=vG x q;rw[q1] at e;cases e) q2,q3⟩
    ·unfold Tr.heads;rw[List.nodup_cons];refine⟨fun m=>?_,M6.heads.2⟩;obtain⟨q1,_⟩:=M6.heads.1 hd m;rw[h5] at q1;cases q1
   by_cases uc:num >0
   ·rw[if_pos (decide_eq_true uc)];rcases dG with q | ⟨_,q2,_⟩
    ·omega
    ·exact hQ _ a true (.elem a hd num pg word own r) jc cQ yD (i0.trans iA) (by omega) k12 rfl (made _ ⟨⟨_,nh⟩,.inr ⟨uc,rfl,iA.1 _ _ q2⟩⟩)
   ·rw[if_neg (by simpa using uc)];rcases dG with q | ⟨q,_,_⟩
    ·exact hQ _ a true (.elem a hd num pg word own r) jc cQ yD (i0.trans iA) (by omega) k12 rfl (made _ ⟨⟨_,nh⟩,.inl ⟨q,rfl⟩⟩)
    ·omega
  simp? [ae yC,a10,e4,q1,q2];exact fin
theorem oN {C S D:Nat} {deep:Int} (hT:cJ sa sl ta tb wa o1 o2 o3 (n+5) C S D (deep+1)) (bC:du o1 o2 o3) {σ0:St} {es0:List (Int×AV)} {M0:Nat} (mI:Al [ta,tb,wa] σ0) (W:WS ta tb wa m es o1 o2 o3 σ) (hM:m+3 * C+21<=M0) (As:M0<=300000) (hS:3 * S<=900) (k0:KX [ta,tb,wa] σ0 σ) (i0:cn es0 es) (l0:es0.length<=es.length) {a hd:Nat} (fR:σ0 a=none) (mj:σ0 hd=none) {num:Int}
  (ha:σ a=some (.dS [("is",.str "element"),("number",.int num),("head",.ref hd)])) (hh:σ hd=some (.dS []))
  (dG:num=0\/(num=100+(es0.length:Int)/\atKey es num=some (.tup [.int 0,.ref hd])/\es0.length < es.length)) (hQ:fu ta tb wa M0 es0 o1 o2 o3 home (3 * S+1) (D+1) Q σ0):
  evSs (FF sa sl (n+5)) newM GG jK [some (.ref ta),some (.ref wa),some (.int deep),some (.ref tb),some (.ref a),none,none,none,none,none] (fun x σ=>Q (bj x.1) σ) E σ:=by
 have jL:a∉[ta,tb,wa]:=fun q=>by obtain⟨o,e⟩:=mI _ q;rw[fR] at e;cases e
 have p9:hd∉[ta,tb,wa]:=fun q=>by obtain⟨o,e⟩:=mI _ q;rw[mj] at e;cases e
 have iT:∀ {b:Nat},b∉[ta,tb,wa]->b∉[ta,tb]:=fun h q=>h (by simp only[List.mem_cons,List.not_mem_nil,or_false] at q ⊢;exact q.elim .inl fun z=>.inr (.inl z));have oM:a≠hd:=fun q=>by
  rw[q,hh] at ha;cases ha
 obtain⟨left,hw⟩:=W.bU;obtain⟨_,_,w3⟩:=cx (tb:=tb) (left:=left) (o1:=o1) (o2:=o2) (o3:=o3);have wZ:Al [ta,tb,wa,hd,a] σ:=Ar W.al hh ha;unfold jK;simp? [hw,w3];refine place_spec (n:=n+3) W.gs bC (by omega) fun g p σ1 G1 X1 P1=>?_;have a1:=X1 _ _ (iT jL) ha;have h1:=X1 _ _ (iT p9) hh;have W1:=W.step G1 X1 (.refl _);have AA:=k0.trans X1.w3;have go:∀ (pg:Int) (hes:List (Str×AV)) (σ3:St) (s5 s6:Option AV),WS ta tb wa (m+1) es o1 o2 o3 σ3->KX [ta,tb,wa] σ0 σ3->KX [ta,tb,wa,hd,a] σ1 σ3->σ3 a=some (.dS [("is",.str "element"),("number",.int num),("head",.ref hd),("page",.int pg)])->σ3 hd=some (.dS hes)->hes.length<=1->atKey hes "Type"=none->atKey hes "ActualText"=none->atKey hes "S"=none->atKey hes "K"=none->iq (aD σ σ1) (bB hes)->bR o1 o2 o3 (bB hes)=pg->
   evSs (FF sa sl (n+5)) newM GG gX [some (.ref ta),some (.ref wa),some (.int deep),some (.ref tb),some (.ref a),s5,s6,none,none,none] (fun x σ=>Q (bj x.1) σ) E σ3:=by
  intro pg hes σ3 s5 s6 W3 k3 x3 a3 h3 t1 t2 t3 t4 t5 t6 t7;exact ua hT mI W3 (by omega) As hS k3 i0 l0 fR mj a3 h3 t1 t2 t3 t4 t5 k0 wZ (t6.ext (aD.up wZ (KX.refl _ _) x3)) t7 dG hQ
 have setA:∀ pg:Int,WS ta tb wa (m+1) es o1 o2 o3 (put σ1 a (.dS [("is",.str "element"),("number",.int num),("head",.ref hd),("page",.int pg)])):=fun pg=>by
  obtain⟨fB,sA⟩:=W1.bU;exact⟨G1.set a1,⟨fB,by rw[ae (fun q=>jL (by rw[<- q];simp))];exact sA⟩,W1.nine⟩
 have e1:∀ pg:Int,putK [(("is":Str),AV.str "element"),("number",.int num),("head",.ref hd)] "page" (.int pg)=[(("is":Str),AV.str "element"),("number",.int num),("head",.ref hd),("page",.int pg)]:=fun pg=>aL rfl;cases P1 with
 | none=>
  simp? [a1,e1];refine go (-1) [] _ _ _ (setA _) (AA.put (.inr fR)) ((KX.refl _ _).put (.inl (by simp))) af (by rw[ae (Ne.symm oM)];exact h1) (Nat.zero_le _) rfl rfl rfl rfl .none rfl
 | some pv pn=>
  have k2:atKey [(("is":Str),AV.str "element"),("number",.int num),("head",.ref hd),("page",.int (bR o1 o2 o3 g))] "head"=some (.ref hd):=rfl;simp? [a1,e1,pn,k2,ae (Ne.symm oM),h1];have e2:putK ([]:List (Str×AV)) "Pg" g=[(("Pg":Str),g)]:=aL rfl;rw[e2];have h2:put σ1 a (.dS [("is",.str "element"),("number",.int num),("head",.ref hd),("page",.int (bR o1 o2 o3 g))]) hd=some (.dS []):=by rw[ae (Ne.symm oM)];exact h1
  have W2:=setA (bR o1 o2 o3 g);have W3:WS ta tb wa (m+1) es o1 o2 o3 (put (put σ1 a (.dS [("is",.str "element"),("number",.int num),("head",.ref hd),("page",.int (bR o1 o2 o3 g))])) hd (.dS [("Pg",g)])):=by
   obtain⟨fB,sA⟩:=W2.bU;exact⟨W2.gs.set h2,⟨fB,by rw[ae (fun q=>p9 (by rw[<- q];simp))];exact sA⟩,W2.nine⟩
  have kg:atKey [(("Pg":Str),g)] "Pg"=some g:=rfl;refine go (bR o1 o2 o3 g) [("Pg",g)] _ _ _ W3 ((AA.put (.inr fR)).put (.inr mj)) (((KX.refl _ _).put (.inl (by simp))).put (.inl (by simp))) ?_ af (by simp) rfl rfl rfl rfl ?_ ?_
  ·rw[ae oM];exact af
  ·unfold bB;rw[kg];exact pv
  ·unfold bB;rw[kg];rfl
theorem eJ {C S D:Nat} {deep:Int} (hT:cJ sa sl ta tb wa o1 o2 o3 (n+5) C S D (deep+1)) (bC:du o1 o2 o3) (hS:3 * S<=900):gu sa sl ta tb wa o1 o2 o3 (n+6) (3 * C+25) (3 * S+1) (D+1) deep:=by
 intro home m es σ Q E W hm hQ;obtain⟨left,hw⟩:=W.bU;obtain⟨w1,w2,_⟩:=cx (tb:=tb) (left:=left) (o1:=o1) (o2:=o2) (o3:=o3);refine ao Law.f_law_element rfl (by decide) rfl ?_;unfold runs;rw[t9,show Law.f_law_element.nl - Law.f_law_element.np=7 from rfl];have e0:putK (bc tb left o1 o2 o3) "left" (.int (left - 1))=bc tb (left - 1) o1 o2 o3:=by
  unfold bc putK;simp only[List.any_cons,List.map_cons,List.map_nil];rfl
 simp? [hw,w1,w2,e0];have Dn:=W.ne;have G1:GS ta tb m es (put σ wa (.dS (bc tb (left - 1) o1 o2 o3))):=W.gs.set hw;have W1:WS ta tb wa m es o1 o2 o3 (put σ wa (.dS (bc tb (left - 1) o1 o2 o3))):=⟨G1,⟨left - 1,af⟩,W.nine⟩;have k1:KX [ta,tb,wa] σ (put σ wa (.dS (bc tb (left - 1) o1 o2 o3))):=(KX.refl _ _).put (.inl (by simp));generalize put σ wa (.dS (bc tb (left - 1) o1 o2 o3))=σ1 at G1 W1 k1 ⊢;intro hd jl;have y2:=(Ext.refl σ1).put (o:=.dS []) jl;have z2:put σ1 hd (.dS []) hd=some (.dS []):=af;generalize put σ1 hd (.dS [])=σ2 at y2 z2 ⊢;intro a ha;have y3:=(Ext.refl σ2).put (o:=.dS [("is",.str "element"),("number",.int 0),("head",.ref hd)]) ha;have z3:put σ2 a (.dS [("is",.str "element"),("number",.int 0),("head",.ref hd)]) a=some (.dS [("is",.str "element"),("number",.int 0),("head",.ref hd)]):=af;generalize put σ2 a (.dS [("is",.str "element"),("number",.int 0),("head",.ref hd)])=σ3 at y3 z3 ⊢;have mj:σ hd=none:=k1.gm W1.al jl;have fR:σ a=none:=(k1.trans (y2.kx _)).gm (W1.ext y2).al ha;have W3:=(W1.ext y2).ext y3;have k3:=(k1.trans (y2.kx _)).trans (y3.kx _);have h3:=y3 _ _ z2;refine aH W3.gs (by omega) (by decide) (by decide) fun k σ4 q0 q1 G4 x4=>?_;have X4:KX [ta,tb] σ3 σ4:=x4.mono (by simp);have W4:=W3.step G4 X4 (.refl _);have k4:=k3.trans X4.w3;have jL:a∉[ta,tb,wa]:=fun q=>by obtain⟨o,e⟩:=W.al _ q;rw[fR] at e;cases e
 have p9:hd∉[ta,tb,wa]:=fun q=>by obtain⟨o,e⟩:=W.al _ q;rw[mj] at e;cases e
 have iT:∀ {b:Nat},b∉[ta,tb,wa]->b∉[ta,tb]:=fun h q=>h (by simp only[List.mem_cons,List.not_mem_nil,or_false] at q ⊢;exact q.elim .inl fun z=>.inr (.inl z));have a4:=X4 _ _ (iT jL) z3;have h4:=X4 _ _ (iT p9) h3;have oM:a≠hd:=fun q=>by
  rw[q,h4] at a4;cases a4
 by_cases hk:k >0
 ·have AB:tb≠a:=fun q=>jL (by rw[<- q];simp);have yF:hd≠tb:=fun q=>p9 (by rw[q];simp);have hl:es.length<=1000000:=by have:=W.gs.len;omega
  have e5:putK [(("is":Str),AV.str "element"),("number",.int 0),("head",.ref hd)] "number" (.int (100+(es.length:Int)))=[(("is":Str),AV.str "element"),("number",.int (100+(es.length:Int))),("head",.ref hd)]:=by
   unfold putK;simp only[List.any_cons,List.map_cons,List.map_nil];rfl
  have k5:atKey [(("is":Str),AV.str "element"),("number",.int (100+(es.length:Int))),("head",.ref hd)] "head"=some (.ref hd):=rfl;have k6:atKey [(("is":Str),AV.str "element"),("number",.int (100+(es.length:Int))),("head",.ref hd)] "number"=some (.int (100+(es.length:Int))):=rfl;simp? [hk,G4.tab,hl,a4,e5,k5,k6,ae AB];have G5:GS ta tb (m+1) es (put σ4 a (.dS [("is",.str "element"),("number",.int (100+(es.length:Int))),("head",.ref hd)])):=G4.set a4;have G6:=G5.grow (v:=.tup [.int 0,.ref hd]);have hn:=G5.ey (k:=100+(es.length:Int)) (.inr (.inr (Int.le_refl _)));have ic:=dF (v:=.tup [.int 0,.ref hd]) hn (by omega);obtain⟨vK,B8⟩:=W4.bU;obtain⟨v9,n9⟩:=W4.nine;have yG:wa≠tb:=fun q=>W4.ne (by rw[q];simp);have B9:wa≠a:=fun q=>jL (by rw[<- q];simp);have B':a≠tb:=Ne.symm AB;refine oN (num:=100+(es.length:Int)) (es:=es++[(100+(es.length:Int),.tup [.int 0,.ref hd])]) hT bC W.al ⟨G6,⟨vK,?_⟩,v9,ic.1 _ _ n9⟩ (by omega) hm hS ((k4.put (.inr fR)).put (.inl (by simp))) ic (by simp) fR mj ?_ ?_ (.inr ⟨rfl,gR hn,by simp⟩) hQ
  ·rw[ae yG,ae B9];exact B8
  ·rw[ae B'];exact af
  ·rw[ae yF,ae (Ne.symm oM)];exact h4
 ·simp? [hk];exact oN hT bC W.al W4 (by omega) hm hS k4 (.refl _) (Nat.le_refl _) fR mj a4 h4 (.inl rfl) hQ
theorem di {C S D:Nat} {deep:Int} (hE:deep < 4->gu sa sl ta tb wa o1 o2 o3 (n+5) C S D deep) (bC:du o1 o2 o3) (hS:1<=S):cJ sa sl ta tb wa o1 o2 o3 (n+6) (C+20) S D deep:=by
 intro home m es σ Q E W hm hQ;obtain⟨left,hw⟩:=W.bU;obtain⟨w1,w2,_⟩:=cx (tb:=tb) (left:=left) (o1:=o1) (o2:=o2) (o3:=o3);refine ao Law.f_law_thing rfl (by decide) rfl ?_;unfold runs;rw[tS,show Law.f_law_thing.nl - Law.f_law_thing.np=7 from rfl];simp? [hw,w1];refine aH W.gs (by omega) (by decide) (by decide) fun way σ1 q0 q1 G1 x1=>?_;have X1:KX [ta,tb] σ σ1:=x1.mono (by simp);have W1:=W.step G1 X1 (.refl _);obtain⟨fB,sA⟩:=W1.bU;obtain⟨_,w4,_⟩:=cx (tb:=tb) (left:=fB) (o1:=o1) (o2:=o2) (o3:=o3);have AD:fu ta tb wa (m+(C+20)) es o1 o2 o3 home S D Q σ1:=fun v a fl t es' σ' a1 a2 a3 a4 a5 a6=>hQ v a fl t es' σ' a1 a2 a3 (X1.w3.trans a4) a5 (by
  have x:Ext (aD σ1 σ') (aD σ σ'):=aD.up W1.al X1.w3 (KX.refl _ _);obtain⟨b1,b2,b3,b4,b5,b6,b7,b8⟩:=a6;exact⟨b1.inc x (.refl _),b2.ext x,fun h=>(b3 h).inc x (.refl _),b4,b5,b6,fun y m=>⟨X1.w3.gm W1.al (b7 y m).1,(b7 y m).2⟩,b8⟩)
 have leaf:evSs (FF sa sl (n+5)) newM GG kT [some (.ref ta),some (.ref wa),some (.int home),some (.int deep),some (.ref tb),some (.int way),none,none,none,none,none] (fun x σ=>Q (bj x.1) σ) E σ1:=me W1 bC (by omega) hS fun v a fl t es' σ' a1 a2 a3 a4 a5 a6=>AD v a fl t es' σ' (a1.more (by omega)) a2 a3 a4 a5 a6;have elem:deep < 4->FF sa sl (n+5) 38 [.ref ta,.ref wa,.int deep] Q E σ1:=fun h=>hE h home (m+1) es σ1 Q E W1 (by omega) fun v a fl t es' σ' a1 a2 a3 a4 a5 a6=>AD v a fl t es' σ' (a1.more (by omega)) a2 a3 a4 a5 a6;by_cases h0:deep=0
 ·subst h0;by_cases h4:way < 4
  ·by_cases hl:fB >0
   ·simp? [h4,sA,w4,hl];exact elem (by decide)
   ·simp? [h4,sA,w4,hl];exact leaf
  ·simp? [h4];exact leaf
 ·have rY:(deep==0)=false:=beq_eq_false_iff_ne.mpr h0;by_cases h2:way < 2
  ·by_cases hd:deep < 4
   ·by_cases hl:fB >0
    ·simp? [rY,h2,hd,sA,w4,hl];exact elem hd
    ·simp? [rY,h2,hd,sA,w4,hl];exact leaf
   ·simp? [rY,h2,hd];exact leaf
  ·simp? [rY,h2];exact leaf
def gv (es:List (Int×AV)) (cq:List (Str×AV)) (f:Str->Option Str):Prop:=∀ s,∃ w',(∀ τ,bb τ es 9 ((atKey cq s).getD .none) w')/\((∃ g,f s=some g/\w'=nameA g)\/(f s=none/\(w'=.none\/∃ b,w'=bf b)))
theorem gv.inc {es es':List (Int×AV)} (i:cn es es') {cq:List (Str×AV)} {f:Str->Option Str} (h:gv es cq f):gv es' cq f:=fun s=>by
 obtain⟨w,h1,h2⟩:=h s;exact⟨w,fun τ=>(h1 τ).ext (Ext.refl _) i,h2⟩
theorem gv.is {es:List (Int×AV)} {cq:List (Str×AV)} {f:Str->Option Str} (h:gv es cq f) (τ:St):dZ τ es cq f:=fun s=>by
 obtain⟨w,h1,h2⟩:=h s;exact⟨w,h1 τ,h2⟩
structure oO (ta tb m p ld:Nat) (es:List (Int×AV)) (pl cq:List (Str×AV)) (f:Str->Option Str) (rest:List Str) (σ:St):Prop where
 gs:GS ta tb m es σ
 pp:σ p=some (.dS pl)
 lp:σ ld=some (.dS cq)
 plain:bp pl f
 laid:gv es cq f
 left:∀ w∈rest,f w=none
 words:∀ s t,f s=some t->s∈aF/\t∈aF
 len:pl.length+rest.length<=5/\cq.length+rest.length<=5
theorem qd (bC:du o1 o2 o3):cJ sa sl ta tb wa o1 o2 o3 (n+14) 3420 121 4 0:=by
 have t4:cJ sa sl ta tb wa o1 o2 o3 (n+6) 20 1 0 4:=di (n:=n) (C:=0) (fun h=>absurd h (by decide)) bC (by decide);have e3:gu sa sl ta tb wa o1 o2 o3 (n+7) 85 4 1 3:=eJ (n:=n+1) (C:=20) (S:=1) (D:=0) (deep:=3) t4 bC (by decide);have t3:cJ sa sl ta tb wa o1 o2 o3 (n+8) 105 4 1 3:=di (n:=n+2) (C:=85) (fun _=>e3) bC (by decide);have e2:gu sa sl ta tb wa o1 o2 o3 (n+9) 340 13 2 2:=eJ (n:=n+3) (C:=105) (S:=4) (D:=1) (deep:=2) t3 bC (by decide);have t2:cJ sa sl ta tb wa o1 o2 o3 (n+10) 360 13 2 2:=di (n:=n+4) (C:=340) (fun _=>e2) bC (by decide);have e1:gu sa sl ta tb wa o1 o2 o3 (n+11) 1105 40 3 1:=eJ (n:=n+5) (C:=360) (S:=13) (D:=2) (deep:=1) t2 bC (by decide);have t1:cJ sa sl ta tb wa o1 o2 o3 (n+12) 1125 40 3 1:=di (n:=n+6) (C:=1105) (fun _=>e1) bC (by decide);have e0:gu sa sl ta tb wa o1 o2 o3 (n+13) 3400 121 4 0:=eJ (n:=n+7) (C:=1125) (S:=40) (D:=3) (deep:=0) t1 bC (by decide);exact di (n:=n+8) (C:=3400) (fun _=>e0) bC (by decide)
theorem cK {σ0:St} {p ld:Nat} (hp0:σ0 p=none) (fV:σ0 ld=none) (mI:Al [ta,tb] σ0) (iN:p≠ld) {es0:List (Int×AV)} {M:Nat} (hM:M<=300000) {s2:Option AV} {V:Fl×Frame->St->Prop}
  (hV:∀ m es pl cq f σ s5 s6,m<=M->oO ta tb m p ld es pl cq f [] σ->KX [ta,tb] σ0 σ->cn es0 es->es0.length<=es.length->V (.next,[some (.ref ta),some (.ref tb),s2,some (.ref p),some (.ref ld),s5,s6]) σ):
  ∀ (rest:List Str),rest.Nodup->(∀ w∈rest,w∈aF)->∀ (m:Nat) (es:List (Int×AV)) (pl cq:List (Str×AV)) (f:Str->Option Str) (σ:St) (s5 s6:Option AV),m+4 * rest.length<=M->oO ta tb m p ld es pl cq f rest σ->KX [ta,tb] σ0 σ->cn es0 es->es0.length<=es.length->
  forM (fun _=>True) stopF (iy (FF sa sl (n+2)) [5] Law.B_law_roles_0) (rest.map AV.str) (.next,[some (.ref ta),some (.ref tb),s2,some (.ref p),some (.ref ld),s5,s6]) V (fun _=>False) σ
 | [],_,_,m,es,pl,cq,f,σ,s5,s6,hm,R,k,i,l=>⟨trivial,hV m es pl cq f σ s5 s6 (by simpa using hm) R k i l⟩
 | w::rest,nd,hrest,m,es,pl,cq,f,σ,s5,s6,hm,R,k,i,l=>by
  rw[List.nodup_cons] at nd;rw[List.length_cons] at hm;obtain⟨G,hp,hl,R1,R2,R3,R4,R5⟩:=R;rw[List.length_cons] at R5;have Ca:=R3 w (.head _);have pn:p∉[ta,tb]:=fun q=>by obtain⟨o,e⟩:=mI _ q;rw[hp0] at e;cases e
  have ln:ld∉[ta,tb]:=fun q=>by obtain⟨o,e⟩:=mI _ q;rw[fV] at e;cases e
  have yH:pl.length<=1000000:=by omega
  have vL:cq.length<=1000000:=by omega
  refine aq trivial ?_;rw[iF];unfold Law.B_law_roles_0;tb_start;refine aH G (by omega) (by decide) (by decide) fun g σ1 g0 g1 G1 x1=>?_;have X1:KX [ta,tb] σ σ1:=x1.mono (by simp);have hp1:=X1 _ _ pn hp;have pa:=X1 _ _ ln hl;by_cases hg:g < 5
  ·obtain⟨u,hu,Cb⟩:∃ u,fw[g.toNat]? =some (.str u)/\u∈aF:=by
    have:g=0\/g=1\/g=2\/g=3\/g=4:=by omega
    rcases this with rfl | rfl | rfl | rfl | rfl
    ·exact⟨"A",rfl,by decide⟩
    ·exact⟨"B",rfl,by decide⟩
    ·exact⟨"C",rfl,by decide⟩
    ·exact⟨"D",rfl,by decide⟩
    ·exact⟨"E",rfl,by decide⟩
   have g2:g < 1152921504606846976:=by omega
   have g5:(g==5)=false:=beq_eq_false_iff_ne.mpr (by omega);simp? [hg,hu,g0,g2,hp1,yH];have G2:GS ta tb (m+1) es (put σ1 p (.dS (putK pl w (.str u)))):=G1.set hp1;refine ar (n:=n) G2 (by omega) fun v es3 σ3 G3 i3 l3 D3 X3=>?_;have pb:σ3 ld=some (.dS cq):=X3 _ _ ln (by rw[ae (Ne.symm iN)];exact pa);have hp3:σ3 p=some (.dS (putK pl w (.str u))):=X3 _ _ pn af;simp? [pb,vL,g5];refine cK hp0 fV mI iN hM hV rest nd.2 (fun w m=>hrest w (.tail _ m)) (m+4) es3 (putK pl w (.str u)) (putK cq w v) (fun s=>if s=w then some u else f s) _ _ _ (by omega) ⟨?_,?_,af,fun s=>?_,fun s=>?_,fun w' m'=>?_,fun s t e=>?_,?_⟩ ((((k.trans X1).put (.inr hp0)).trans X3).put (.inr fV)) (i.trans i3) (by omega)
   ·exact (G3.set pb).more (by omega)
   ·rw[ae iN];exact hp3
   ·rw[au];by_cases q:w=s
    ·rw[if_pos q,if_pos q.symm];rfl
    ·rw[if_neg q,if_neg (Ne.symm q)];exact R1 s
   ·rw[au];by_cases q:w=s
    ·refine⟨nameA u,fun τ=>?_,.inl ⟨u,if_pos q.symm,rfl⟩⟩;rw[if_pos q];exact D3.bG (j:=0) (.base (.inl rfl)) (by omega)
    ·obtain⟨w',h1,h2⟩:=R2 s;refine⟨w',fun τ=>?_,?_⟩
     ·rw[if_neg q];exact (h1 τ).ext (Ext.refl _) i3
     ·rw[if_neg (Ne.symm q)];exact h2
   ·rw[if_neg (fun q=>nd.1 (by rw[<- q];exact m'))];exact R3 w' (.tail _ m')
   ·split at e
    ·rename_i q;cases e;exact⟨by rw[q];exact hrest w (.head _),Cb⟩
    ·exact R4 s t e
   ·have h1:=aS (es:=pl) (k:=w) (v:=.str u);have h2:=aS (es:=cq) (k:=w) (v:=v);omega
  ·by_cases wA:g=5
   ·subst wA;tb_start;refine ar (n:=n) G1 (by omega) fun v es3 σ3 G3 i3 l3 D3 X3=>?_;have pb:=X3 _ _ ln pa;have hp3:=X3 _ _ pn hp1;simp? [pb,vL];refine cK hp0 fV mI iN hM hV rest nd.2 (fun w m=>hrest w (.tail _ m)) (m+4) es3 pl (putK cq w v) f _ _ _ (by omega) ⟨(G3.set pb).more (by omega),by rw[ae iN];exact hp3,af,R1,fun s=>?_,fun w' m'=>R3 w' (.tail _ m'),R4,?_⟩ (((k.trans X1).trans X3).put (.inr fV)) (i.trans i3) (by omega)
    ·rw[au];by_cases q:w=s
     ·refine⟨bf [65],fun τ=>?_,.inr ⟨by rw[<- q];exact Ca,.inr ⟨_,rfl⟩⟩⟩;rw[if_pos q];exact D3.bG (j:=0) (.base (.inr (.inl rfl))) (by omega)
     ·obtain⟨w',h1,h2⟩:=R2 s;refine⟨w',fun τ=>?_,h2⟩;rw[if_neg q];exact (h1 τ).ext (Ext.refl _) i3
    ·have h2:=aS (es:=cq) (k:=w) (v:=v);omega
   ·have g5:(g==5)=false:=beq_eq_false_iff_ne.mpr wA;simp? [hg,g5];exact cK hp0 fV mI iN hM hV rest nd.2 (fun w m=>hrest w (.tail _ m)) (m+4) es pl cq f _ _ _ (by omega) ⟨G1.more (by omega),hp1,pa,R1,R2,fun w' m'=>R3 w' (.tail _ m'),R4,by omega⟩ (k.trans X1) i l
theorem jM (G:GS ta tb m es σ) (hm:m < 200000) (hQ:∀ p pl lv f es' σ',GS ta tb (m+30) es' σ'->cn es es'->es.length<=es'.length->KX [ta,tb] σ σ'->σ p=none->σ' p=some (.dS pl)->bp pl f->(∀ s t,f s=some t->s∈aF/\t∈aF)->(∀ (τ:St) (res:List (Str×AV)),Ext (aD σ σ') τ->(atKey res "RoleMap").getD .none=lv->RM τ es' res f)->Q (.tup [.ref p,lv]) σ'):FF sa sl (n+3) 32 [.ref ta,.ref tb] Q E σ:=by
 refine ao Law.f_law_roles rfl (by decide) rfl ?_;unfold runs Law.f_law_roles;tb_start;refine aH G (by omega) (by decide) (by decide) fun way σ1 q0 q1 G1 x1=>?_;have X1:KX [ta,tb] σ σ1:=x1.mono (by simp);intro p hp;have y2:=(Ext.refl σ1).put (o:=.dS []) hp;have z2:put σ1 p (.dS []) p=some (.dS []):=af;generalize put σ1 p (.dS [])=σ2 at y2 z2 ⊢;intro ld mD;have y3:=(Ext.refl σ2).put (o:=.dS []) mD;have z3:put σ2 ld (.dS []) ld=some (.dS []):=af;generalize put σ2 ld (.dS [])=σ3 at y3 z3 ⊢;have p3:=y3 _ _ z2;have iN:p≠ld:=fun q=>by rw[q,mD] at z2;cases z2
 have X3:KX [ta,tb] σ σ3:=(X1.trans (y2.kx _)).trans (y3.kx _);have hp0:σ p=none:=X1.gm G1.al hp;have fV:σ ld=none:=(X1.trans (y2.kx _)).gm (G1.ext y2).al mD;have pn:p∉[ta,tb]:=fun q=>by obtain⟨o,e⟩:=G.al _ q;rw[hp0] at e;cases e
 have ln:ld∉[ta,tb]:=fun q=>by obtain⟨o,e⟩:=G.al _ q;rw[fV] at e;cases e
 have nd:aF.Nodup:=by decide
 have key:=cK (sa:=sa) (sl:=sl) (n:=n) (σ0:=σ) (ta:=ta) (tb:=tb) hp0 fV G.al iN (es0:=es) (M:=m+21) (by omega) (s2:=some (.int way)) (V:=fun x σ=>cT (FF sa sl (n+2)) (.cons (.ite (.cmp .eq (.loc 2) (.int 0)) (.cons (.ret (.tup (.cons (.dictS [] .nil) (.cons .none .nil))))
  .nil) .nil)
  (.cons (.ite (.cmp .eq (.loc 2) (.int 1)) (.cons (.ret (.tup (.cons (.dictS [] .nil) (.cons (.call 31 (.cons (.loc 0) (.cons (.loc 1) (.cons (.int 5) .nil)))) .nil))))
  .nil) .nil)
  (.cons (.ret (.tup (.cons (.loc 3) (.cons (.call 31 (.cons (.loc 0) (.cons (.loc 1) (.cons (.loc 4) .nil)))) .nil))))
  .nil))) (fun x σ=>Q (bj x.1) σ) E (endF x) σ) (fun m' es' pl cq f σ4 s5 s6 xa R4 k4 i4 l4=>by
   obtain⟨G4,Cc,yp,R1,R2,R3,Cd,R5⟩:=R4;by_cases w0:way=0
   ·subst w0;tb_start;intro p2 hp2;have k5:=k4.new (o:=.dS []) hp2;exact hQ p2 [] .none (fun _=>none) es' _ ((G4.ext ((Ext.refl _).put hp2)).more (by omega)) i4 l4 k5 (k4.gm G4.al hp2) af (fun s=>rfl) (fun s t e=>by cases e) fun τ res x hr=>⟨.none,by rw[hr];exact .base trivial,.inl ⟨.inl rfl,fun s=>rfl⟩⟩
   ·have Ce:(way==0)=false:=beq_eq_false_iff_ne.mpr w0;by_cases w1:way=1
    ·subst w1;tb_start;intro p2 hp2;have k5:=k4.new (o:=.dS []) hp2;have Cf:p2∉[ta,tb]:=fun q=>by obtain⟨o,e⟩:=G4.al _ q;rw[hp2] at e;cases e
     refine ar (n:=n) (G4.ext ((Ext.refl _).put (o:=.dS []) hp2)) (by omega) fun v pw gp G6 i6 l6 D6 X6=>?_;exact hQ p2 [] v (fun _=>none) pw gp (G6.more (by omega)) (i4.trans i6) (by omega) (k5.trans X6) (k4.gm G4.al hp2) (X6 _ _ Cf af) (fun s=>rfl) (fun s t e=>by cases e) fun τ res x hr=>⟨.int 5,by rw[hr];exact D6.bG (j:=0) (.base trivial) (by omega),.inl ⟨.inr rfl,fun s=>rfl⟩⟩
    ·have Cg:(way==1)=false:=beq_eq_false_iff_ne.mpr w1;simp? [Ce,Cg];refine ar (n:=n) G4 (by omega) fun v pw gp G6 i6 l6 D6 X6=>?_;have yr:=X6 _ _ ln yp;refine hQ p pl v f pw gp (G6.more (by omega)) (i4.trans i6) (by omega) (k4.trans X6) hp0 (X6 _ _ pn Cc) R1 Cd fun τ res x hr=>?_;have AE:τ ld=some (.dS cq):=x _ _ (by rw[aD.at fV];exact yr);exact⟨.ref ld,by rw[hr];exact D6.bG (j:=0) (.base ⟨_,AE,.inr rfl⟩) (by omega),.inr ⟨ld,cq,rfl,AE,(R2.inc i6).is τ⟩⟩)
  aF nd (fun w m=>m) (m+1) es [] [] (fun _=>none) σ3 none none (by show m+1+4 * 5<=m+21;omega) ⟨(G1.ext y2).ext y3,p3,z3,fun s=>rfl,fun s=>⟨.none,fun τ=>.base trivial,.inr ⟨rfl,.inl rfl⟩⟩,fun w _=>rfl,fun s t e=>(by cases e),by decide⟩ X3 (.refl _) (Nat.le_refl _)
 exact key
section
variable {σ:St} {E:St->Prop}
theorem oP {p q:Frame->M (Fl×Frame)} {ρ:Frame} {R:Fl×Frame->St->Prop} (h:p ρ (fun x σ=>match x.1 with | .next=>q x.2 R E σ | _=>R x σ) E σ):seqF p q ρ R E σ:=by
 show p ρ (fun x σ=>(match x.1 with | .next=>q x.2 | _=>ret x) R E σ) E σ;have:(fun (x:Fl×Frame) σ=>(match x.1 with | .next=>q x.2 | _=>ret x) R E σ)=fun x σ=>match x.1 with | .next=>q x.2 R E σ | _=>R x σ:=by
  funext x σ;obtain⟨x1,x2⟩:=x;cases x1<;>rfl
 rw[this];exact h
theorem ml {sa:Nat} {l:List Int} (hl:l.length<=63) {Q:AV->St->Prop} (hQ:∀ a dg sd σ',Ext σ σ'->σ a=none->σ' a=some (.list [.int dg,.int sd,.int 0])->0<=dg->0<=sd->sd < 1000000007->Q (.ref a) σ'):tapeM GG sa (l.map .int) [.ref sa] Q E σ:=by
 refine⟨rfl,?_⟩;rw[mQ];refine oP ?_;unfold st1;tb_start;refine oP ?_;unfold tapeFor tapeIt;simp? [mQ,pM];unfold uptoS;refine⟨⟨rfl,by decide,by decide,by rw[List.length_map];exact Nat.le_trans hl (by decide)⟩,fun d hd=>?_⟩;have y1:=(Ext.refl σ).put (o:=.list ((l.map AV.int).take (63:Int).toNat)) hd;have z1:put σ d (.list ((l.map AV.int).take (63:Int).toNat)) d=some (.list ((l.map AV.int).take (63:Int).toNat)):=af;have et:(l.map AV.int).take (63:Int).toNat=l.map AV.int:=List.take_of_length_le (by rw[List.length_map];exact hl);rw[et] at y1 z1 ⊢;generalize put σ d (.list (l.map AV.int))=σ1 at y1 z1 ⊢;dsimp only;rw[jd,z1,aW,gx,sH];have loop:∀ (xs:List Int) (dg sd:Int) (s0 s3:Option AV) (V:Fl×Frame->St->Prop),0<=dg->0<=sd->sd < 1000000007->(∀ dg sd s3,0<=dg->0<=sd->sd < 1000000007->V (.next,[s0,some (.int dg),some (.int sd),s3]) σ1)->
   forM (fun σ=>σ d=some (.list (l.map AV.int))) stopF (iy noF [3] stB) (xs.map AV.int) (.next,[s0,some (.int dg),some (.int sd),s3]) V (fun _=>False) σ1:=by
  intro xs;induction xs with
  | nil=>intro dg sd s0 s3 V h1 h2 h3 hV;exact⟨z1,hV dg sd s3 h1 h2 h3⟩
  | cons x xs ih=>
   intro dg sd s0 s3 V h1 h2 h3 hV;refine aq z1 ?_;rw[iF];unfold stB;tb_start;exact ih _ _ _ _ V (by omega) (Int.emod_nonneg _ (by decide)) (Int.emod_lt_of_pos _ (by decide)) hV
 refine loop l 0 0 _ _ _ (Int.le_refl _) (Int.le_refl _) (by decide) fun dg sd s3 h1 h2 h3=>?_;show seqF _ _ _ _ _ _;refine oP ?_;unfold st3;tb_start;intro a ha;show Q (.ref a) _;exact hQ a dg sd _ (y1.put ha) (y1.none ha) af h1 h2 h3
end
def Ci (p d:Int):Str:=⟨#[112+(p+1).toNat]⟩++⟨#[48+d.toNat]⟩
def oQ (p d:Int):Option AV:=if p+2 * d=5 then none else some (.tup [.tup [.int p,.int d],.str (Ci p d)])
def iV:List Int:=[0,1,2,3]
def oR:List AV:=iV.filterMap (oQ (-1))++iV.filterMap (oQ 0)++iV.filterMap (oQ 1)++iV.filterMap (oQ 2)
def kX:List (List Int×AV):=(pairsT oR).getD []
theorem mn:pairsT oR=some kX:=by rfl
theorem mq:noDup (kX.map fun e=>e.1)=true:=by decide+kernel
theorem qe:kX.length<=1000:=by decide+kernel
def strOk:AV->Bool
 | .str s=>decide (s.length<=2)
 | _=>false
theorem qf:(kX.all fun e=>strOk e.2)=true:=by decide+kernel
theorem oU:(kX.all fun e=>tkh e.1 != 0xFCA86420)=true:=by decide+kernel
def jN (p m:Int):Str:=match atKey kX [p,m] with
 | some (.str s)=>s
 | _=>Str.empty
theorem oV:oE kX jN:=by
 refine⟨fun p m=>?_,oU⟩;unfold jN;cases h:atKey kX [p,m] with
 | none=>exact⟨rfl,by show (0:Nat)<=2;decide⟩
 | some v=>
  have hm:∃ e∈kX,e.2=v:=by
   unfold atKey at h;obtain⟨e,h1,h2⟩:=Option.map_eq_some_iff.mp h;exact⟨e,List.mem_of_find?_eq_some h1,h2⟩
  obtain⟨e,he,rfl⟩:=hm;have:=List.all_eq_true.mp qf e he;cases hv:e.2 with
  | str s=>rw[hv] at this;exact⟨rfl,of_decide_eq_true this⟩
  | _=>rw[hv] at this;cases this
abbrev dH:PE:=.tup (.cons (.tup (.cons (.loc 33) (.cons (.loc 34) .nil))) (.cons (.bin .add (.item (.str ("pqrs":Str)) (.bin .add (.loc 33) (.int 1))) (.item (.str ("0123":Str)) (.loc 34))) .nil))
abbrev gZ:PEs:=.cons (.cmp .ne (.bin .add (.loc 33) (.bin .mul (.int 2) (.loc 34))) (.int 5)) .nil
theorem vM {p:Int} (h:p=-1\/p=0\/p=1\/p=2):("pqrs":Str).cps[(p+1).toNat]? =some (112+(p+1).toNat):=by
 rcases h with rfl | rfl | rfl | rfl<;>decide+kernel
theorem vO {d:Int} (h:d=0\/d=1\/d=2\/d=3):("0123":Str).cps[d.toNat]? =some (48+d.toNat):=by
 rcases h with rfl | rfl | rfl | rfl<;>decide+kernel
theorem eK {F:Nat->List AV->M AV} {p d:Int} (hp:p=-1\/p=0\/p=1\/p=2) (hd:d=0\/d=1\/d=2\/d=3) {ρ:Frame} (hρ:ρ.length=48) {acc xs:List AV} (hl:acc.length<=1000) {V:List AV->St->Prop} (h:forM (fun _=>True) (fun _=>ret false) (compF [34] (ρ.set 33 (some (.int p))) (cm F gZ) (cf F dH)) xs (acc++(oQ p d).toList) V E σ):forM (fun _=>True) (fun _=>ret false) (compF [34] (ρ.set 33 (some (.int p))) (cm F gZ) (cf F dH)) (.int d::xs) acc V E σ:=by
 refine ay trivial rfl ?_;have AF:((ρ.set 33 (some (AV.int p))).set 34 (some (AV.int d)))[33]? =some (some (.int p)):=by
  rw[List.getElem?_set_ne (by decide),List.getElem?_set_self (by omega)]
 have AG:((ρ.set 33 (some (AV.int p))).set 34 (some (AV.int d)))[34]? =some (some (.int d)):=by
  rw[List.getElem?_set_self (by rw[List.length_set];omega)]
 have b1:-1152921504606846976 < d:=by omega
 have b2:d < 1152921504606846976:=by omega
 have b3:0<=p+1:=by omega
 have b4:p+1 < 1152921504606846976:=by omega
 have b5:0<=d:=by omega
 have hl':acc.length<=1000000:=by omega
 unfold oQ at h;unfold cm cf;by_cases q:p+2 * d=5
 ·rw[if_pos q] at h;simp only[Option.toList,List.append_nil] at h;have q':(p+2 * d==5)=true:=beq_iff_eq.mpr q;simp only[gC,eQ,ka,j',fX,iz,AF,AG,cu,jY,gy,jZ,q',Bool.not_true,Bool.false_eq_true,if_false];exact⟨⟨by simpa using b1,by simpa using b2⟩,h⟩
 ·rw[if_neg q] at h;have q':(p+2 * d==5)=false:=beq_eq_false_iff_ne.mpr q;simp only[gC,eQ,ka,j',fX,iz,AF,AG,cu,jY,gy,jZ,q',Bool.not_false,if_true,nQ,gE,ko,gD,nB,j4 (vM hp),j4 (vO hd),eO];refine⟨⟨by simpa using b1,by simpa using b2⟩,by simp,⟨b3,by simpa using b4⟩,⟨b5,by simpa using b2⟩,by show 1+1<=sizeLine;decide,by simp,hl',h⟩
theorem Cj (g:Int->Option AV):iV.filterMap g=(g 0).toList++(g 1).toList++(g 2).toList++(g 3).toList:=by
 unfold iV;simp only[List.filterMap_cons,List.filterMap_nil];cases g 0<;>cases g 1<;>cases g 2<;>cases g 3<;>rfl
theorem jO (o:Option AV):o.toList.length<=1:=by cases o<;>simp
theorem dJ {F:Nat->List AV->M AV} {p:Int} (hp:p=-1\/p=0\/p=1\/p=2) {ρ:Frame} (hρ:ρ.length=48) {acc:List AV} (hl:acc.length<=100) {V:List AV->St->Prop} (h:V (acc++iV.filterMap (oQ p)) σ):comp2F [33] ρ (uV F (.range (.cons (.int 4) .nil))) [34] (cm F gZ) (cf F dH) (.int p) acc V E σ:=by
 show evIt F newM GG (.range (.cons (.int 4) .nil)) (ρ.set 33 (some (.int p))) (fun I σ=>forM I.ok (fun _=>ret false) (compF [34] (ρ.set 33 (some (.int p))) (cm F gZ) (cf F dH)) I.items acc V E σ) E σ;simp? [show (4:Int).toNat=4 from rfl];show forM _ _ _ [.int 0,.int 1,.int 2,.int 3] _ _ _ _;have l0:=jO (oQ p 0);have l1:=jO (oQ p 1);have l2:=jO (oQ p 2);refine eK hp (by decide) hρ (by omega) ?_;refine eK hp (by decide) hρ (by rw[List.length_append];omega) ?_;refine eK hp (by decide) hρ (by rw[List.length_append,List.length_append];omega) ?_;refine eK hp (by decide) hρ (by rw[List.length_append,List.length_append,List.length_append];omega) ?_;refine⟨trivial,?_⟩;rw[Cj] at h;simpa only[List.append_assoc] using h
theorem qg {f:Nat} {l:List AV} {ps:List (List Int×AV)} (h:σ f=some (.list l)) (hp:pairsT l=some ps) (hd:noDup (ps.map fun p:List Int×AV=>p.1)=true/\ps.length<=1000) (hQ:∀ a,σ a=none->Q (.ref a) (put σ a (.dT ps))):biM 5 (.ref f) Q E σ:=by
 refine⟨_,h,?_⟩;show (match pairsT l with | some es=>req (noDup (es.map fun p:List Int×AV=>p.1)=true/\es.length<=1000) (mk (.dT es)) | none=>no) Q E σ;rw[hp];exact⟨hd,hQ⟩
theorem jP {ρ:Frame} (hρ:ρ.length=48) (hQ:∀ a σ',Ext σ σ'->σ' a=some (.dT kX)->Q (.ref a) σ'):(ev (FF sa sl n) newM GG (.bi 5 (.comp2 dH [33] (.seq (.tup (.cons (.neg (.int 1)) (.cons (.int 0) (.cons (.int 1) (.cons (.int 2) .nil)))))) [34] (.range (.cons (.int 4) .nil)) gZ)) ρ).1 Q E σ:=by
 simp? [];have step:∀ {x:AV} {xs acc:List AV} {V:List AV->St->Prop},comp2F [33] ρ (uV (FF sa sl n) (.range (.cons (.int 4) .nil))) [34] (cm (FF sa sl n) gZ) (cf (FF sa sl n) dH) x acc (fun b σ=>forM (fun _=>True) (fun _=>ret false) (comp2F [33] ρ (uV (FF sa sl n) (.range (.cons (.int 4) .nil))) [34] (cm (FF sa sl n) gZ) (cf (FF sa sl n) dH)) xs b V (fun _=>False) σ) (fun _=>False) σ->forM (fun _=>True) (fun _=>ret false) (comp2F [33] ρ (uV (FF sa sl n) (.range (.cons (.int 4) .nil))) [34] (cm (FF sa sl n) gZ) (cf (FF sa sl n) dH)) (x::xs) acc V (fun _=>False) σ:=by
  intro x xs acc V h;rw[forM_cons];exact⟨trivial,h⟩
 have lb:∀ p,(iV.filterMap (oQ p)).length<=4:=fun p=>List.length_filterMap_le _ _;have b1:=lb (-1);have b2:=lb 0;have b3:=lb 1;refine step (dJ (.inl rfl) hρ (by decide) ?_);refine step (dJ (.inr (.inl rfl)) hρ (by rw[List.length_append];simp only[List.length_nil];omega) ?_);refine step (dJ (.inr (.inr (.inl rfl))) hρ (by rw[List.length_append,List.length_append];simp only[List.length_nil];omega) ?_);refine step (dJ (.inr (.inr (.inr rfl))) hρ (by rw[List.length_append,List.length_append,List.length_append];simp only[List.length_nil];omega) ?_);refine⟨trivial,fun a ha=>?_⟩;rw[List.nil_append];exact qg (l:=oR) af mn ⟨mq,qe⟩ fun b hb=>hQ b _ (((Ext.refl σ).put ha).put hb) af
theorem mr (s t:Str):PyData.strOk (s++t)=(PyData.strOk s&&PyData.strOk t):=by
 show (s.cps++t.cps).all _=(s.cps.all _&&t.cps.all _);exact Array.all_append
theorem ud (p m:Int):PyData.strOk (jN p m)=true:=by
 unfold jN;cases h:atKey kX [p,m] with
 | none=>decide+kernel
 | some v=>
  have hm:∃ e∈kX,e.2=v:=by
   unfold atKey at h;obtain⟨e,h1,h2⟩:=Option.map_eq_some_iff.mp h;exact⟨e,List.mem_of_find?_eq_some h1,h2⟩
  obtain⟨e,he,rfl⟩:=hm;have all:(kX.all fun e=>match e.2 with | .str s=>PyData.strOk s | _=>false)=true:=by decide+kernel
  have:=List.all_eq_true.mp all e he;cases hv:e.2 with
  | str s=>rw[hv] at this;exact this
  | _=>rw[hv] at this;cases this
theorem cY.ok {k:AV} {own:Option Str} (h:cY k own) {s:Str} (e:own=some s):PyData.strOk s=true:=by
 cases h with
 | own=>cases e;decide+kernel
 | alpha=>cases e;decide+kernel
 | empty=>cases e;decide+kernel
 | none=>cases e
 | name s=>cases e
theorem oW:∀ s∈aF,PyData.strOk s=true:=by
 intro s m;simp only[List.mem_cons,List.not_mem_nil,or_false] at m;rcases m with rfl | rfl | rfl | rfl | rfl<;>decide+kernel
theorem RP.mem {f:Str->Option Str} {L:List Str} {w r:Str} (h:RP f L w r):r=w\/∃ s,f s=some r:=by
 induction h with
 | seen _=>exact .inl rfl
 | stop _ _=>exact .inl rfl
 | step _ _ e _ ih=>
  rcases ih with q | q
  ·exact .inr ⟨_,by rw[q];exact e⟩
  ·exact .inr q
theorem qh {f:Str->Option Str} (hW:∀ s t,f s=some t->s∈aF) (hV:∀ s t,f s=some t->t∈aF) {w:Str} (h:PyData.strOk w=true):PyData.strOk (iP f w)=true:=by
 rcases (dz hW w).1.mem with q | ⟨s,q⟩
 ·rw[q];exact h
 ·exact oW _ (hV _ _ q)
def nA:Tr×Int×Int->AV
 | (.elem _ _ num _ _ _ _,d,ab)=>.tup [.int num,.int d,.int ab]
 | _=>.none
def nD:Tr×Int×Int->PyData
 | (.elem _ _ num _ _ _ _,d,ab)=>.tuple [.int num,.int d,.int ab]
 | _=>.none
noncomputable def ue (f:Str->Option Str):Tr×Int×Int->PyData
 | (.elem _ _ _ page word _ its,d,_)=>.tuple [.int d,.str (iP f word),.int (gQ page its.bt),.tuple (its.bt.map fun c=>.int c.2)]
 | _=>.none
def oY (e:Tr×Int×Int):List AV:=e.1.its.objs.map .int
def qi (e:Tr×Int×Int):PyData:=.list (e.1.its.objs.map .int)
def AH (T:Int->Int->Str) (e:Tr×Int×Int):PyData:=.str (e.1.text T)
mutual
theorem Tr.dK:∀ {t:Tr} {home:Int} {v:AV},Tr.Val σ es o1 o2 o3 home v t->PyData.strOk (t.text jN)=true
 | .elem a h num page word own its,home,v,hv=>by
  unfold Tr.Val at hv;obtain⟨_,_,⟨hes,_,_,_,_,k,_,ho⟩,_,hV⟩:=hv;unfold Tr.text;cases hown:own with
  | none=>exact ah.dK hV
  | some s=>exact ho.ok hown
 | .obj a m,_,_,_=>by unfold Tr.text;decide+kernel
 | .content a p m,_,_,_=>by unfold Tr.text;exact ud p m
 | .nothing a,_,_,_=>by unfold Tr.text;decide+kernel
theorem ah.dK:∀ {r:ah} {home:Int},r.Val σ es o1 o2 o3 home->PyData.strOk (r.text jN)=true
 | .nil,_,_=>by unfold ah.text;decide+kernel
 | .cons v t r,home,hv=>by
  unfold ah.Val at hv;unfold ah.text;rw[mr,Tr.dK hv.1,ah.dK hv.2];rfl
end
mutual
theorem Tr.bq:∀ {t:Tr} {home:Int} {v:AV},Tr.Val σ es o1 o2 o3 home v t->∀ (d ab:Int) (n:Nat),∀ e∈t.flat d ab n,∃ v home,Tr.Val σ es o1 o2 o3 home v e.1/\e.1.pf=true
 | .elem a h num page word own its,home,v,hv,d,ab,n,e,m=>by
  unfold Tr.flat at m;have hv':=hv;unfold Tr.Val at hv';rcases List.mem_cons.mp m with rfl | m
  ·exact⟨v,home,hv,rfl⟩
  ·exact ah.bq hv'.2.2.2.2 _ _ _ e m
 | .obj a num,_,_,_,_,_,_,e,m=>by unfold Tr.flat at m;cases m
 | .content a p q,_,_,_,_,_,_,e,m=>by unfold Tr.flat at m;cases m
 | .nothing a,_,_,_,_,_,_,e,m=>by unfold Tr.flat at m;cases m
theorem ah.bq:∀ {r:ah} {home:Int},r.Val σ es o1 o2 o3 home->∀ (d ab:Int) (n:Nat),∀ e∈r.flat d ab n,∃ v home,Tr.Val σ es o1 o2 o3 home v e.1/\e.1.pf=true
 | .nil,_,_,_,_,_,e,m=>by unfold ah.flat at m;cases m
 | .cons v t r,home,hv,d,ab,n,e,m=>by
  unfold ah.flat at m;unfold ah.Val at hv;rcases List.mem_append.mp m with m | m
  ·exact Tr.bq hv.1 _ _ _ e m
  ·exact ah.bq hv.2 _ _ _ e m
end
theorem kY {l:List Int}:PyData.canLayAll0 (l.map .int)=true/\PyData.depthAll (l.map .int)<=1:=by
 constructor
 ·refine jr fun d m=>?_;obtain⟨i,_,rfl⟩:=List.mem_map.mp m;simp [PyData.canLay0]
 ·refine jt fun d m=>?_;obtain⟨i,_,rfl⟩:=List.mem_map.mp m;simp [PyData.depth]
theorem mv {l:List Int}:Dats σ (l.map .int) (l.map .int):=cw fun x _=>.int x
abbrev Ck:PE:=.tup (.cons (.ite (.cmp .is (.attr (.loc 41) 6) .none) (.int 0) (.attr (.attr (.loc 41) 6) 4)) (.cons (.attr (.loc 41) 11) (.cons (.attr (.loc 41) 8) .nil)))
abbrev Cm:PE:=.tup (.cons (.item (.loc 42) (.str ("number":Str))) (.cons (.loc 43) (.cons (.loc 44) .nil)))
abbrev AI:PE:=.cmp .ne (.comp Ck [41] (.seq (.loc 17)) .nil) (.comp Cm [42,43,44] (.seq (.loc 16)) .nil)
theorem qj {ρ:Frame} {la fl:Nat} {L:List (Tr×Int×Int)} {B:Bool->St->Prop} {F:Nat->List AV->M AV} (hρ:ρ.length=48) (yI:ρ[17]? =some (some (.ref la))) (qk:ρ[16]? =some (some (.ref fl))) (bA:σ la=some (.list (L.map cU))) (hfl:σ fl=some (.list (L.map gj))) (hl:L.length<=1000)
  (hL:∀ e∈L,∃ v home,Tr.Val σ es o1 o2 o3 home v e.1/\e.1.pf=true) (hS:∀ e∈L,e.1.Sp σ) (hB:∀ σ',Ext σ σ'->B false σ'):(ev F newM GG AI ρ).2 B E σ:=by
 simp? [yI,bA];refine aU (σ:=σ) (fun e=>some (nA e)) L (fun σ' x=>x _ _ bA) (by omega) (fun e m σ' x K hK=>⟨_,rfl,?_⟩) fun σ1 x1 a ha=>?_
 ·unfold cm cf;obtain⟨v,home,hv,he⟩:=hL e m;obtain⟨t,d,ab⟩:=e;cases t with
  | elem aa h num page word own its=>
   unfold Tr.Val at hv;have hn:=hv.1.2;have AJ:(ρ.set 41 (some (cU (Tr.elem aa h num page word own its,d,ab))))[41]? =some (some (.inst 6 [if 0 < num then ai num else .none,.ref h,.int d,.int ab])):=by
    rw[List.getElem?_set_self (by omega)];rfl
   have f6:fieldAt (fieldsOf 6) [if 0 < num then ai num else .none,.ref h,.int d,.int ab] 6=some (if 0 < num then ai num else .none):=rfl;have f11:fieldAt (fieldsOf 6) [if 0 < num then ai num else .none,.ref h,.int d,.int ab] 11=some (.int d):=rfl;have f8:fieldAt (fieldsOf 6) [if 0 < num then ai num else .none,.ref h,.int d,.int ab] 8=some (.int ab):=rfl;have:=hK σ' (.refl _);unfold nA at this;by_cases hp:0 < num
   ·simp? [AJ,f6,f11,f8,hp];exact this
   ·have h0:num=0:=by
     rcases hn with q | q
     ·exact q.1
     ·exact absurd q.1 hp
    subst h0;simp? [AJ,f6,f11,f8,Int.lt_irrefl];exact this
  | _=>cases he
 ·rw[show (fun e=>some (nA e))=(some ∘ nA) from rfl,List.filterMap_eq_map];have y2:=x1.put (o:=.list (L.map nA)) ha;have z2:put σ1 a (.list (L.map nA)) a=some (.list (L.map nA)):=af;generalize put σ1 a (.list (L.map nA))=σ2 at y2 z2 ⊢;simp? [qk,y2 _ _ hfl];refine aU (σ:=σ2) (fun e=>some (nA e)) L (fun σ' x=>x _ _ (y2 _ _ hfl)) (by omega) (fun e m σ' x K hK=>?_) fun σ3 x3 b hb=>?_
  ·obtain⟨v,home,hv,he⟩:=hL e m;have hs:=hS e m;obtain⟨t,d,ab⟩:=e;cases t with
   | elem aa h num page word own its=>
    unfold Tr.Sp at hs;obtain⟨⟨bT,th,h1,_⟩,_⟩:=hs;refine⟨_,fg,?_⟩;have Cn:(((ρ.set 42 (some (AV.ref aa))).set 43 (some (AV.int d))).set 44 (some (AV.int ab)))[42]? =some (some (.ref aa)):=by
     rw[List.getElem?_set_ne (by decide),List.getElem?_set_ne (by decide),List.getElem?_set_self (by omega)]
    have Co:(((ρ.set 42 (some (AV.ref aa))).set 43 (some (AV.int d))).set 44 (some (AV.int ab)))[43]? =some (some (.int d)):=by
     rw[List.getElem?_set_ne (by decide),List.getElem?_set_self (by rw[List.length_set];omega)]
    have Cp:(((ρ.set 42 (some (AV.ref aa))).set 43 (some (AV.int d))).set 44 (some (AV.int ab)))[44]? =some (some (.int ab)):=by
     rw[List.getElem?_set_self (by rw[List.length_set,List.length_set];omega)]
    have k1:=(dc (num:=num) (h:=h) (page:=page) (word:=word) (own:=own) (rw:=bT) (th:=th)).1;have:=hK σ' (.refl _);unfold nA at this;unfold cm cf;simp? [show (Tr.elem aa h num page word own its).adr=aa from rfl,Cn,Co,Cp,x _ _ (y2 _ _ h1),k1];exact this
   | _=>cases he
  ·rw[show (fun e=>some (nA e))=(some ∘ nA) from rfl,List.filterMap_eq_map];have y4:=x3.put (o:=.list (L.map nA)) hb;have z4:put σ3 b (.list (L.map nA)) b=some (.list (L.map nA)):=af;generalize put σ3 b (.list (L.map nA))=σ4 at y4 z4 ⊢;have D:Dats σ4 (L.map nA) (L.map nD):=cw fun e m=>by
    obtain⟨v,home,hv,he⟩:=hL e m;obtain⟨t,d,ab⟩:=e;cases t with
    | elem aa h num page word own its=>exact .tup (.cons (.int _) (.cons (.int _) (.cons (.int _) .nil)))
    | _=>cases he
   refine cD (.list (y4 _ _ z2) D) (.list z4 D) (dm fun d m=>?_) (hB σ4 (y2.trans y4));obtain⟨e,m2,rfl⟩:=List.mem_map.mp m;obtain⟨v,home,hv,he⟩:=hL e m2;obtain⟨t,d,ab⟩:=e;cases t with
   | elem aa h num page word own its=>unfold nD;simp [PyData.canLay0,PyData.canLayAll0,PyData.depth,PyData.depthAll]
   | _=>cases he
theorem ql {ρ:Frame} {its:ah} {sh:AV} {fl p:Nat} {pl:List (Str×AV)} {B:Bool->St->Prop} (A:All σ tb ax rt es aJ o1 o2 o3 f its) (hV:∀ s t,f s=some t->t∈aF) (hp:σ p=some (.dS pl)) (hf:bp pl f)
  (vP:ρ[15]? =some (some (ak tb ax))) (qk:ρ[16]? =some (some (.ref fl))) (h9:ρ[9]? =some (some (.ref p))) (hfl:σ fl=some (.list ((its.flat 0 (-1) 0).map gj))) (hB:∀ σ',Ext σ σ'->B false σ'):
  (ev (FF sa sl (n+9)) newM GG (.cmp .ne (.call 24 (.cons (.loc 15) .nil)) (.call 43 (.cons (.loc 16) (.cons (.loc 9) .nil)))) ρ).2 B E σ:=by
 have mw:=its.aI 0 (-1) 0;have hsz:=A.size;have hall:=A.flat 0 (-1) 0;simp? [vP,qk,h9];refine lM (n:=n) A fun b1 σ1 x1 hb1=>?_;refine fN (n:=n+6) (x1 _ _ hp) hf A.words (x1 _ _ hfl) (fun e m=>(hall e m).ext x1) (by decide) (by omega) fun b2 σ2 x2 hb2=>?_;have D:Dats σ2 ((its.flat 0 (-1) 0).map (jz f)) ((its.flat 0 (-1) 0).map (ue f)):=cw fun e m=>by
  have ev:=(hall e m).ev;obtain⟨t,d,ab⟩:=e;cases t with
  | elem a h num page word own aB=>
   unfold jz ue;refine .tup (.cons (.int _) (.cons (.str _) (.cons (.int _) (.cons (.tup ?_) .nil))));exact cw fun c _=>.int c.2
  | _=>exact ev.elim
 refine cD (.list (x2 _ _ hb1) D) (.list hb2 D) (dm fun d m=>?_) (hB σ2 (x1.trans x2));obtain⟨e,m2,rfl⟩:=List.mem_map.mp m;have I:=hall e m2;have ev:=I.ev;have sp:=I.sp;obtain⟨t,d,ab⟩:=e;cases t with
 | elem a h num page word own aB=>
  unfold Tr.Sp at sp;have ro:=qh A.words hV sp.2.1.2;have il:=kY (l:=aB.bt.map (·.2));rw[List.map_map] at il;unfold ue;have e1:(fun c:Int×Int=>PyData.int c.2)=(PyData.int ∘ fun x=>x.2):=rfl;rw[e1];simp only[PyData.canLay0,PyData.canLayAll0,PyData.depth,PyData.depthAll,ro,il.1,Bool.and_self,true_and];have:=il.2;omega
 | _=>exact ev.elim
abbrev AK:PE:=.cmp .ne (.comp (.comp (.attr (.loc 36) 4) [36] (.seq (.call 23 (.cons (.loc 15) (.cons (.loc 35) .nil)))) .nil) [35] (.seq (.loc 17)) .nil) (.comp (.comp (.item (.loc 40) (.str ("number":Str))) [40] (.seq (.item (.loc 37) (.str ("things":Str)))) (.cons (.cmp .eq (.item (.loc 40) (.str ("is":Str))) (.str ("object":Str))) .nil)) [37,38,39] (.seq (.loc 16)) .nil)
def bg (σ:St) (e:Tr×Int×Int) (o:Option AV):Prop:=∃ b,o=some (.ref b)/\σ b=some (.list (oY e))
theorem bg.ext {σ σ':St} (x:Ext σ σ') {e:Tr×Int×Int} {o:Option AV}:bg σ e o->bg σ' e o:=fun ⟨b,h1,h2⟩=>⟨b,h1,x _ _ h2⟩
theorem bg.dat {e:Tr×Int×Int} {o:Option AV} (h:bg σ e o):∃ v,o=some v/\Dat σ v (qi e):=by
 obtain⟨b,h1,h2⟩:=h;exact⟨_,h1,.list h2 mv⟩
theorem qm {ρ:Frame} {its:ah} {la fl:Nat} {B:Bool->St->Prop} (A:All σ tb ax rt es aJ o1 o2 o3 f its) (hρ:ρ.length=48)
  (vP:ρ[15]? =some (some (ak tb ax))) (qk:ρ[16]? =some (some (.ref fl))) (yI:ρ[17]? =some (some (.ref la))) (hfl:σ fl=some (.list ((its.flat 0 (-1) 0).map gj))) (bA:σ la=some (.list ((its.flat 0 (-1) 0).map cU))) (hB:∀ σ',Ext σ σ'->B false σ'):
  (ev (FF sa sl (n+9)) newM GG AK ρ).2 B E σ:=by
 have mw:=its.aI 0 (-1) 0;have hsz:=A.size;have hall:=A.flat 0 (-1) 0;generalize its.flat 0 (-1) 0=L at *;simp? [yI,bA];refine bQ (σ0:=σ) bg (fun x h=>bg.ext x h) (fun σ' x=>x _ _ bA) L (fun e m σ1 x1 K hK=>⟨_,rfl,?_⟩) [] σ (.refl _) (by rw[List.length_nil];omega) fun vs σ1 x1 C1 a ha=>?_
 ·unfold cm cf;obtain⟨ev,sp,ft,_⟩:=(hall e m).ext x1;obtain⟨t,d,ab⟩:=e;cases t with
  | elem aa h num page word own aB=>
   obtain⟨H,⟨its',hx,hi⟩,Cq⟩:=ev;have pU:aB.size<=390:=by simp only[Tr.size] at ft;omega
   have g15:(ρ.set 35 (some (cU (Tr.elem aa h num page word own aB,d,ab))))[15]? =some (some (ak tb ax)):=by
    rw[List.getElem?_set_ne (by decide)];exact vP
   have Cr:(ρ.set 35 (some (cU (Tr.elem aa h num page word own aB,d,ab))))[35]? =some (some (.inst 6 [if 0 < num then ai num else .none,.ref h,.int d,.int ab])):=by
    rw[List.getElem?_set_self (by omega)];rfl
   simp? [g15,Cr];refine gO (n:=n+5) (A.shelf.ext x1) hx hi Cq (by omega) fun b σ2 x2 hb=>?_;simp? [hb];refine aU (σ:=σ2) (p:=ai) (fun i:Int=>some (AV.int i)) aB.objs (fun σ' x=>x _ _ hb) (by
    have:=List.length_filterMap_le (fun p:AV×Tr=>p.2.gN) aB.pairs;have:=aB.pairs_len;unfold ah.objs;omega) (fun i _ σ3 x3 K' ub=>⟨_,rfl,?_⟩) fun σ3 x3 c hc=>?_
   ·unfold cm cf;have Cs:((ρ.set 35 (some (cU (Tr.elem aa h num page word own aB,d,ab)))).set 36 (some (ai i)))[36]? =some (some (ai i)):=by
     rw[List.getElem?_set_self (by rw[List.length_set];omega)]
    simp? [Cs];exact ub σ3 (.refl _)
   ·rw[show (fun i:Int=>some (AV.int i))=(some ∘ AV.int) from rfl,List.filterMap_eq_map];exact hK (some (.ref c)) _ ((x2.trans x3).put hc) ⟨c,rfl,af⟩
  | _=>exact ev.elim
 ·rw[List.nil_append];have y2:=x1.put (o:=.list vs) ha;have z2:put σ1 a (.list vs) a=some (.list vs):=af;have C2:=fI.ext (R:=bg) (fun x h=>bg.ext x h) ((Ext.refl σ1).put (o:=.list vs) ha) C1;generalize put σ1 a (.list vs)=σ2 at y2 z2 C2 ⊢;simp? [qk,y2 _ _ hfl];refine bQ (σ0:=σ2) bg (fun x h=>bg.ext x h) (fun σ' x=>x _ _ (y2 _ _ hfl)) L (fun e m σ3 x3 K hK=>?_) [] σ2 (.refl _) (by rw[List.length_nil];omega) fun ws σ3 x3 C3 b hb=>?_
  ·have I:=(hall e m).ext (y2.trans x3);have ev:=I.ev;have hs:=I.sp;have ft:=I.size;obtain⟨t,d,ab⟩:=e;cases t with
   | elem aa h num page word own aB=>
    unfold Tr.Sp at hs;obtain⟨⟨bT,th,h1,h2,h3⟩,_,h4⟩:=hs;have pU:aB.size<=390:=by simp only[Tr.size] at ft;omega
    refine⟨_,fg,?_⟩;have Ct:(((ρ.set 37 (some (AV.ref aa))).set 38 (some (AV.int d))).set 39 (some (AV.int ab)))[37]? =some (some (.ref aa)):=by
     rw[List.getElem?_set_ne (by decide),List.getElem?_set_ne (by decide),List.getElem?_set_self (by omega)]
    obtain⟨_,_,_,_,_,_,k7⟩:=dc (num:=num) (h:=h) (page:=page) (word:=word) (own:=own) (rw:=bT) (th:=th);unfold cm cf;simp? [show (Tr.elem aa h num page word own aB).adr=aa from rfl,Ct,h1,k7,h3];unfold ah.aT;unfold ah.aT at h3;have iN:=aB.pairs_len;refine aU (σ:=σ3) (p:=fun q:AV×Tr=>AV.ref q.2.adr) (fun q:AV×Tr=>q.2.gN.map AV.int) aB.pairs (fun σ' x=>x _ _ h3) (by omega) (fun q m σ4 x4 K' ub=>⟨_,rfl,?_⟩) fun σ4 x4 c hc=>?_
    ·have hq:=h4.mem q m;unfold cm cf;have Cu:((((ρ.set 37 (some (AV.ref aa))).set 38 (some (AV.int d))).set 39 (some (AV.int ab))).set 40 (some (AV.ref q.2.adr)))[40]? =some (some (.ref q.2.adr)):=by
      rw[List.getElem?_set_self (by rw[List.length_set,List.length_set,List.length_set];omega)]
     obtain⟨l,q1,q2⟩:=hq.is;have:=ub σ4 (.refl _);simp? [Cu,x4 _ _ q1,q2];cases xd:q.2 with
     | obj a2 lJ=>
      rw[xd] at this hq q1;unfold Tr.Sp at hq;have e1:some (AO.dS l)=some (AO.dS [("is",.str "object"),("number",.int lJ)]):=by rw[<- q1,<- hq];rfl
      cases e1;have kn:atKey [(("is":Str),AV.str "object"),("number",.int lJ)] "number"=some (.int lJ):=rfl;simp? [x4 _ _ hq,kn,show (Tr.obj a2 lJ).adr=a2 from rfl];exact this
     | elem _ _ _ _ _ _ _=>rw[xd] at this;exact this
     | content _ _ _=>rw[xd] at this;exact this
     | nothing _=>rw[xd] at this;exact this
    ·refine hK (some (.ref c)) _ (x4.put hc) ⟨c,rfl,?_⟩;rw[af];unfold oY Tr.its ah.objs;rw[List.map_filterMap]
   | _=>exact ev.elim
  ·rw[List.nil_append];have y4:=(Ext.refl σ3).put (o:=.list ws) hb;have z4:put σ3 b (.list ws) b=some (.list ws):=af;generalize put σ3 b (.list ws)=σ4 at y4 z4 ⊢;have D1:=(fI.ext (R:=bg) (fun x h=>bg.ext x h) (x3.trans y4) C2).vh (g:=qi) fun e o h=>h.dat;have D2:=(fI.ext (R:=bg) (fun x h=>bg.ext x h) y4 C3).vh (g:=qi) fun e o h=>h.dat;refine cD (.list (y4 _ _ (x3 _ _ z2)) D1) (.list z4 D2) (dm fun d m=>?_) (hB σ4 (y2.trans (x3.trans y4)));obtain⟨e,m2,rfl⟩:=List.mem_map.mp m;have il:=kY (l:=e.1.its.objs);unfold qi;simp only[PyData.canLay0,PyData.depth,il.1,true_and];have:=il.2;omega
theorem qn {ρ:Frame} {its:ah} {fl tx:Nat} {B:Bool->St->Prop} (A:All σ tb ax rt es aJ o1 o2 o3 f its) (jQ:its.dep<=4) (hρ:ρ.length=48) (lP:σ tx=some (.dT kX))
  (vP:ρ[15]? =some (some (ak tb ax))) (qk:ρ[16]? =some (some (.ref fl))) (AL:ρ[18]? =some (some (.ref tx))) (hfl:σ fl=some (.list ((its.flat 0 (-1) 0).map gj))) (hB:∀ σ',Ext σ σ'->B false σ'):
  (ev (FF sa sl (n+9)) newM GG (.cmp .ne (.call 27 (.cons (.loc 15) (.cons (.loc 18) .nil))) (.comp (.call 42 (.cons (.loc 30) (.cons (.loc 18) .nil))) [30,31,32] (.seq (.loc 16)) .nil)) ρ).2 B E σ:=by
 have mw:=its.aI 0 (-1) 0;have hsz:=A.size;have hall:=A.flat 0 (-1) 0;have dG:=ah.bq A.val 0 (-1) 0;simp? [vP,AL];refine jE (n:=n) A lP oV fun b1 σ1 x1 hb1=>?_;generalize its.flat 0 (-1) 0=L at *;simp? [qk,x1 _ _ hfl];refine aU (σ:=σ1) (fun e=>some (gk jN e)) L (fun σ' x=>x _ _ (x1 _ _ hfl)) (by omega) (fun e m σ2 x2 K hK=>?_) fun σ2 x2 c hc=>?_
 ·have I:=(hall e m).ext (x1.trans x2);have ev:=I.ev;have hs:=I.sp;have ft:=I.size;have Cv:=I.dep;obtain⟨t,d,ab⟩:=e;cases t with
  | elem aa h num page word own aB=>
   have Cw:aB.dep<=4:=by
    have:=Cv;simp only[Tr.dep] at this;omega
   have pU:aB.size<=390:=by simp only[Tr.size] at ft;omega
   refine⟨_,fg,?_⟩;have Cx:(((ρ.set 30 (some (AV.ref aa))).set 31 (some (AV.int d))).set 32 (some (AV.int ab)))[30]? =some (some (.ref aa)):=by
    rw[List.getElem?_set_ne (by decide),List.getElem?_set_ne (by decide),List.getElem?_set_self (by omega)]
   have g18:(((ρ.set 30 (some (AV.ref aa))).set 31 (some (AV.int d))).set 32 (some (AV.int ab)))[18]? =some (some (.ref tx)):=by
    rw[List.getElem?_set_ne (by decide),List.getElem?_set_ne (by decide),List.getElem?_set_ne (by decide)];exact AL
   unfold cm cf;simp? [show (Tr.elem aa h num page word own aB).adr=aa from rfl,Cx,g18];exact fM (n:=n+4) (x2 _ _ (x1 _ _ lP)) oV 4 aa h num page word own aB _ _ Cw (by omega) hs (hK σ2 (.refl _))
  | _=>exact ev.elim
 ·rw[show (fun e=>some (gk jN e))=(some ∘ gk jN) from rfl,List.filterMap_eq_map];have y3:=x2.put (o:=.list (L.map (gk jN))) hc;have z3:put σ2 c (.list (L.map (gk jN))) c=some (.list (L.map (gk jN))):=af;generalize put σ2 c (.list (L.map (gk jN)))=σ3 at y3 z3 ⊢;have D:Dats σ3 (L.map (gk jN)) (L.map (AH jN)):=cw fun e _=>.str _;refine cD (.list (y3 _ _ hb1) D) (.list z3 D) (dm fun d m=>?_) (hB σ3 (x1.trans y3));obtain⟨e,m2,rfl⟩:=List.mem_map.mp m;obtain⟨v,home,hv,_⟩:=dG e m2;unfold AH;simp only[PyData.canLay0,PyData.depth];exact⟨Tr.dK hv,by decide⟩
def Tr.hd:Tr->Nat
 | .elem _ h _ _ _ _ _=>h
 | _=>0
def Tr.num:Tr->Int
 | .elem _ _ num _ _ _ _=>num
 | _=>0
structure ck (H:Nat) (v:AV) (σ σ':St):Prop where
 keep:∀ a o,a≠H->σ a=some o->σ' a=some o
 new:∃ hes,σ H=some (.dS hes)/\σ' H=some (.dS (putK hes "K" v))
theorem ck.ext {H:Nat} {v:AV} {σ σ' σ'':St} (w:ck H v σ σ') (x:Ext σ' σ''):ck H v σ σ'':=by
 obtain⟨h1,hes,h2,h3⟩:=w;exact⟨fun a o n e=>x _ _ (h1 a o n e),hes,h2,x _ _ h3⟩
section
variable {H:Nat} {v0:AV} {σ σ':St} {es:List (Int×AV)} {o1 o2 o3 home:Int}
theorem ck.list (w:ck H v0 σ σ') {a:Nat} {l:List AV} (h:σ a=some (.list l)):σ' a=some (.list l):=w.keep _ _ (fun q=>by
 obtain⟨hes,e,_⟩:=w.new;rw[q,e] at h;cases h) h
theorem ck.dI (w:ck H v0 σ σ') {a:Nat} {l:List (Int×AV)} (h:σ a=some (.dI l)):σ' a=some (.dI l):=w.keep _ _ (fun q=>by
 obtain⟨hes,e,_⟩:=w.new;rw[q,e] at h;cases h) h
theorem ck.dS (w:ck H v0 σ σ') {a:Nat} {l:List (Str×AV)} (h:σ a=some (.dS l)):∃ l',σ' a=some (.dS l')/\∀ key:Str,key≠"K"->atKey l' key=atKey l key:=by
 by_cases q:a=H
 ·subst q;obtain⟨hes,e,e'⟩:=w.new;rw[h] at e;cases e;exact⟨_,e',fun key hk=>by rw[au,if_neg (Ne.symm hk)]⟩
 ·exact⟨l,w.keep _ _ q h,fun _ _=>rfl⟩
theorem ck.obj (w:ck H v0 σ σ') {a:Nat} {o:AO} (h:σ a=some o):∃ o',σ' a=some o'/\bN o'=bN o:=by
 by_cases q:a=H
 ·subst q;obtain⟨hes,e,e'⟩:=w.new;rw[h] at e;cases e;exact⟨_,e',rfl⟩
 ·exact⟨o,w.keep _ _ q h,rfl⟩
theorem bO.swap (w:ck H v0 σ σ'):∀ {v},bO σ v->bO σ' v
 | .none,_=>trivial
 | .bool _,_=>trivial
 | .int _,_=>trivial
 | .inst _ _,h=>h
 | .ref a,⟨o,h1,h2⟩=>by
  obtain⟨o',e,k⟩:=w.obj h1;exact⟨o',e,by rw[k];exact h2⟩
 | .str _,h=>h.elim
 | .bytes _,h=>h.elim
 | .tup _,h=>h.elim
theorem bl.swap (w:ck H v0 σ σ'):∀ {v},bl σ v->bl σ' v
 | .bool _,_=>trivial
 | .int _,_=>trivial
 | .inst _ _,h=>h
 | .ref a,⟨o,h1,h2⟩=>by
  obtain⟨o',e,k⟩:=w.obj h1;exact⟨o',e,by rw[k];exact h2⟩
 | .none,h=>h.elim
 | .str _,h=>h.elim
 | .bytes _,h=>h.elim
 | .tup _,h=>h.elim
theorem bb.swap (w:ck H v0 σ σ') {k:Nat} {v x:AV} (h:bb σ es k v x):bb σ' es k v x:=by
 induction h with
 | base h=>exact .base (h.swap w)
 | gF h _ ih=>exact .gF h ih
 | miss e h=>exact .miss e h
theorem aO.swap (w:ck H v0 σ σ') {v:AV} {s:Str} (h:aO σ v s):aO σ' v s:=by
 cases h with
 | none=>exact .none
 | bool b=>exact .bool b
 | int i=>exact .int i
 | name vs=>exact .name vs
 | str vs=>exact .str vs
 | stream vs=>exact .stream vs
 | list h=>exact .list (w.list h)
 | dict h=>
  obtain⟨l',e,_⟩:=w.dS h;exact .dict e
theorem av.swap (w:ck H v0 σ σ') {v:AV} {s:Str} (h:av σ es v s):av σ' es v s:=by
 cases h with
 | content h q=>exact .content (h.swap w) q
 | neg h q=>exact .neg (h.swap w) q
 | other h k a b=>exact .other (h.swap w) (k.swap w) a b
 | dict h a k wd=>
  obtain⟨l',e,r⟩:=w.dS a;exact .dict (h.swap w) e (by rw[r _ (by decide)];exact k.swap w) wd.ext
theorem cv.swap (w:ck H v0 σ σ') {v:AV} {h:Nat} {num:Int}:cv σ es v h num->cv σ' es v h num:=by
 rintro⟨⟨hes,h1⟩,h2⟩;obtain⟨l',e,_⟩:=w.dS h1;exact⟨⟨l',e⟩,h2⟩
theorem aA.swap (w:ck H v0 σ σ') {h:Nat} (hn:h≠H) {l:List AV}:aA σ es h l->aA σ' es h l:=by
 rintro⟨hes,h1,x,h2,h3⟩;refine⟨hes,w.keep _ _ hn h1,x,h2.swap w,?_⟩;rcases h3 with h3 | ⟨b,h3,h4⟩ | ⟨h3,h4⟩
 ·exact .inl h3
 ·exact .inr (.inl ⟨b,h3,w.list h4⟩)
 ·exact .inr (.inr ⟨h3.swap w,h4⟩)
mutual
def Tr.bV (P:Nat->ah->Prop):Tr->Prop
 | .elem _ h _ _ _ _ its=>P h its/\its.bV P
 | _=>True
def ah.bV (P:Nat->ah->Prop):ah->Prop
 | .nil=>True
 | .cons _ t r=>t.bV P/\r.bV P
end
mutual
theorem Tr.oZ {P:Nat->ah->Prop}:∀ {t:Tr} (d ab:Int) (n:Nat),(∀ e∈t.flat d ab n,P e.1.hd e.1.its)->t.bV P
 | .elem a h num page word own its,d,ab,n,hP=>by
  unfold Tr.bV;unfold Tr.flat at hP;exact⟨hP _ (.head _),ah.oZ _ _ _ fun e m=>hP e (.tail _ m)⟩
 | .obj _ _,_,_,_,_=>by unfold Tr.bV;trivial
 | .content _ _ _,_,_,_,_=>by unfold Tr.bV;trivial
 | .nothing _,_,_,_,_=>by unfold Tr.bV;trivial
theorem ah.oZ {P:Nat->ah->Prop}:∀ {r:ah} (d ab:Int) (n:Nat),(∀ e∈r.flat d ab n,P e.1.hd e.1.its)->r.bV P
 | .nil,_,_,_,_=>by unfold ah.bV;trivial
 | .cons v t r,d,ab,n,hP=>by
  unfold ah.bV;unfold ah.flat at hP;exact⟨Tr.oZ _ _ _ fun e m=>hP e (List.mem_append_left _ m),ah.oZ _ _ _ fun e m=>hP e (List.mem_append_right _ m)⟩
end
mutual
theorem Tr.dj {P:Nat->ah->Prop}:∀ {t:Tr} (d ab:Int) (n:Nat),t.bV P->∀ e∈t.flat d ab n,e.1.bV P
 | .elem a h num page word own its,d,ab,n,hP,e,m=>by
  unfold Tr.flat at m;rcases List.mem_cons.mp m with rfl | m
  ·exact hP
  ·unfold Tr.bV at hP;exact ah.dj _ _ _ hP.2 e m
 | .obj _ _,_,_,_,_,e,m=>by unfold Tr.flat at m;cases m
 | .content _ _ _,_,_,_,_,e,m=>by unfold Tr.flat at m;cases m
 | .nothing _,_,_,_,_,e,m=>by unfold Tr.flat at m;cases m
theorem ah.dj {P:Nat->ah->Prop}:∀ {r:ah} (d ab:Int) (n:Nat),r.bV P->∀ e∈r.flat d ab n,e.1.bV P
 | .nil,_,_,_,_,e,m=>by unfold ah.flat at m;cases m
 | .cons v t r,d,ab,n,hP,e,m=>by
  unfold ah.bV at hP;unfold ah.flat at m;rcases List.mem_append.mp m with m | m
  ·exact Tr.dj _ _ _ hP.1 e m
  ·exact ah.dj _ _ _ hP.2 e m
end
mutual
theorem Tr.cA {xn:Int} {tX:Tr} {k:Nat} (w:ck H v0 σ σ'):∀ {t:Tr} {home:Int} {v:AV},Tr.Val σ es o1 o2 o3 home v t->t.bV (fun h aB=>h=H->aA σ' es H (aB.ins (ai xn) tX k).vals)->Tr.bX σ' es (mC H xn tX) v t
 | .elem a h num page word own its,home,v,hv,hP=>by
  unfold Tr.Val at hv;unfold Tr.bV at hP;unfold Tr.bX;obtain⟨h1,h2,h3,⟨its',h4,h5⟩,h6⟩:=hv;refine⟨h1.swap w,h2.swap w,?_,ah.cA w h6 hP.2⟩;by_cases q:h=H
  ·subst q;exact⟨_,.inr ⟨rfl,k,rfl⟩,hP.1 rfl⟩
  ·exact⟨its',.inl ⟨q,h4⟩,h5.swap w q⟩
 | .obj a num,home,v,hv,_=>by
  unfold Tr.Val at hv;unfold Tr.bX;obtain⟨_,_,s,h1,h2⟩:=hv;exact⟨s,h1.swap w,h2⟩
 | .content a p m,home,v,hv,_=>by
  unfold Tr.Val at hv;unfold Tr.bX;obtain⟨_,_,s,h1,h2⟩:=hv;exact⟨s,h1.swap w,h2⟩
 | .nothing a,home,v,hv,_=>by
  unfold Tr.Val at hv;unfold Tr.bX;obtain⟨_,_,s,h1,h2⟩:=hv;exact⟨s,h1.swap w,h2⟩
theorem ah.cA {xn:Int} {tX:Tr} {k:Nat} (w:ck H v0 σ σ'):∀ {r:ah} {home:Int},r.Val σ es o1 o2 o3 home->r.bV (fun h aB=>h=H->aA σ' es H (aB.ins (ai xn) tX k).vals)->r.bX σ' es (mC H xn tX)
 | .nil,_,_,_=>by unfold ah.bX;trivial
 | .cons v t r,home,hv,hP=>by
  unfold ah.Val at hv;unfold ah.bV at hP;unfold ah.bX;exact⟨Tr.cA w hv.1 hP.1,ah.cA w hv.2 hP.2⟩
end
end
def mx (H:Nat) (xn:Int) (e:Tr×Int×Int):Nat:=(if e.1.num=xn then 1 else 0)+(if e.1.hd=H then 1 else 0)
mutual
theorem Tr.cB (H:Nat) (xn:Int):∀ (t:Tr) (d ab:Int) (n:Nat),t.tok H xn=((t.flat d ab n).map (mx H xn)).sum
 | .elem a h num page word own its,d,ab,n=>by
  have:=ah.cB H xn its (d+1) n (n+1);unfold Tr.tok Tr.flat;rw[List.map_cons,List.sum_cons,this];rfl
 | .obj _ _,_,_,_=>rfl
 | .content _ _ _,_,_,_=>rfl
 | .nothing _,_,_,_=>rfl
theorem ah.cB (H:Nat) (xn:Int):∀ (r:ah) (d ab:Int) (n:Nat),r.tok H xn=((r.flat d ab n).map (mx H xn)).sum
 | .nil,_,_,_=>rfl
 | .cons v t r,d,ab,n=>by
  have h1:=Tr.cB H xn t d ab n;have h2:=ah.cB H xn r d ab (n+(t.flat d ab n).length);unfold ah.tok ah.flat;rw[List.map_append,List.sum_append,h1,h2]
end
theorem eM {α:Type} {f:α->Nat}:∀ {l:List α} {e:α},e∈l->f e<=(l.map f).sum
 | a::l,e,m=>by
  rw[List.map_cons,List.sum_cons];rcases List.mem_cons.mp m with rfl | m
  ·omega
  ·have:=eM (f:=f) m;omega
theorem kZ {α:Type} {f g:α->Nat}:∀ {l:List α},(l.map fun e=>f e+g e).sum=(l.map f).sum+(l.map g).sum
 | []=>rfl
 | a::l=>by
  have:=kZ (f:=f) (g:=g) (l:=l);simp only[List.map_cons,List.sum_cons,this];omega
theorem iW {v:AV} {t:Tr}:∀ {k:Nat} {r:ah},(r.ins v t k).vals=r.vals.take k++v::r.vals.drop k
 | 0,r=>by simp [ah.ins,ah.vals]
 | k+1,.nil=>by simp [ah.ins,ah.vals]
 | k+1,.cons w u r=>by
  have:=iW (v:=v) (t:=t) (k:=k) (r:=r);simp [ah.ins,ah.vals,this]
structure Ag (σ σ':St) (tb ax rt:Nat) (es:List (Int×AV)) (aJ:List (Str×AV)) (o1 o2 o3:Int) (f:Str->Option Str) (its:ah) (H:Nat) (xn:Int) (k:Nat) (hits:ah) (nl:Nat):Prop where
 all:All σ tb ax rt es aJ o1 o2 o3 f its
 base:∃ φ,Ext φ σ/\φ H=none/\φ ax=some (.dS [("Root",ai 1)])/\(∃ ct,atKey es 1=some (.tup [.int 0,.ref ct])/\φ ct=some (.dS aJ))/\iM φ es aJ o1 o2 o3
 swap:ck H (.ref nl) σ σ'
 list:σ' nl=some (.list (hits.vals.take k++ai xn::hits.vals.drop k))
 uf:∀ e∈its.flat 0 (-1) 0,e.1.hd=H->e.1.its=hits
 ug:rt=H->hits=its/\∀ e∈its.flat 0 (-1) 0,e.1.hd≠H
 qo:rt=H\/∃ e∈its.flat 0 (-1) 0,e.1.hd=H
 pos:0 < xn
 num:∃ e∈its.flat 0 (-1) 0,e.1.num=xn
section
variable {its:ah} {H:Nat} {xn:Int} {k:Nat} {hits:ah} {nl:Nat}
theorem Ag.ext (x:Ext σ' σ'') (G:Ag σ σ' tb ax rt es aJ o1 o2 o3 f its H xn k hits nl):Ag σ σ'' tb ax rt es aJ o1 o2 o3 f its H xn k hits nl:=by
 obtain⟨h1,h2,h3,h4,h5,h6,h7,h8,h9⟩:=G;exact⟨h1,h2,h3.ext x,x _ _ h4,h5,h6,h7,h8,h9⟩
theorem Ag.sub (G:Ag σ σ' tb ax rt es aJ o1 o2 o3 f its H xn k hits nl):bh σ' tb ax es aJ rt/\iM σ' es aJ o1 o2 o3:=by
 obtain⟨φ,x,hH,h1,⟨ct,h2,h3⟩,h4⟩:=G.base;have x':Ext φ σ':=fun a o e=>G.swap.keep _ _ (fun q=>by rw[q,hH] at e;cases e) (x _ _ e);refine⟨⟨G.swap.dI G.all.shelf.tab,x' _ _ h1,⟨ct,h2,x' _ _ h3⟩,?_⟩,h4.ext x'⟩;obtain⟨res,f1,f2⟩:=G.all.shelf.root;obtain⟨l',e,_⟩:=G.swap.dS f2;exact⟨l',f1.swap G.swap,e⟩
theorem Ag.items (G:Ag σ σ' tb ax rt es aJ o1 o2 o3 f its H xn k hits nl) {tX:Tr}:aA σ' es H (hits.ins (ai xn) tX k).vals:=by
 obtain⟨hes,_,h2⟩:=G.swap.new;refine⟨_,h2,.ref nl,?_,.inr (.inl ⟨nl,rfl,?_⟩)⟩
 ·rw[au,if_pos rfl];exact .base ⟨_,G.list,.inl rfl⟩
 ·rw[iW];exact G.list
theorem fC {d ab:Int}:∀ {r:ah},∀ e∈r.iJ d ab,e.2.1.size<=r.size
 | .nil,e,m=>by cases m
 | .cons v t r,e,m=>by
  simp only[ah.size];rcases List.mem_cons.mp m with rfl | m
  ·show t.size<=_;omega
  ·have:=fC e m;omega
theorem lg {X:Nat->ah->ah->Prop} {d ab:Int}:∀ {r:ah},r.bX σ es X->∀ e∈r.iJ d ab,Tr.bX σ es X e.1 e.2.1
 | .nil,_,e,m=>by cases m
 | .cons v t r,h,e,m=>by
  rcases List.mem_cons.mp m with rfl | m
  ·exact h.1
  ·exact lg h.2 e m
theorem iX {v:AV} {t:Tr} {d ab:Int} {M:Nat} (ht:t.size<=M):∀ {k:Nat} {r:ah},r.size<=M->∀ e∈(r.ins v t k).iJ d ab,e.2.1.size<=M
 | 0,r,hr,e,m=>by
  rcases List.mem_cons.mp m with rfl | m
  ·exact ht
  ·exact Nat.le_trans (fC e m) hr
 | k+1,.nil,hr,e,m=>by
  rcases List.mem_cons.mp m with rfl | m
  ·exact ht
  ·cases m
 | k+1,.cons w u r,hr,e,m=>by
  simp only[ah.size] at hr;rcases List.mem_cons.mp m with rfl | m
  ·show u.size<=M;omega
  ·exact iX ht (k:=k) (r:=r) (by omega) e m
theorem cL (G:Ag σ σ' tb ax rt es aJ o1 o2 o3 f its H xn k hits nl) (hE:∀ σ'',Ext σ' σ''->E σ''):FF sa sl (n+5) 18 [ak tb ax] Q E σ':=by
 obtain⟨S',_⟩:=G.sub;have w:=G.swap;obtain⟨eX,mX,nX⟩:=G.num;obtain⟨vX,hX,vQ,Cy⟩:=ah.bq G.all.val 0 (-1) 0 eX mX;have I:=G.all.flat 0 (-1) 0 eX mX;have pos:=G.pos;obtain⟨tX,dX,Cz⟩:=eX;have vR:its.bV (fun h aB=>h=H->aA σ' es H (aB.ins (ai xn) tX k).vals):=ah.oZ 0 (-1) 0 fun e m q=>by
  rw[G.uf e m q];exact G.items
 have vS:=Tr.cA (xn:=xn) (tX:=tX) (k:=k) w vQ (ah.dj 0 (-1) 0 vR _ mX);have vT:its.bX σ' es (mC H xn tX):=ah.cA w G.all.val vR;have hsz:=I.size;have yJ:=G.all.size;cases tX with
 | elem aX pC ba pD wX oX fU=>
  have CA:ba=xn:=nX;subst CA;have hsz':(Tr.elem aX pC ba pD wX oX fU).size<=390:=hsz;have vU:Tr.bX σ' es (mC H ba (.elem aX pC ba pD wX oX fU)) (ai ba) (.elem aX pC ba pD wX oX fU):=by
   have hv:=vQ;unfold Tr.Val at hv;have hv1:=hv.1.2;have:vX=ai ba:=by
    rcases hv1 with q | q
    ·omega
    ·exact q.2.1
   rw[<- this];exact vS
  have yK:1<=(Tr.elem aX pC ba pD wX oX fU).tok H ba:=by unfold Tr.tok;rw[if_pos rfl];omega
  have CB:(Tr.elem aX pC ba pD wX oX fU).mu H ba=1:=by unfold Tr.mu;rw[if_pos rfl]
  have AM:1<=its.tok H ba:=by
   rw[ah.cB H ba its 0 (-1) 0];have:=eM (f:=mx H ba) mX;have h1:1<=mx H ba (Tr.elem aX pC ba pD wX oX fU,dX,Cz):=by
    unfold mx Tr.num;rw[if_pos rfl];omega
   omega
  have start:∃ r:ah,aA σ' es rt r.vals/\r.bX σ' es (mC H ba (.elem aX pC ba pD wX oX fU))/\2<=r.tok H ba/\r.size<=790/\(∀ e∈r.iJ 0 (-1),e.2.1.size<=400):=by
   by_cases q:rt=H
   ·obtain⟨e1,_⟩:=G.ug q;subst q e1;obtain⟨_,i2,i3⟩:=jj (H:=rt) (xn:=ba) (v:=ai ba) (t:=.elem aX pC ba pD wX oX fU) (k:=k) (r:=hits);exact⟨hits.ins (ai ba) (.elem aX pC ba pD wX oX fU) k,G.items,gL vU vT,by rw[i2];omega,by rw[i3];omega,iX (by omega) (by omega)⟩
   ·rcases G.qo with z | ⟨eH,mH,qH⟩
    ·exact absurd z q
    ·obtain⟨its',nx,hi⟩:=G.all.items;have yL:2<=its.tok H ba:=by
      rw[ah.cB H ba its 0 (-1) 0];have e2:((its.flat 0 (-1) 0).map (mx H ba)).sum=((its.flat 0 (-1) 0).map fun e=>if e.1.num=ba then 1 else 0).sum+((its.flat 0 (-1) 0).map fun e=>if e.1.hd=H then 1 else 0).sum:=kZ;have h1:=eM (f:=fun e:Tr×Int×Int=>if e.1.num=ba then 1 else 0) mX;have h2:=eM (f:=fun e:Tr×Int×Int=>if e.1.hd=H then 1 else 0) mH;simp only[qH,if_true] at h2;have h3:(Tr.elem aX pC ba pD wX oX fU).num=ba:=rfl;simp only[h3,if_true] at h1;omega
     rcases nx with rfl | ⟨rfl,hn⟩
     ·exact⟨its',hi.swap w q,vT,yL,by omega,fun e m=>Nat.le_trans (fC e m) (by omega)⟩
     ·obtain⟨e1,_⟩:=bI hn 0 (-1) 0;rw[e1] at mX;cases mX
  obtain⟨r,r1,r2,r3,r4,r5⟩:=start;have rl:=r.aR;refine cW S' r1 (by omega) fun σ1 la fa se Z A=>⟨0+3000,?_⟩;have mu:=r.cG H ba;refine raises pos Z vU yK CB (by omega) 3000 (r.iJ 0 (-1)) [] [] ?_ (by decide) (by decide) (fun e m=>⟨lg r2 e m,r5 e m⟩) ?_ 0 _ E hE σ1 _ _ _ _ _ _ _ ?_
  ·have e0:(atKey ([]:List (Int×AV)) ba).isSome=false:=rfl;rw[gK,e0,if_neg (by decide)];omega
  ·have e0:(atKey ([]:List (Int×AV)) ba).isSome=false:=rfl;rw[eZ,e0,if_neg (by decide)];omega
  ·have:=eY (d:=0) (ab:=-1) (s:=[]) (r:=r);rw[List.append_nil] at this;rw[this];exact A
 | _=>cases Cy
theorem cM (G:Ag σ σ' tb ax rt es aJ o1 o2 o3 f its H xn k hits nl) {way:Int} (hQ:∀ σ'',Ext σ' σ''->Q (.bool true) σ''):FF sa sl (n+10) 44 [ak tb ax,.int way] Q E σ':=by
 refine ao Law.f_law_is_refused rfl (by decide) rfl ?_;unfold runs Law.f_law_is_refused;by_cases h0:way=0
 ·subst h0;tb_start;exact cL (n:=n+4) G fun σ2 x2=>hQ σ2 x2
 ·have rY:(way==0)=false:=beq_eq_false_iff_ne.mpr h0;by_cases h1:way=1
  ·subst h1;tb_start;refine ao Law.f_structure_rows rfl (by decide) rfl ?_;unfold runs Law.f_structure_rows;tb_start;obtain⟨S',P'⟩:=G.sub;refine cg (n:=n) S' P' fun pl σ2 x2 hp=>?_;intro b hb;have x3:=x2.put (o:=.list []) hb;exact cL (n:=n+3) (G.ext x3) fun σ3 x=>hQ σ3 (x3.trans x)
  ·have xD:(way==1)=false:=beq_eq_false_iff_ne.mpr h1;simp? [rY,xD];intro tx lP;have x1:=(Ext.refl σ').put (o:=.dS []) lP;refine ao Law.f_element_texts rfl (by decide) rfl ?_;unfold runs Law.f_element_texts;tb_start;obtain⟨S',P'⟩:=(G.ext x1).sub;refine cg (n:=n) S' P' fun pl σ2 x2 hp=>?_;exact cL (n:=n+3) (G.ext (x1.trans x2)) fun σ3 x=>hQ σ3 ((x1.trans x2).trans x)
end
def hJ (e:Tr×Int×Int):Option AV:=if 0 < e.1.num then some (.int e.1.num) else none
def dw (σ:St) (e:Tr×Int×Int) (o:Option AV):Prop:=∃ rw,o=some (.tup [.ref e.1.hd,.ref rw])/\σ rw=some (.list e.1.its.vals)
theorem dw.ext {σ σ':St} (x:Ext σ σ') {e:Tr×Int×Int} {o:Option AV}:dw σ e o->dw σ' e o:=fun ⟨b,h1,h2⟩=>⟨b,h1,x _ _ h2⟩
theorem o6 {σ:St} {xs:List (Tr×Int×Int)} {vs:List AV} (c:fI dw σ xs vs):∀ v∈vs,∃ e∈xs,∃ rw,v=.tup [.ref e.1.hd,.ref rw]/\σ rw=some (.list e.1.its.vals):=by
 induction c with
 | nil=>intro v m;cases m
 | skip _ _ ih=>
  intro v m;obtain⟨e,h1,h2⟩:=ih v m;exact⟨e,.tail _ h1,h2⟩
 | take h _ ih=>
  intro v m;rcases List.mem_cons.mp m with rfl | m
  ·obtain⟨rw,h1,h2⟩:=h;cases h1;exact⟨_,.head _,rw,rfl,h2⟩
  ·obtain⟨e,h1,h2⟩:=ih v m;exact⟨e,.tail _ h1,h2⟩
mutual
theorem Tr.aQ:∀ (t:Tr) (d ab:Int) (n:Nat),t.heads=(t.flat d ab n).map fun e=>e.1.hd
 | .elem a h num page word own its,d,ab,n=>by
  unfold Tr.heads Tr.flat;rw[List.map_cons,ah.aQ its (d+1) n (n+1)];rfl
 | .obj _ _,_,_,_=>rfl
 | .content _ _ _,_,_,_=>rfl
 | .nothing _,_,_,_=>rfl
theorem ah.aQ:∀ (r:ah) (d ab:Int) (n:Nat),r.heads=(r.flat d ab n).map fun e=>e.1.hd
 | .nil,_,_,_=>rfl
 | .cons v t r,d,ab,n=>by
  unfold ah.heads ah.flat;rw[List.map_append,Tr.aQ t d ab n,ah.aQ r d ab _]
end
theorem gw {α β:Type} {f:α->β}:∀ {l:List α},(l.map f).Nodup->∀ a∈l,∀ b∈l,f a=f b->a=b
 | x::l,nd,a,ha,b,hb,h=>by
  rw[List.map_cons,List.nodup_cons] at nd;rcases List.mem_cons.mp ha with qa | ha2
  ·rcases List.mem_cons.mp hb with qb | hb2
   ·rw[qa,qb]
   ·exact absurd (List.mem_map.mpr ⟨b,hb2,by rw[<- h,qa]⟩) nd.1
  ·rcases List.mem_cons.mp hb with qb | hb2
   ·exact absurd (List.mem_map.mpr ⟨a,ha2,by rw[h,qb]⟩) nd.1
   ·exact gw nd.2 a ha2 b hb2 h
section
variable {F:Nat->List AV->M AV}
theorem uh {ρ:Frame} {fl:Nat} {L:List (Tr×Int×Int)} (hρ:ρ.length=48) (qk:ρ[16]? =some (some (.ref fl))) (hfl:σ fl=some (.list (L.map gj))) (hl:L.length<=1000)
  (hL:∀ e∈L,e.1.pf=true/\e.1.Sp σ) (hQ:∀ a σ',Ext σ σ'->σ' a=some (.list (L.filterMap hJ))->Q (.ref a) σ'):
  (ev F newM GG (.comp (.item (.loc 27) (.str ("number":Str))) [27,28,29] (.seq (.loc 16)) (.cons (.cmp .gt (.item (.loc 27) (.str ("number":Str))) (.int 0)) .nil)) ρ).1 Q E σ:=by
 simp? [qk,hfl];refine aU (σ:=σ) hJ L (fun σ' x=>x _ _ hfl) (by omega) (fun e m σ' x K hK=>?_) fun σ1 x1 a ha=>hQ a _ (x1.put ha) af;obtain⟨he,hs⟩:=hL e m;obtain⟨t,d,ab⟩:=e;cases t with
 | elem aa h num page word own its=>
  unfold Tr.Sp at hs;obtain⟨⟨bT,th,h1,_⟩,_⟩:=hs;refine⟨_,fg,?_⟩;have AN:(((ρ.set 27 (some (AV.ref aa))).set 28 (some (AV.int d))).set 29 (some (AV.int ab)))[27]? =some (some (.ref aa)):=by
   rw[List.getElem?_set_ne (by decide),List.getElem?_set_ne (by decide),List.getElem?_set_self (by omega)]
  have k1:=(dc (num:=num) (h:=h) (page:=page) (word:=word) (own:=own) (rw:=bT) (th:=th)).1;have:=hK σ' (.refl _);unfold cm cf;by_cases hp:0 < num
  ·have e1:hJ (Tr.elem aa h num page word own its,d,ab)=some (.int num):=if_pos hp;rw[e1] at this;have hp':num >0:=hp;simp? [show (Tr.elem aa h num page word own its).adr=aa from rfl,AN,x _ _ h1,k1,hp'];exact this
  ·have e1:hJ (Tr.elem aa h num page word own its,d,ab)=none:=if_neg hp;rw[e1] at this;have hp':¬ num >0:=hp;simp? [show (Tr.elem aa h num page word own its).adr=aa from rfl,AN,x _ _ h1,k1,hp'];exact this
 | _=>cases he
theorem ui {ρ:Frame} {fl:Nat} {L:List (Tr×Int×Int)} (hρ:ρ.length=48) (hfl:σ fl=some (.list (L.map gj))) (hl:L.length<=1000)
  (hL:∀ e∈L,e.1.pf=true/\e.1.Sp σ) {V:List AV->St->Prop} (hV:∀ ws σ',Ext σ σ'->fI dw σ' L ws->V ws σ'):
  forM (fun σ=>σ fl=some (.list (L.map gj))) (fun _=>ret false) (compF [24,25,26] ρ (cm F .nil) (cf F (.tup (.cons (.item (.loc 24) (.str ("head":Str))) (.cons (.item (.loc 24) (.str ("row":Str))) .nil))))) (L.map gj) [] V E σ:=by
 refine bQ (σ0:=σ) dw (fun x h=>dw.ext x h) (fun σ' x=>x _ _ hfl) L (fun e m σ' x K hK=>?_) [] σ (.refl _) (by rw[List.length_nil];omega) fun ws σ1 x1 C=>?_
 ·obtain⟨he,hs⟩:=hL e m;obtain⟨t,d,ab⟩:=e;cases t with
  | elem aa h num page word own its=>
   unfold Tr.Sp at hs;obtain⟨⟨bT,th,h1,h2,_⟩,_⟩:=hs;refine⟨_,fg,?_⟩;have g24:(((ρ.set 24 (some (AV.ref aa))).set 25 (some (AV.int d))).set 26 (some (AV.int ab)))[24]? =some (some (.ref aa)):=by
    rw[List.getElem?_set_ne (by decide),List.getElem?_set_ne (by decide),List.getElem?_set_self (by omega)]
   obtain⟨_,k2,_,_,_,k6,_⟩:=dc (num:=num) (h:=h) (page:=page) (word:=word) (own:=own) (rw:=bT) (th:=th);unfold cm cf;simp? [show (Tr.elem aa h num page word own its).adr=aa from rfl,g24,x _ _ h1,k2,k6];exact hK (some _) σ' (.refl _) ⟨bT,rfl,x _ _ h2⟩
  | _=>cases he
 ·rw[List.nil_append];exact hV ws σ1 x1 C
def jR:PSs:=(.cons (.asgs [(.loc 21),(.loc 22)] (.item (.loc 20) (.bin .mod (.loc 4) (.bi 0 (.loc 20)))))
  (.cons (.asg (.loc 23) (.bin .mod (.loc 5) (.bin .add (.bi 0 (.loc 22)) (.int 1))))
  (.cons (.asg (.sub (.loc 21) (.str ("K":Str))) (.bin .add (.bin .add (.upto (.loc 22) (.loc 23)) (.list (.cons (.new 3 (.cons (.item (.loc 19) (.bin .mod (.loc 3) (.bi 0 (.loc 19)))) (.cons (.int 0) .nil))) .nil))) (.fro (.loc 22) (.loc 23))))
  (.cons (.ret (.andor true (.cons (.call 44 (.cons (.loc 15) (.cons (.int 0) .nil))) (.cons (.call 44 (.cons (.loc 15) (.cons (.int 1) .nil))) (.cons (.call 44 (.cons (.loc 15) (.cons (.int 2) .nil))) .nil)))))
  .nil))))
def jS:PSs:=(.cons (.asg (.loc 20) (.bin .add (.list (.cons (.tup (.cons (.loc 13) (.cons (.loc 14) .nil))) .nil)) (.comp (.tup (.cons (.item (.loc 24) (.str ("head":Str))) (.cons (.item (.loc 24) (.str ("row":Str))) .nil))) [24,25,26] (.seq (.loc 16)) .nil)))
  jR)
def o7:PSs:=(.cons (.asg (.loc 19) (.comp (.item (.loc 27) (.str ("number":Str))) [27,28,29] (.seq (.loc 16)) (.cons (.cmp .gt (.item (.loc 27) (.str ("number":Str))) (.int 0)) .nil)))
  (.cons (.ite (.andor false (.cons (.not (.loc 2)) (.cons (.cmp .eq (.bi 0 (.loc 19)) (.int 0)) .nil))) (.cons (.ret (.bool true))
  .nil) .nil)
  jS))
structure cO (σ:St) (ax rt:Nat) (es:List (Int×AV)) (aJ:List (Str×AV)) (o1 o2 o3:Int) (its:ah):Prop where
 base:∃ φ,Ext φ σ/\φ rt=none/\(∀ h∈its.heads,φ h=none)/\φ ax=some (.dS [("Root",ai 1)])/\(∃ ct,atKey es 1=some (.tup [.int 0,.ref ct])/\φ ct=some (.dS aJ))/\iM φ es aJ o1 o2 o3
 nodup:its.heads.Nodup
 yM:rt∉its.heads
 small:∀ h,h=rt\/h∈its.heads->∃ hes,σ h=some (.dS hes)/\hes.length<=100
theorem cO.ext {its:ah} (x:Ext σ σ') (B:cO σ ax rt es aJ o1 o2 o3 its):cO σ' ax rt es aJ o1 o2 o3 its:=by
 obtain⟨⟨φ,h1,h2⟩,h3,h4,h5⟩:=B;refine⟨⟨φ,h1.trans x,h2⟩,h3,h4,fun h m=>?_⟩;obtain⟨hes,e,l⟩:=h5 h m;exact⟨hes,x _ _ e,l⟩
structure vV (its:ah) (rt H:Nat) (hits:ah):Prop where
 uf:∀ e∈its.flat 0 (-1) 0,e.1.hd=H->e.1.its=hits
 ug:rt=H->hits=its/\∀ e∈its.flat 0 (-1) 0,e.1.hd≠H
 qo:rt=H\/∃ e∈its.flat 0 (-1) 0,e.1.hd=H
 size:hits.size<=390
theorem iY {its:ah} (A:All σ tb ax rt es aJ o1 o2 o3 f its) (B:cO σ ax rt es aJ o1 o2 o3 its) {nm hs:Nat} {N2 HL:List AV} (qp:σ nm=some (.list N2)) (sP:σ hs=some (.list HL)) (nN:N2≠[]) (nH:HL≠[]) (lN:N2.length<=1000) (lH:HL.length<=1000) (hN:∀ v∈N2,∃ e∈its.flat 0 (-1) 0,v=.int e.1.num/\0 < e.1.num) (hH:∀ v∈HL,∃ H er hits,v=.tup [.ref H,.ref er]/\σ er=some (.list hits.vals)/\vV its rt H hits)
  {aG aY aV:Int} (hw:0<=aG/\0<=aY/\0<=aV) {a0 a1 a2 a6 a7 a8 a9 a10 a11 a12 a13 a14 a16 a17 a18:Option AV} (hQ:∀ σ',Q (.bool true) σ'):
  evSs (FF sa sl (n+10)) newM GG jR [a0,a1,a2,some (.int aG),some (.int aY),some (.int aV),a6,a7,a8,a9,a10,a11,a12,a13,a14,some (ak tb ax),a16,a17,a18,some (.ref nm),some (.ref hs),none,none,none,none,none,none,none,none,none,none,none,none,none,none,none,none,none,none,none,none,none,none,none,none,none,none,none] (fun x σ=>Q (bj x.1) σ) E σ:=by
 unfold jR;have pN:0 < ((N2.length:Nat):Int):=by
  have:=List.length_pos_iff.mpr nN;omega
 have pH:0 < ((HL.length:Nat):Int):=by
  have:=List.length_pos_iff.mpr nH;omega
 have CC:N2.length<=1000000:=by omega
 have CD:HL.length<=1000000:=by omega
 have i0:=Int.emod_nonneg aY (show ((HL.length:Nat):Int)≠0 by omega);have i1:=Int.emod_lt_of_pos aY pH;have i2:aY%((HL.length:Nat):Int) < 1152921504606846976:=by omega
 have j0:=Int.emod_nonneg aG (show ((N2.length:Nat):Int)≠0 by omega);have j1:=Int.emod_lt_of_pos aG pN;have j2:aG%((N2.length:Nat):Int) < 1152921504606846976:=by omega
 obtain⟨vH,eH⟩:∃ v,HL[(aY%((HL.length:Nat):Int)).toNat]? =some v:=⟨_,List.getElem?_eq_getElem (by omega)⟩;obtain⟨vN,eN⟩:∃ v,N2[(aG%((N2.length:Nat):Int)).toNat]? =some v:=⟨_,List.getElem?_eq_getElem (by omega)⟩;obtain⟨H,er,hits,rfl,AP,ho⟩:=hH vH (List.mem_of_getElem? eH);obtain⟨eX,mX,rfl,hX⟩:=hN vN (List.mem_of_getElem? eN);have hvl:=hits.aR;have Dp:=ho.size;have lv:hits.vals.length<=1000000:=by omega
 have AQ:hits.vals.length<=1048576:=by omega
 have pk:0 < ((hits.vals.length:Nat):Int)+1:=by omega
 have k0:=Int.emod_nonneg aV (show ((hits.vals.length:Nat):Int)+1≠0 by omega);have k1:=Int.emod_lt_of_pos aV pk;have k2:aV%(((hits.vals.length:Nat):Int)+1) < 1152921504606846976:=by omega
 obtain⟨k,ek⟩:∃ k:Nat,aV%(((hits.vals.length:Nat):Int)+1)=(k:Int):=⟨(aV%(((hits.vals.length:Nat):Int)+1)).toNat,by omega⟩;rw[ek] at k0 k1 k2;have kl:k<=hits.vals.length:=by omega
 simp? [sP,CD,pH,i0,i2,eH,AP,lv,pk,ek,k0,k2,AQ,Int.toNat_natCast];intro b1 hb1;have y1:=(Ext.refl σ).put (o:=.list (hits.vals.take k)) hb1;have z1:put σ b1 (.list (hits.vals.take k)) b1=some (.list (hits.vals.take k)):=af;generalize put σ b1 (.list (hits.vals.take k))=σ1 at y1 z1 ⊢;simp? [y1 _ _ qp,CC,pN,j0,j2,eN];intro b2 hb2;have y2:=(Ext.refl σ1).put (o:=.list [ai eX.1.num]) hb2;have z2:put σ1 b2 (.list [ai eX.1.num]) b2=some (.list [ai eX.1.num]):=af;generalize put σ1 b2 (.list [ai eX.1.num])=σ2 at y2 z2 ⊢;have Dq:(hits.vals.take k).length<=1000:=by rw[List.length_take];omega
 have Dr:(hits.vals.drop k).length<=1000:=by rw[List.length_drop];omega
 have yN:(hits.vals.take k).length+1<=1000000:=by omega
 simp? [y2 _ _ z1,z2,yN];refine⟨by omega,?_⟩;intro b3 vk;have y3:=(Ext.refl σ2).put (o:=.list (hits.vals.take k++[ai eX.1.num])) vk;have z3:put σ2 b3 (.list (hits.vals.take k++[ai eX.1.num])) b3=some (.list (hits.vals.take k++[ai eX.1.num])):=af;generalize put σ2 b3 (.list (hits.vals.take k++[ai eX.1.num]))=σ3 at y3 z3 ⊢;simp? [y3 _ _ (y2 _ _ (y1 _ _ AP)),k0,k2,AQ,Int.toNat_natCast];intro b4 CE;have y4:=(Ext.refl σ3).put (o:=.list (hits.vals.drop k)) CE;have z4:put σ3 b4 (.list (hits.vals.drop k)) b4=some (.list (hits.vals.drop k)):=af;generalize put σ3 b4 (.list (hits.vals.drop k))=σ4 at y4 z4 ⊢;have AR:(hits.vals.take k++[ai eX.1.num]).length+(hits.vals.drop k).length<=1000000:=by
  rw[List.length_append,List.length_cons,List.length_nil];omega
 generalize yq:hits.vals.take k++[ai eX.1.num]=l5 at z3 AR y3 ⊢;simp? [y4 _ _ z3,z4,AR];intro nl CF;have y5:=(Ext.refl σ4).put (o:=.list (l5++hits.vals.drop k)) CF;have z5:put σ4 nl (.list (l5++hits.vals.drop k)) nl=some (.list (l5++hits.vals.drop k)):=af;generalize put σ4 nl (.list (l5++hits.vals.drop k))=σ5 at y5 z5 ⊢;have X5:Ext σ σ5:=(((y1.trans y2).trans y3).trans y4).trans y5;have A5:=A.ext X5;have B5:=B.ext X5;have AS:H=rt\/H∈its.heads:=by
  rcases ho.qo with q | ⟨e,m,q⟩
  ·exact .inl q.symm
  ·exact .inr (by rw[ah.aQ its 0 (-1) 0];exact List.mem_map.mpr ⟨e,m,q⟩)
 obtain⟨qq,yO,Ds⟩:=B5.small H AS;have yP:qq.length<=1000000:=by omega
 simp? [yO,yP];have CG:nl≠H:=fun q=>by rw[q,yO] at z5;cases z5
 have ag:Ag σ5 (put σ5 H (.dS (putK qq "K" (.ref nl)))) tb ax rt es aJ o1 o2 o3 f its H eX.1.num k hits nl:=by
  obtain⟨φ,p1,p2,p3,p4,p5,p6⟩:=B5.base;refine⟨A5,⟨φ,p1,?_,p4,p5,p6⟩,⟨fun a o q e=>by rw[ae q];exact e,qq,yO,af⟩,?_,ho.uf,ho.ug,ho.qo,hX,eX,mX,rfl⟩
  ·rcases AS with rfl | q
   ·exact p2
   ·exact p3 _ q
  ·rw[ae CG,z5,<- yq,List.append_assoc];rfl
 generalize put σ5 H (.dS (putK qq "K" (.ref nl)))=gp at ag ⊢;refine cM ag fun oK x7=>?_;tb_start;refine cM (ag.ext x7) fun iu x8=>?_;tb_start;refine cM (ag.ext (x7.trans x8)) fun uj x9=>?_;exact hQ _
theorem iZ {its:ah} (A:All σ tb ax rt es aJ o1 o2 o3 f its) (B:cO σ ax rt es aJ o1 o2 o3 its) {fl rw nm:Nat} (hfl:σ fl=some (.list ((its.flat 0 (-1) 0).map gj))) (jJ:σ rw=some (.list its.vals)) {N2:List AV} (qp:σ nm=some (.list N2)) (nN:N2≠[]) (yQ:N2.length<=1000) (numOf:∀ v∈N2,∃ e∈its.flat 0 (-1) 0,v=.int e.1.num/\0 < e.1.num) {aG aY aV:Int} (hw:0<=aG/\0<=aY/\0<=aV) {a0 a1 a2 a6 a7 a8 a9 a10 a11 a12 a17 a18:Option AV} (hQ:∀ σ',Q (.bool true) σ'):
  evSs (FF sa sl (n+10)) newM GG jS [a0,a1,a2,some (.int aG),some (.int aY),some (.int aV),a6,a7,a8,a9,a10,a11,a12,some (.ref rt),some (.ref rw),some (ak tb ax),some (.ref fl),a17,a18,some (.ref nm),none,none,none,none,none,none,none,none,none,none,none,none,none,none,none,none,none,none,none,none,none,none,none,none,none,none,none,none] (fun x σ=>Q (bj x.1) σ) E σ:=by
 have mw:=its.aI 0 (-1) 0;have hsz:=A.size;have hall:=A.flat 0 (-1) 0;have dG:=ah.bq A.val 0 (-1) 0;have tn:∀ e∈its.flat 0 (-1) 0,e.1.pf=true/\e.1.Sp σ:=fun e m=>by
  obtain⟨_,_,_,h⟩:=dG e m;exact⟨h,(hall e m).sp⟩
 unfold jS;tb_start;intro r0 CH;have y2:=(Ext.refl σ).put (o:=.list [.tup [.ref rt,.ref rw]]) CH;have z2:put σ r0 (.list [.tup [.ref rt,.ref rw]]) r0=some (.list [.tup [.ref rt,.ref rw]]):=af;generalize put σ r0 (.list [.tup [.ref rt,.ref rw]])=σ2 at y2 z2 ⊢;have x2:=y2;have yR:∀ e∈its.flat 0 (-1) 0,e.1.pf=true/\e.1.Sp σ2:=fun e m=>⟨(tn e m).1,(tn e m).2.ext x2⟩;simp? [x2 _ _ hfl];refine ui (hρ:=?_) (x2 _ _ hfl) (by omega) yR fun ws uk CI CJ=>?_
 ·rfl
 intro a ha;have x3:=CI.put (o:=.list ws) ha;have AU:put uk a (.list ws) a=some (.list ws):=af;have C3:=fI.ext (R:=dw) (fun x h=>dw.ext x h) ((Ext.refl uk).put (o:=.list ws) ha) CJ;generalize put uk a (.list ws)=σ3 at x3 AU C3 ⊢;have zo:ws.length<=390:=by
  have:∀ {L:List (Tr×Int×Int)} {ws:List AV},fI dw σ3 L ws->ws.length<=L.length:=by
   intro L ws C;induction C with
   | nil=>exact Nat.le_refl _
   | skip _ _ ih=>rw[List.length_cons];omega
   | take _ _ ih=>rw[List.length_cons,List.length_cons];omega
  have:=this C3;omega
 have yN:1+ws.length<=1000000:=by omega
 simp? [x3 _ _ z2,AU,yN];intro hs sP;have y4:=(Ext.refl σ3).put (o:=.list (.tup [.ref rt,.ref rw]::ws)) sP;have z4:put σ3 hs (.list (.tup [.ref rt,.ref rw]::ws)) hs=some (.list (.tup [.ref rt,.ref rw]::ws)):=af;generalize put σ3 hs (.list (.tup [.ref rt,.ref rw]::ws))=σ4 at y4 z4 ⊢;have AW:=x3.trans y4;have x4:=x2.trans AW;have CK:∀ v∈(AV.tup [.ref rt,.ref rw]::ws),∃ H er hits,v=.tup [.ref H,.ref er]/\σ4 er=some (.list hits.vals)/\vV its rt H hits:=by
  intro v m;rcases List.mem_cons.mp m with rfl | m
  ·refine⟨rt,rw,its,rfl,x4 _ _ jJ,fun e m q=>?_,fun _=>⟨rfl,fun e m q=>?_⟩,.inl rfl,hsz⟩
   ·exact absurd (by rw[ah.aQ its 0 (-1) 0];exact List.mem_map.mpr ⟨e,m,q⟩) B.yM
   ·exact B.yM (by rw[ah.aQ its 0 (-1) 0];exact List.mem_map.mpr ⟨e,m,q⟩)
  ·obtain⟨e,m2,CL,rfl,CM⟩:=o6 C3 v m;have nd:=B.nodup;rw[ah.aQ its 0 (-1) 0] at nd;refine⟨e.1.hd,CL,e.1.its,rfl,y4 _ _ CM,fun e2 m3 q=>?_,fun q=>?_,.inr ⟨e,m2,rfl⟩,?_⟩
   ·rw[gw nd e2 m3 e m2 q]
   ·exact absurd (by rw[q,ah.aQ its 0 (-1) 0];exact List.mem_map.mpr ⟨e,m2,rfl⟩) B.yM
   ·have I:=hall e m2;have h1:=I.size;have h2:=(tn e m2).1;obtain⟨t,d,ab⟩:=e;cases t with
    | elem _ _ _ _ _ _ i2=>
     have:(1+i2.size)<=390:=by
      have:=h1;simp only[Tr.size] at this;omega
     show i2.size<=390;omega
    | _=>cases h2
 exact iY (sa:=sa) (sl:=sl) (n:=n) (E:=E) (Q:=Q) (A.ext x4) (B.ext x4) (AW _ _ (y2 _ _ qp)) z4 nN (by simp) yQ (by rw[List.length_cons];omega) numOf CK hw (a0:=a0) (a1:=a1) (a2:=a2) (a6:=a6) (a7:=a7) (a8:=a8) (a9:=a9) (a10:=a10) (a11:=a11) (a12:=a12) (a13:=some (.ref rt)) (a14:=some (.ref rw)) (a16:=some (.ref fl)) (a17:=a17) (a18:=a18) hQ
theorem jT {its:ah} (A:All σ tb ax rt es aJ o1 o2 o3 f its) (B:cO σ ax rt es aJ o1 o2 o3 its) {fl rw:Nat} (hfl:σ fl=some (.list ((its.flat 0 (-1) 0).map gj))) (jJ:σ rw=some (.list its.vals)) {ag:Bool} {aG aY aV:Int} (hw:0<=aG/\0<=aY/\0<=aV) {a0 a1 a6 a7 a8 a9 a10 a11 a12 a17 a18:Option AV} (hQ:∀ σ',Q (.bool true) σ'):
  evSs (FF sa sl (n+10)) newM GG o7 [a0,a1,some (.bool ag),some (.int aG),some (.int aY),some (.int aV),a6,a7,a8,a9,a10,a11,a12,some (.ref rt),some (.ref rw),some (ak tb ax),some (.ref fl),a17,a18,none,none,none,none,none,none,none,none,none,none,none,none,none,none,none,none,none,none,none,none,none,none,none,none,none,none,none,none,none] (fun x σ=>Q (bj x.1) σ) E σ:=by
 have mw:=its.aI 0 (-1) 0;have hsz:=A.size;have hall:=A.flat 0 (-1) 0;have dG:=ah.bq A.val 0 (-1) 0;have tn:∀ e∈its.flat 0 (-1) 0,e.1.pf=true/\e.1.Sp σ:=fun e m=>by
  obtain⟨_,_,_,h⟩:=dG e m;exact⟨h,(hall e m).sp⟩
 unfold o7;rw[cE,eR];refine uh (by rfl) rfl hfl (by omega) tn fun nm σ1 x1 qp=>?_;have lN:((its.flat 0 (-1) 0).filterMap hJ).length<=1000000:=by
  have:=List.length_filterMap_le hJ (its.flat 0 (-1) 0);omega
 generalize AX:(its.flat 0 (-1) 0).filterMap hJ=Ns at qp lN;have numOf:∀ v∈Ns,∃ e∈its.flat 0 (-1) 0,v=.int e.1.num/\0 < e.1.num:=fun v m=>by
  rw[<- AX,List.mem_filterMap] at m;obtain⟨e,m1,m2⟩:=m;unfold hJ at m2;split at m2
  ·cases m2;exact⟨e,m1,rfl,by assumption⟩
  ·cases m2
 cases ag with
 | false=>
  tb_start;exact hQ _
 | true=>
  cases Ns with
  | nil=>
   simp? [qp,List.length_nil,Nat.zero_le,show ((0:Nat):Int)=0 from rfl];exact hQ _
  | cons v0 Ns=>
   have cN:((((v0::Ns).length:Nat):Int)==0)=false:=beq_eq_false_iff_ne.mpr (by rw[List.length_cons];omega);generalize yS:v0::Ns=N2 at qp lN numOf cN;have yQ:N2.length<=1000:=by
    have:=List.length_filterMap_le hJ (its.flat 0 (-1) 0);rw[AX,yS] at this;omega
   have CN:0 < ((N2.length:Nat):Int):=by rw[<- yS,List.length_cons];omega
   simp? [qp,lN,cN];exact iZ (A.ext x1) (B.ext x1) (x1 _ _ hfl) (x1 _ _ jJ) qp (by rw[<- yS];simp) yQ numOf hw hQ
end
abbrev i5:List (Option AV):=List.replicate 31 none
def hU:PSs:=(.cons (.asg (.loc 17) (.call 18 (.cons (.loc 15) .nil)))
  (.cons (.ite AI (.cons (.ret (.bool false))
  .nil) .nil)
  (.cons (.ite (.cmp .ne (.call 24 (.cons (.loc 15) .nil)) (.call 43 (.cons (.loc 16) (.cons (.loc 9) .nil)))) (.cons (.ret (.bool false))
  .nil) .nil)
  (.cons (.ite AK (.cons (.ret (.bool false))
  .nil) .nil)
  (.cons (.asg (.loc 18) (.bi 5 (.comp2 dH [33] (.seq (.tup (.cons (.neg (.int 1)) (.cons (.int 0) (.cons (.int 1) (.cons (.int 2) .nil)))))) [34] (.range (.cons (.int 4) .nil)) gZ)))
  (.cons (.ite (.cmp .ne (.call 27 (.cons (.loc 15) (.cons (.loc 18) .nil))) (.comp (.call 42 (.cons (.loc 30) (.cons (.loc 18) .nil))) [30,31,32] (.seq (.loc 16)) .nil)) (.cons (.ret (.bool false))
  .nil) .nil) o7))))))
def hZ:PSs:=(.cons (.asg (.loc 16) (.list .nil))
  (.cons (.expr (.call 39 (.cons (.comp (.item (.loc 45) (.int 1)) [45] (.seq (.loc 12)) .nil) (.cons (.int 0) (.cons (.neg (.int 1)) (.cons (.loc 16) .nil)))))) hU))
theorem ia {its:ah} (A:All σ tb ax rt es aJ o1 o2 o3 f its) (hV:∀ s t,f s=some t->t∈aF) (B:cO σ ax rt es aJ o1 o2 o3 its) (jQ:its.dep<=4) {fl rw p:Nat} {pl:List (Str×AV)} (hfl:σ fl=some (.list ((its.flat 0 (-1) 0).map gj))) (jJ:σ rw=some (.list its.vals)) (hp:σ p=some (.dS pl)) (hf:bp pl f) {ag:Bool} {aG aY aV:Int} (hw:0<=aG/\0<=aY/\0<=aV) {a0 a1 a6 a7 a8 a10 a11 a12:Option AV} (hQ:∀ σ',Q (.bool true) σ'):
  evSs (FF sa sl (n+10)) newM GG hU (a0::a1::some (.bool ag)::some (.int aG)::some (.int aY)::some (.int aV)::a6::a7::a8::some (.ref p)::a10::a11::a12::some (.ref rt)::some (.ref rw)::some (ak tb ax)::some (.ref fl)::i5) (fun x σ=>Q (bj x.1) σ) E σ:=by
 have mw:=its.aI 0 (-1) 0;have hsz:=A.size;have hall:=A.flat 0 (-1) 0;have dG:=ah.bq A.val 0 (-1) 0;unfold hU;rw[cE,eR,je,gE,fX];simp only[List.getElem?_cons_succ,List.getElem?_cons_zero,cu,ko];refine A.oG (n:=n+5) fun la σ1 x1 bA=>?_;rw[aZ];have hS1:∀ e∈its.flat 0 (-1) 0,e.1.Sp σ1:=fun e m=>(hall e m).sp.ext x1;have CO:∀ e∈its.flat 0 (-1) 0,∃ v home,Tr.Val σ1 es o1 o2 o3 home v e.1/\e.1.pf=true:=fun e m=>by
  obtain⟨v,home,h,h'⟩:=dG e m;exact⟨v,home,h.inc x1 (.refl _),h'⟩
 rw[cE,fZ];refine qj (la:=la) (fl:=fl) (o1:=o1) (o2:=o2) (o3:=o3) (es:=es) (L:=its.flat 0 (-1) 0) (by rfl) (by rfl) (by rfl) bA (x1 _ _ hfl) (by omega) CO hS1 fun σ2 x2=>?_;rw[if_neg (by decide),fY,aZ,cE,fZ];have xf:=x1.trans x2;refine ql (n:=n+1) (p:=p) (fl:=fl) (pl:=pl) (sh:=.none) (A.ext xf) hV (xf _ _ hp) hf (by rfl) (by rfl) (by rfl) (xf _ _ hfl) fun σ3 x3=>?_;rw[if_neg (by decide),fY,aZ,cE,fZ];have fQ:=xf.trans x3;refine qm (n:=n+1) (la:=la) (fl:=fl) (A.ext fQ) (by rfl) (by rfl) (by rfl) (by rfl) (fQ _ _ hfl) (x3 _ _ (x2 _ _ bA)) fun σ4 x4=>?_;have CP:=fQ.trans x4;rw[if_neg (by decide),fY,aZ,cE,eR];refine jP (by rfl) fun tx σ5 x5 lP=>?_;have yT:=CP.trans x5;rw[aZ,cE,fZ];refine qn (n:=n+1) (fl:=fl) (tx:=tx) (A.ext yT) jQ (by rfl) lP (by rfl) (by rfl) (by rfl) (yT _ _ hfl) fun gp x6=>?_;have xg:=yT.trans x6;rw[if_neg (by decide),fY,aZ];exact jT (A.ext xg) (B.ext xg) (xg _ _ hfl) (xg _ _ jJ) hw hQ
theorem i7 {its:ah} (A:All σ tb ax rt es aJ o1 o2 o3 f its) (hV:∀ s t,f s=some t->t∈aF) (B:cO σ ax rt es aJ o1 o2 o3 its) (jQ:its.dep<=4) {th rw p:Nat} {l:List AV} {P:AV->Tr->Bool->Prop} (hth:σ th=some (.list l)) (T:cI P its l) {pl:List (Str×AV)} (jJ:σ rw=some (.list its.vals)) (hp:σ p=some (.dS pl)) (hf:bp pl f) {ag:Bool} {aG aY aV:Int} (hw:0<=aG/\0<=aY/\0<=aV) {a0 a1 a6 a7 a8 a10 a11:Option AV} (hQ:∀ σ',Q (.bool true) σ'):
  evSs (FF sa sl (n+10)) newM GG hZ (a0::a1::some (.bool ag)::some (.int aG)::some (.int aY)::some (.int aV)::a6::a7::a8::some (.ref p)::a10::a11::some (.ref th)::some (.ref rt)::some (.ref rw)::some (ak tb ax)::none::i5) (fun x σ=>Q (bj x.1) σ) E σ:=by
 have mw:=its.aI 0 (-1) 0;have hsz:=A.size;have hvl:=its.aR;have uD:=T.len;unfold hZ;tb_start;intro fl hfl;have y1:=(Ext.refl σ).put (o:=.list []) hfl;have z1:put σ fl (.list []) fl=some (.list []):=af;generalize CQ:put σ fl (.list [])=σ1 at y1 z1 ⊢;simp? [y1 _ _ hth];refine ec (j:=1) T (y1 _ _ hth) (by omega) (by simp) tW (fun v a fl=>rfl) (by decide) fun σ2 x2=>?_;rw[T.aT];intro ad AY;have y3:=x2.put (o:=.list its.aT) AY;have z3:put σ2 ad (.list its.aT) ad=some (.list its.aT):=af;have yU:ad≠fl:=fun q=>by
  have:=x2 _ _ z1;rw[<- q,AY] at this;cases this
 generalize put σ2 ad (.list its.aT)=σ3 at y3 z3 ⊢;have pE:Ext σ (fun b=>if b=fl then none else σ3 b):=fun b o e=>by
  have:b≠fl:=fun q=>by rw[q,hfl] at e;cases e
  show (if b=fl then none else σ3 b)=some o;rw[if_neg this];exact y3 _ _ (y1 _ _ e)
 refine lI (n:=n+5) 4 its (fun b=>if b=fl then none else σ3 b) ad 0 (-1) [] fl σ3 _ _ jQ (A.sp.ext pE) (by show (if ad=fl then none else σ3 ad)=_;rw[if_neg yU];exact z3) (if_pos rfl) (fun b o e=>by
  have e':(if b=fl then none else σ3 b)=some o:=e;split at e'
  ·cases e'
  ·exact e') (y3 _ _ z1) (by rw[List.length_nil];omega) fun σ4 x4 vW=>?_
 have X4:=pE.trans x4;rw[List.nil_append,List.length_nil] at vW;exact ia (A.ext X4) hV (B.ext X4) jQ vW (X4 _ _ jJ) (X4 _ _ hp) hf hw hQ
theorem jk.inc {σ:St} {es es':List (Int×AV)} (i:cn es es') {k:Int} {hd:Nat} {hes:List (Str×AV)} {b:Bool} (P:jk σ es k hd hes b):jk σ es' k hd hes b:=⟨i.1 _ _ P.ent,P.obj,P.len,P.i1,P.i2,P.i3,P.i4,P.typ⟩
theorem iM.inc {σ:St} {es es':List (Int×AV)} {aJ:List (Str×AV)} {o1 o2 o3:Int} (i:cn es es') (G:iM σ es aJ o1 o2 o3):iM σ es' aJ o1 o2 o3:=by
 obtain⟨c,⟨ph,jm,kl,r1,r2,r3⟩,⟨_,_,p1⟩,⟨_,_,p2⟩,⟨_,_,p3⟩,ne⟩:=G;exact⟨c,⟨ph,jm,kl,r1.inc i,r2,r3⟩,⟨_,_,p1.inc i⟩,⟨_,_,p2.inc i⟩,⟨_,_,p3.inc i⟩,ne⟩
theorem fy.inc {τ:St} {es es':List (Int×AV)} (i:cn es es') {hes bx:List (Str×AV)} (hk:atKey bx "K"=atKey hes "K") {l:List AV}:fy τ es hes l->fy τ es' bx l:=by
 rintro⟨w,h1,h2⟩;exact⟨w,by rw[hk];exact h1.ext (.refl _) i,by rw[hk];exact h2⟩
def ib:PSs:=(.cons (.ite (.cmp .isnot (.loc 10) .none) (.cons (.asg (.sub (.loc 13) (.str ("RoleMap":Str))) (.loc 10))
  .nil) .nil)
  (.cons (.asg (.sub (.loc 7) (.int 1)) (.tup (.cons (.int 0) (.cons (.dictS [("Type":Str),("Pages":Str),("StructTreeRoot":Str)] (.cons (.new 0 (.cons (.str ("Catalog":Str)) .nil)) (.cons (.new 3 (.cons (.int 2) (.cons (.int 0) .nil))) (.cons (.call 31 (.cons (.loc 1) (.cons (.loc 7) (.cons (.loc 13) .nil)))) .nil)))) .nil))))
  (.cons (.asg (.loc 15) (.new 7 (.cons (.loc 7) (.cons (.dictS [("Root":Str)] (.cons (.new 3 (.cons (.int 1) (.cons (.int 0) .nil))) .nil)) .nil)))) hZ)))
def ie:PSs:=(.cons (.asg (.loc 12) (.comp (.call 35 (.cons (.loc 1) (.cons (.loc 11) (.cons (.neg (.int 1)) (.cons (.int 0) .nil))))) [46] (.range (.cons (.bin .add (.int 1) (.call 30 (.cons (.loc 1) (.cons (.int 3) .nil)))) .nil)) .nil))
  (.cons (.asg (.loc 13) (.dictS [("Type":Str)] (.cons (.new 0 (.cons (.str ("StructTreeRoot":Str)) .nil)) .nil)))
  (.cons (.asg (.loc 14) (.call 37 (.cons (.loc 1) (.cons (.loc 7) (.cons (.loc 13) (.cons (.loc 12) .nil)))))) ib)))
def jU:PSs:=(.cons (.asgs [(.loc 9),(.loc 10)] (.call 32 (.cons (.loc 1) (.cons (.loc 7) .nil))))
  (.cons (.asg (.loc 11) (.dictS [("table":Str),("left":Str),("order":Str)] (.cons (.loc 7) (.cons (.int 6) (.cons (.loc 6) .nil))))) ie))
abbrev ig (sv:AV):List (Str×AV):=[("Type",nameA "Catalog"),("Pages",ai 2),("StructTreeRoot",sv)]
theorem ij {jc:List (Int×AV)} {dh:List (Str×AV)} {its its':ah} {τ φ0:St} {m:Nat} (hm:m<=100000) (G:GS ta tb m jc σ) (lG:σ rt=some (.dS dh)) (yB:dh.length<=2) {lv:AV} (uK:atKey dh "RoleMap"=none)
  (yV:Ext τ σ) (yW:τ ta=none/\τ tb=none/\τ rt=none) (pE:Ext φ0 σ) (dk:φ0 ta=none/\φ0 tb=none/\φ0 rt=none) {rw th p:Nat} {pl:List (Str×AV)} {l:List AV}
  (jJ:σ rw=some (.list its.vals)) (um:rw≠ta) (hth:σ th=some (.list l)) (yX:th≠ta) (hp:σ p=some (.dS pl)) (xh:p≠rt) (hf:bp pl f) (hW:∀ s t,f s=some t->s∈aF/\t∈aF)
  (kf:∀ gq,Ext τ gq->gq rw=some (.list its.vals)->fy gq jc dh its'.vals) (nx:br rt its its') (yY:its.Val τ jc o1 o2 o3 (-1)) (CR:its.Sp τ) (vY:its.nums.Nodup) (hsz:its.size<=390) (jQ:its.dep<=4) {P:AV->Tr->Bool->Prop} (T:cI P its l)
  (fD:∀ h∈its.heads,φ0 h=none/\h≠rt/\∃ o,τ h=some (.dS o)/\o.length<=40) (hnd:its.heads.Nodup)
  (ti:∀ (gq:St) (res:List (Str×AV)),(∀ a o,a≠rt->a≠ta->a≠tb->σ a=some o->gq a=some o)->(atKey res "RoleMap").getD .none=lv->RM gq jc res f)
  (ou:∀ aJ:List (Str×AV),atKey aJ "Pages"=some (ai 2)->iM φ0 jc aJ o1 o2 o3)
  {ag:Bool} {aG aY aV:Int} (hw:0<=aG/\0<=aY/\0<=aV) {a0 a6 a8 a11:Option AV} (hQ:∀ σ',Q (.bool true) σ'):
  evSs (FF sa sl (n+10)) newM GG ib (a0::some (.ref ta)::some (.bool ag)::some (.int aG)::some (.int aY)::some (.int aV)::a6::some (.ref tb)::a8::some (.ref p)::some lv::a11::some (.ref th)::some (.ref rt)::some (.ref rw)::none::none::i5) (fun x σ=>Q (bj x.1) σ) E σ:=by
 have pZ:=G.ne2 lG;simp only[List.mem_cons,List.not_mem_nil,or_false,not_or] at pZ;have go:∀ (res:List (Str×AV)) (uj:St),GS ta tb m jc uj->uj rt=some (.dS res)->res.length<=3->(atKey res "RoleMap").getD .none=lv->atKey res "K"=atKey dh "K"->(∀ a o,a≠rt->σ a=some o->uj a=some o)->
   evSs (FF sa sl (n+10)) newM GG (.cons (.asg (.sub (.loc 7) (.int 1)) (.tup (.cons (.int 0) (.cons (.dictS [("Type":Str),("Pages":Str),("StructTreeRoot":Str)] (.cons (.new 0 (.cons (.str ("Catalog":Str)) .nil)) (.cons (.new 3 (.cons (.int 2) (.cons (.int 0) .nil))) (.cons (.call 31 (.cons (.loc 1) (.cons (.loc 7) (.cons (.loc 13) .nil)))) .nil)))) .nil))))
  (.cons (.asg (.loc 15) (.new 7 (.cons (.loc 7) (.cons (.dictS [("Root":Str)] (.cons (.new 3 (.cons (.int 1) (.cons (.int 0) .nil))) .nil)) .nil)))) hZ)) (a0::some (.ref ta)::some (.bool ag)::some (.int aG)::some (.int aY)::some (.int aV)::a6::some (.ref tb)::a8::some (.ref p)::some lv::a11::some (.ref th)::some (.ref rt)::some (.ref rw)::none::none::i5) (fun x σ=>Q (bj x.1) σ) E uj:=by
  intro res uj G9 r9 rl rr rk k9;tb_start;refine ar (n:=n+8) G9 (by omega) fun sv my cz CS CT Dt CU vZ=>?_;intro ct sM;have v5:=(Ext.refl cz).put (o:=.dS (ig sv)) sM;have yZ:put cz ct (.dS (ig sv)) ct=some (.dS (ig sv)):=af;generalize put cz ct (.dS (ig sv))=qr at v5 yZ ⊢;have xi:=CS.ext v5;have n1:=xi.ey (k:=1) (.inr (.inl rfl));have CV:my.length<=1000000:=by have:=xi.len;omega
  simp? [xi.tab,CV,aL n1];have y0:=dF (v:=.tup [.int 0,.ref ct]) n1 (by decide);have y8:=gR (v:=.tup [.int 0,.ref ct]) n1;have uo:put qr tb (.dI (my++[(1,.tup [.int 0,.ref ct])])) tb=some (.dI (my++[(1,.tup [.int 0,.ref ct])])):=af;have k12:∀ a o,a≠tb->qr a=some o->put qr tb (.dI (my++[(1,.tup [.int 0,.ref ct])])) a=some o:=fun a o h e=>by rw[ae h];exact e
  generalize put qr tb (.dI (my++[(1,.tup [.int 0,.ref ct])]))=cQ at uo k12 ⊢;generalize my++[(1,.tup [.int 0,.ref ct])]=v7 at y0 y8 uo ⊢;intro ax uq;have xj:=(Ext.refl cQ).put (o:=.dS [("Root",ai 1)]) uq;have y9:put cQ ax (.dS [("Root",ai 1)]) ax=some (.dS [("Root",ai 1)]):=af;generalize put cQ ax (.dS [("Root",ai 1)])=cR at xj y9 ⊢;have v8:∀ a o,a≠ta->a≠tb->uj a=some o->cR a=some o:=fun a o h1 h2 e=>xj _ _ (k12 _ _ h2 (v5 _ _ (vZ _ _ (by simp only[List.mem_cons,List.not_mem_nil,or_false,not_or];exact⟨h1,h2⟩) e)));have k13:∀ a o,a≠rt->a≠ta->a≠tb->σ a=some o->cR a=some o:=fun a o h0 h1 h2 e=>v8 a o h1 h2 (k9 a o h0 e);have y':ct≠tb:=fun q=>by have:=xi.tab;rw[<- q,yZ] at this;cases this
  have AZ:cR ct=some (.dS (ig sv)):=xj _ _ (k12 _ _ y' yZ);have r13:cR rt=some (.dS res):=v8 _ _ pZ.1 pZ.2 r9;have lh:Ext τ cR:=fun a o e=>k13 a o (fun q=>by rw[q,yW.2.2] at e;cases e) (fun q=>by rw[q,yW.1] at e;cases e) (fun q=>by rw[q,yW.2.1] at e;cases e) (yV _ _ e);have sC:Ext φ0 cR:=fun a o e=>k13 a o (fun q=>by rw[q,dk.2.2] at e;cases e) (fun q=>by rw[q,dk.1] at e;cases e) (fun q=>by rw[q,dk.2.1] at e;cases e) (pE _ _ e);have o8:=CT.trans y0;have A0:cR rw=some (.list its.vals):=k13 _ _ (fun q=>by rw[q,lG] at jJ;cases jJ) um (fun q=>by have:=G.tab;rw[<- q,jJ] at this;cases this) jJ;have CW:cR th=some (.list l):=k13 _ _ (fun q=>by rw[q,lG] at hth;cases hth) yX (fun q=>by have:=G.tab;rw[<- q,hth] at this;cases this) hth;have ur:=G.ne2 hp;simp only[List.mem_cons,List.not_mem_nil,or_false,not_or] at ur;have CX:cR p=some (.dS pl):=k13 _ _ xh ur.1 ur.2 hp;have cs:atKey (ig sv) "StructTreeRoot"=some sv:=rfl;have cp:atKey (ig sv) "Pages"=some (ai 2):=rfl;have A:All cR tb ax rt v7 (ig sv) o1 o2 o3 f its:=by
   refine⟨⟨xj _ _ uo,y9,⟨ct,y8,AZ⟩,res,?_,r13⟩,((ou _ cp).inc o8).ext sC,⟨its',nx,((kf cR lh A0).inc o8 rk).items r13⟩,yY.inc lh o8,CR.ext lh,vY,hsz,⟨res,r13,?_⟩,fun s t e=>(hW s t e).1⟩
   ·rw[cs];exact ((CU.inc y0).sN (j:=0) (.base ⟨_,r13,.inr rfl⟩)).more (by decide)
   ·exact (ti cR res k13 rr).inc (.refl _) o8
  have B:cO cR ax rt v7 (ig sv) o1 o2 o3 its:=by
   have zb:∀ h∈its.heads,∃ o,cR h=some (.dS o)/\o.length<=40:=fun h m=>by
    obtain⟨_,_,o,e,hl⟩:=fD h m;exact⟨o,lh _ _ e,hl⟩
   refine⟨⟨fun b=>if b=rt\/b∈its.heads then none else cR b,?_,if_pos (.inl rfl),fun h m=>if_pos (.inr m),?_,⟨ct,y8,?_⟩,((ou _ cp).inc o8).ext ?_⟩,hnd,fun m=>(fD rt m).2.1 rfl,?_⟩
   ·intro b o e;dsimp only at e;split at e
    ·cases e
    ·exact e
   ·show (if ax=rt\/ax∈its.heads then none else cR ax)=_;rw[if_neg]
    ·exact y9
    ·rintro (q | q)
     ·have:cQ rt=some (.dS res):=k12 _ _ pZ.2 (v5 _ _ (vZ _ _ (by simp only[List.mem_cons,List.not_mem_nil,or_false,not_or];exact pZ) r9));rw[<- q,uq] at this;cases this
     ·obtain⟨_,uu,o,e,_⟩:=fD ax q;have e9:=k9 _ _ uu (yV _ _ e);have wR:=G9.ne2 e9;have:=k12 _ _ (fun z=>wR (by rw[z];simp)) (v5 _ _ (vZ _ _ wR e9));rw[uq] at this;cases this
   ·show (if ct=rt\/ct∈its.heads then none else cR ct)=_;rw[if_neg]
    ·exact AZ
    ·rintro (q | q)
     ·have:cz rt=some (.dS res):=vZ _ _ (by simp only[List.mem_cons,List.not_mem_nil,or_false,not_or];exact pZ) r9;rw[<- q,sM] at this;cases this
     ·obtain⟨_,uu,o,e,_⟩:=fD ct q;have e9:=k9 _ _ uu (yV _ _ e);have:=vZ _ _ (G9.ne2 e9) e9;rw[sM] at this;cases this
   ·intro b o e;show (if b=rt\/b∈its.heads then none else cR b)=some o;rw[if_neg]
    ·exact sC _ _ e
    ·rintro (q | q)
     ·rw[q,dk.2.2] at e;cases e
     ·rw[(fD b q).1] at e;cases e
   ·rintro h (rfl | m)
    ·exact⟨res,r13,by omega⟩
    ·obtain⟨o,e,hl⟩:=zb h m;exact⟨o,e,by omega⟩
  exact i7 A (fun s t e=>(hW s t e).2) B jQ CW T A0 CX hf hw hQ
 unfold ib;cases hv:isNone lv with
 | true=>
  have:lv=.none:=by
   cases lv with
   | none=>rfl
   | _=>cases hv
  subst this;have e:∀ r:PSs,evSs (FF sa sl (n+10)) newM GG (.cons (.ite (.cmp .isnot (.loc 10) .none) (.cons (.asg (.sub (.loc 13) (.str ("RoleMap":Str))) (.loc 10)) .nil) .nil) r) (a0::some (.ref ta)::some (.bool ag)::some (.int aG)::some (.int aY)::some (.int aV)::a6::some (.ref tb)::a8::some (.ref p)::some .none::a11::some (.ref th)::some (.ref rt)::some (.ref rw)::none::none::i5) (fun x σ=>Q (bj x.1) σ) E σ=evSs (FF sa sl (n+10)) newM GG r (a0::some (.ref ta)::some (.bool ag)::some (.int aG)::some (.int aY)::some (.int aV)::a6::some (.ref tb)::a8::some (.ref p)::some .none::a11::some (.ref th)::some (.ref rt)::some (.ref rw)::none::none::i5) (fun x σ=>Q (bj x.1) σ) E σ:=fun r=>Eq.trans rfl rfl;rw[e];exact go dh σ G lG (by omega) (by rw[uK];rfl) rfl fun a o _ e=>e
 | false=>
  have hl:dh.length<=1000000:=by omega
  have e:∀ r:PSs,evSs (FF sa sl (n+10)) newM GG r (a0::some (.ref ta)::some (.bool ag)::some (.int aG)::some (.int aY)::some (.int aV)::a6::some (.ref tb)::a8::some (.ref p)::some lv::a11::some (.ref th)::some (.ref rt)::some (.ref rw)::none::none::i5) (fun x σ=>Q (bj x.1) σ) E (put σ rt (.dS (putK dh "RoleMap" lv)))->evSs (FF sa sl (n+10)) newM GG (.cons (.ite (.cmp .isnot (.loc 10) .none) (.cons (.asg (.sub (.loc 13) (.str ("RoleMap":Str))) (.loc 10)) .nil) .nil) r) (a0::some (.ref ta)::some (.bool ag)::some (.int aG)::some (.int aY)::some (.int aV)::a6::some (.ref tb)::a8::some (.ref p)::some lv::a11::some (.ref th)::some (.ref rt)::some (.ref rw)::none::none::i5) (fun x σ=>Q (bj x.1) σ) E σ:=by
   intro r h;simp? [hv,lG,hl];exact h
  refine e _ (go (putK dh "RoleMap" lv) _ (G.set lG) af ?_ ?_ ?_ fun a o h e=>by rw[ae h];exact e)
  ·have:=aS (es:=dh) (k:=("RoleMap":Str)) (v:=lv);omega
  ·rw[au,if_pos rfl];rfl
  ·rw[au,if_neg (by decide)]
abbrev uv:List (Option AV):=List.replicate 36 none
theorem ik {φ0 ν:St} (bC:du o1 o2 o3) (W:WS ta tb wa m es o1 o2 o3 σ) (hm:m<=1000) {lv:AV}
  (pE:Ext φ0 σ) (dk:φ0 ta=none/\φ0 tb=none/\φ0 wa=none) (A1:Ext ν σ) (wb:ν ta=none/\ν tb=none/\ν wa=none) {p:Nat} {pl:List (Str×AV)}
  (hp:σ p=some (.dS pl)) (zc:p≠wa) (hf:bp pl f) (hW:∀ s t,f s=some t->s∈aF/\t∈aF)
  (ti:∀ (gq:St) (res:List (Str×AV)),Ext ν gq->(atKey res "RoleMap").getD .none=lv->RM gq es res f)
  (ou:∀ aJ:List (Str×AV),atKey aJ "Pages"=some (ai 2)->iM φ0 es aJ o1 o2 o3)
  {ag:Bool} {aG aY aV:Int} (hw:0<=aG/\0<=aY/\0<=aV) {a0 a6 a8:Option AV} (hQ:∀ σ',Q (.bool true) σ'):
  evSs (FF sa sl (n+14)) newM GG ie (a0::some (.ref ta)::some (.bool ag)::some (.int aG)::some (.int aY)::some (.int aV)::a6::some (.ref tb)::a8::some (.ref p)::some lv::some (.ref wa)::uv) (fun x σ=>Q (bj x.1) σ) E σ:=by
 unfold ie;tb_start;refine aH (n:=n+13) W.gs (by omega) (by decide) (by decide) fun k σ3 k0 k1 G3 x3=>?_;have X3:KX [ta,tb] σ σ3:=x3.mono (by simp);have W3:=W.step G3 X3 (.refl _);have q1:-1152921504606846976 < 1+k:=by omega
 have q2:1+k < 1152921504606846976:=by omega
 simp? [q1,q2];have iU:(rangeL 0 (1+k).toNat 1).length<=3:=by rw[cF];omega
 have hmul:(rangeL 0 (1+k).toNat 1).length * 3420<=3 * 3420:=Nat.mul_le_mul_right _ iU;have vF:(rangeL 0 (1+k).toNat 1).length * 121<=3 * 121:=Nat.mul_le_mul_right _ iU;refine df (σ0:=σ3) (S:=121) (D:=4) (C:=3420) (home:=-1) (o1:=o1) (o2:=o2) (o3:=o3) (ta:=ta) (tb:=tb) (wa:=wa) (fun x m' es' σ' K' W' k' xa ub=>?_) (rangeL 0 (1+k).toNat 1) [] (m+1) es σ3 W3 (KX.refl _ _) (by omega) (by rw[List.length_nil];omega) fun r l pY σ4 W4 i4 l4 k4 M4=>?_
 ·unfold cf;tb_start;exact qd bC (-1) m' es' σ' K' _ W' xa ub
 ·rw[List.nil_append];intro th hth;have y5:=(Ext.refl σ4).put (o:=.list l) hth;have z5:put σ4 th (.list l) th=some (.list l):=af;generalize put σ4 th (.list l)=σ5 at y5 z5 ⊢;intro rt lG;have y6:=(Ext.refl σ5).put (o:=.dS [("Type",nameA "StructTreeRoot")]) lG;have z6:put σ5 rt (.dS [("Type",nameA "StructTreeRoot")]) rt=some (.dS [("Type",nameA "StructTreeRoot")]):=af;generalize put σ5 rt (.dS [("Type",nameA "StructTreeRoot")])=gp at y6 z6 ⊢;have xl:σ4 rt=none:=y5.none lG;have W6:=(W4.ext y5).ext y6;have CY:=M4.size;refine iS (n:=n+11) (τ:=aD σ3 σ4) W6.gs (by omega) z6 (by simp) rfl (y6 _ _ z5) M4.mf (by omega) fun bT dh jc iu its' G8 i8 l8 X8 pz r8 h8 yB fA nx kf=>?_;have A6:∀ a o,a≠ta->a≠tb->a≠rt->σ4 a=some o->iu a=some o:=fun a o h1 h2 h3 e=>X8 _ _ (by simp only[List.mem_cons,List.not_mem_nil,or_false,not_or];exact⟨h1,h2,h3⟩) (y6 _ _ (y5 _ _ e));have A7:∀ a o,a≠ta->a≠tb->a≠wa->a≠rt->σ a=some o->iu a=some o:=fun a o h1 h2 h3 h4 e=>A6 a o h1 h2 h4 (k4 _ _ (by simp only[List.mem_cons,List.not_mem_nil,or_false,not_or];exact⟨h1,h2,h3⟩) (X3 _ _ (by simp only[List.mem_cons,List.not_mem_nil,or_false,not_or];exact⟨h1,h2⟩) e));have uw:∀ b∈[ta,tb,wa],∃ o,σ3 b=some o:=W3.al;obtain⟨Du,eta⟩:=uw ta (by simp);obtain⟨Dv,xm⟩:=uw tb (by simp);obtain⟨Dw,Dx⟩:=uw wa (by simp);have zd:∀ b,σ4 b=none->σ b=none:=fun b h=>(X3.w3.trans k4).gm W4.al h;have xo:σ rt=none:=zd _ xl;have wc:∀ b o,σ3 b=some o->aD σ3 σ4 b=none:=fun b o e=>by unfold aD;rw[e]
  have ze:aD σ3 σ4 rt=none:=by
   unfold aD;cases σ3 rt with
   | none=>exact xl
   | some _=>rfl
  have wg:∀ {ψ:St},Ext ψ σ->ψ ta=none->ψ tb=none->ψ wa=none->Ext ψ iu:=fun x h1 h2 h3 a o e=>A7 a o (fun q=>by rw[q,h1] at e;cases e) (fun q=>by rw[q,h2] at e;cases e) (fun q=>by rw[q,h3] at e;cases e) (fun q=>by have:=x _ _ e;rw[q,xo] at this;cases this) (x _ _ e);have ur:=W.gs.ne2 hp;simp only[List.mem_cons,List.not_mem_nil,or_false,not_or] at ur;have xh:p≠rt:=fun q=>by rw[q,xo] at hp;cases hp
  have p8:=A7 p _ ur.1 ur.2 zc xh hp;have xc:th≠ta/\th≠tb/\th≠rt:=by
   obtain⟨o4,e4⟩:=W4.al ta (by simp);obtain⟨o5,e5⟩:=W4.al tb (by simp);refine⟨fun q=>?_,fun q=>?_,fun q=>?_⟩
   ·rw[q,e4] at hth;cases hth
   ·rw[q,e5] at hth;cases hth
   ·rw[<- q,z5] at lG;cases lG
  have CZ:iu th=some (.list l):=X8 _ _ (by simp only[List.mem_cons,List.not_mem_nil,or_false,not_or];exact xc) (y6 _ _ z5);have um:bT≠ta:=fun q=>by
   obtain⟨o4,e4⟩:=W6.al ta (by simp);rw[q,e4] at pz;cases pz
  refine ij (n:=n+4) (φ0:=φ0) (τ:=aD σ3 σ4) (its:=r) (its':=its') (by omega) G8 h8 (by simpa using yB) (by rw[fA _ (by decide)];rfl) (aD.ext fun b o h1 h2=>A6 b o (fun q=>by rw[q,eta] at h1;cases h1) (fun q=>by rw[q,xm] at h1;cases h1) (fun q=>by rw[q,xl] at h2;cases h2) h2) ⟨wc _ _ eta,wc _ _ xm,ze⟩ (wg pE dk.1 dk.2.1 dk.2.2) ⟨dk.1,dk.2.1,pE.none xo⟩ r8 um CZ xc.1 p8 xh hf hW kf nx (M4.val.inc (Ext.refl _) i8) M4.sp M4.nums.2 (by omega) M4.dep M4.mf (fun h mh=>?_) M4.heads.2 (fun gq res hk hr=>?_) (fun aJ hc=>(ou aJ hc).inc (i4.trans i8)) hw hQ
  ·obtain⟨h1,o,h2,h3⟩:=M4.heads.1 h mh;refine⟨?_,(fun q=>by rw[q,xl] at h2;cases h2),o,(by rw[aD.at h1];exact h2),h3⟩;cases e:φ0 h with
   | none=>rfl
   | some o'=>
    have e1:=pE _ _ e;have hne:h∉[ta,tb]:=fun q=>by
     simp only[List.mem_cons,List.not_mem_nil,or_false] at q;rcases q with q | q
     ·rw[q,dk.1] at e;cases e
     ·rw[q,dk.2.1] at e;cases e
    have:=X3 _ _ hne e1;rw[h1] at this;cases this
  ·have zf:=wg A1 wb.1 wb.2.1 wb.2.2;exact (ti gq res (fun a o e=>hk a o (fun q=>by have:=A1 _ _ e;rw[q,xo] at this;cases this) (fun q=>by rw[q,wb.1] at e;cases e) (fun q=>by rw[q,wb.2.1] at e;cases e) (zf _ _ e)) hr).inc (.refl _) (i4.trans i8)
theorem i9 {φ0:St} (bC:du o1 o2 o3) (G:GS ta tb m es σ) (hm:m<=500) (h9:∃ vs,atKey es 9=some (.tup [.int 0,.inst 2 vs])) (pE:Ext φ0 σ) (dk:φ0 ta=none/\φ0 tb=none)
  (ou:∀ aJ:List (Str×AV),atKey aJ "Pages"=some (ai 2)->iM φ0 es aJ o1 o2 o3)
  {ag:Bool} {aG aY aV:Int} (hw:0<=aG/\0<=aY/\0<=aV) {a0 a8:Option AV} (hQ:∀ σ',Q (.bool true) σ'):
  evSs (FF sa sl (n+14)) newM GG jU (a0::some (.ref ta)::some (.bool ag)::some (.int aG)::some (.int aY)::some (.int aV)::some (eE o1 o2 o3)::some (.ref tb)::a8::none::none::none::uv) (fun x σ=>Q (bj x.1) σ) E σ:=by
 unfold jU;tb_start;refine jM (n:=n+11) G (by omega) fun p pl lv f jb σ1 G1 i1 l1 X1 hp0 hp1 hf hW ti=>?_;tb_start;intro wa pB;have y2:=(Ext.refl σ1).put (o:=.dS (bc tb 6 o1 o2 o3)) pB;have z2:put σ1 wa (.dS (bc tb 6 o1 o2 o3)) wa=some (.dS (bc tb 6 o1 o2 o3)):=af;generalize put σ1 wa (.dS (bc tb 6 o1 o2 o3))=σ2 at y2 z2 ⊢;obtain⟨v9,e9⟩:=h9;have W2:WS ta tb wa (m+30) jb o1 o2 o3 σ2:=⟨G1.ext y2,⟨6,z2⟩,v9,i1.1 _ _ e9⟩;have C0:σ wa=none:=X1.gm G1.al pB;have zc:p≠wa:=fun q=>by rw[q,pB] at hp1;cases hp1
 obtain⟨dg,sd,c,eta,_⟩:=G.eD;have xm:=G.tab;have A8:∀ b o,σ b=some o->aD σ σ1 b=none:=fun b o e=>by unfold aD;rw[e]
 have zg:aD σ σ1 wa=none:=by rw[aD.at C0];exact pB
 have wh:Ext φ0 σ1:=fun a o e=>X1 a o (fun q=>by
  simp only[List.mem_cons,List.not_mem_nil,or_false] at q;rcases q with q | q
  ·rw[q,dk.1] at e;cases e
  ·rw[q,dk.2] at e;cases e) (pE _ _ e)
 exact ik (φ0:=φ0) (ν:=aD σ σ1) bC W2 (by omega) (wh.trans y2) ⟨dk.1,dk.2,wh.none pB⟩ ((aD.all σ σ1).trans y2) ⟨A8 _ _ eta,A8 _ _ xm,zg⟩ (y2 _ _ hp1) zc hf hW ti (fun aJ hc=>(ou aJ hc).inc i1) hw hQ
def Tp (ta m:Nat) (σ:St):Prop:=∃ dg sd c:Int,σ ta=some (.list [.int dg,.int sd,.int c])/\0<=dg/\0<=sd/\sd < 1000000007/\0<=c/\c<=m
def jV:PSs:=(.cons (.asg (.loc 7) (.dictI [2,9] (.cons (.tup (.cons (.int 0) (.cons (.dictS [("Type":Str),("Kids":Str),("Count":Str)] (.cons (.new 0 (.cons (.str ("Pages":Str)) .nil)) (.cons (.comp (.new 3 (.cons (.loc 47) (.cons (.int 0) .nil))) [47] (.seq (.loc 6)) .nil) (.cons (.int 3) .nil)))) .nil))) (.cons (.tup (.cons (.int 0) (.cons (.new 2 (.cons (.dictS [] .nil) (.cons (.bytes []) .nil))) .nil))) .nil))))
  (.cons (.for_ [8] (.seq (.loc 6)) Law.B_law_0) jU))
theorem ux:Law.f_law.body=(.cons (.asg (.loc 1) (.call 29 (.cons (.loc 0) .nil)))
  (.cons (.asgs [(.loc 2),(.loc 3),(.loc 4),(.loc 5)] (.tup (.cons (.cmp .eq (.call 30 (.cons (.loc 1) (.cons (.int 3) .nil))) (.int 0)) (.cons (.call 30 (.cons (.loc 1) (.cons (.int 7) .nil))) (.cons (.call 30 (.cons (.loc 1) (.cons (.int 8) .nil))) (.cons (.call 30 (.cons (.loc 1) (.cons (.int 4) .nil))) .nil))))))
  (.cons (.asg (.loc 6) (.item (.glob 5) (.call 30 (.cons (.loc 1) (.cons (.int 6) .nil))))) jV))):=rfl
theorem uy {k:Int} (h0:0<=k) (h1:k < 6):∃ o1 o2 o3,([eE 3 4 5,eE 3 5 4,eE 4 3 5,eE 4 5 3,eE 5 3 4,eE 5 4 3]:List AV)[k.toNat]? =some (eE o1 o2 o3)/\du o1 o2 o3:=by
 have:k=0\/k=1\/k=2\/k=3\/k=4\/k=5:=by omega
 rcases this with rfl | rfl | rfl | rfl | rfl | rfl
 ·exact⟨3,4,5,rfl,⟨fun k a b=>by omega,by decide,by decide⟩⟩
 ·exact⟨3,5,4,rfl,⟨fun k a b=>by omega,by decide,by decide⟩⟩
 ·exact⟨4,3,5,rfl,⟨fun k a b=>by omega,by decide,by decide⟩⟩
 ·exact⟨4,5,3,rfl,⟨fun k a b=>by omega,by decide,by decide⟩⟩
 ·exact⟨5,3,4,rfl,⟨fun k a b=>by omega,by decide,by decide⟩⟩
 ·exact⟨5,4,3,rfl,⟨fun k a b=>by omega,by decide,by decide⟩⟩
theorem Tp.ext (x:Ext σ σ') (T:Tp ta m σ):Tp ta m σ':=by
 obtain⟨dg,sd,c,h,r⟩:=T;exact⟨dg,sd,c,x _ _ h,r⟩
theorem bW (T:Tp ta m σ) (hm:m < 1000000) {many:Int} (h0:0 < many) (h1:many < 1152921504606846976) (hQ:∀ k σ',0<=k->k < many->Tp ta (m+1) σ'->Q (.int k) σ'):FF sa sl (n+1) 30 [.ref ta,.int many] Q E σ:=by
 obtain⟨dg,sd,c,q1,q2,q3,q4,q5,q6⟩:=T;have fin:∀ (pj c':Int) (σ1:St),0<=pj->0<=c'->c'<=m+1->Q (.int (pj%many)) (put σ1 ta (.list [.int (pj / many),.int sd,.int c'])):=by
  intro pj c' σ1 a1 a2 a3;exact hQ _ _ (Int.emod_nonneg _ (by omega)) (Int.emod_lt_of_pos _ h0) ⟨_,_,_,af,Int.ediv_nonneg a1 (by omega),q3,q4,a2,by omega⟩
 refine ao Law.f_law_draw rfl (by decide) rfl ?_;unfold runs Law.f_law_draw;by_cases hz:dg=0
 ·subst hz;have b1:(0:Int)<=sd+70001 * (c+1):=by omega
  have b2:sd+70001 * (c+1) < 1152921504606846976:=by omega
  have b3:-1152921504606846976 < c+1:=by omega
  have b4:c+1 < 1152921504606846976:=by omega
  simp? [q1,b1,b2,b3,b4,h0,h1,Int.toNat_zero,Int.toNat_one,show (2:Int).toNat=2 from rfl];exact fin ((sd+70001 * (c+1)) ^ 3%1000000007) (c+1) σ (Int.emod_nonneg _ (by decide)) (by omega) (by omega)
 ·have yo:(dg==0)=false:=beq_eq_false_iff_ne.mpr hz;simp? [q1,yo,h0,h1,Int.toNat_zero,Int.toNat_one,show (2:Int).toNat=2 from rfl];exact fin dg c σ q2 q5 (by omega)
abbrev mz (kl:Nat):List (Str×AV):=[("Type",nameA "Pages"),("Kids",.ref kl),("Count",.int 3)]
abbrev uM:List (Str×AV):=[("Type",nameA "Page"),("Parent",ai 2)]
theorem ef {pX:St} {wi:List (Int×AV)} {o:Int} (ht:pX tb=some (.dI wi)) (hn:atKey wi o=none) (hl:wi.length<=100) {F:Nat->List AV->M AV} {R:Fl×Frame->St->Prop} {c0 c1 c2 c3 c4 c5 c6 c8:Option AV} {r:Frame}
  (hR:∀ h tT,pX h=none->KX [tb] pX tT->tT tb=some (.dI (wi++[(o,.tup [.int 0,.ref h])]))->tT h=some (.dS uM)->R (.next,c0::c1::c2::c3::c4::c5::c6::some (.ref tb)::some (.int o)::r) tT):
  iy F [8] Law.B_law_0 (.int o) (.next,c0::c1::c2::c3::c4::c5::c6::some (.ref tb)::c8::r) R E pX:=by
 rw[iF];unfold Law.B_law_0;have hl':wi.length<=1000000:=by omega
 tb_start;intro h hh;have A9:tb≠h:=fresh_ne hh ht;simp? [ae A9,ht,hl',aL (v:=.tup [.int 0,.ref h]) hn];refine hR h _ hh (((Ext.refl pX).put hh).kx _ |>.put (.inl (.head _))) af ?_;rw[ae (Ne.symm A9)];exact af
theorem ja (bC:du o1 o2 o3) (T:Tp ta m σ) (hm:m<=400) {ag:Bool} {aG aY aV:Int} (hw:0<=aG/\0<=aY/\0<=aV) {a0:Option AV} (hQ:∀ σ',Q (.bool true) σ'):
  evSs (FF sa sl (n+14)) newM GG jV (a0::some (.ref ta)::some (.bool ag)::some (.int aG)::some (.int aY)::some (.int aV)::some (eE o1 o2 o3)::none::none::none::none::none::uv) (fun x σ=>Q (bj x.1) σ) E σ:=by
 obtain⟨b1,b2,b3⟩:=bC.lo;obtain⟨sT,sU,sV⟩:=bC.ne;unfold jV;tb_start;refine aU (σ:=σ) (ι:=Int) (p:=AV.int) (fun i=>some (ai i)) [o1,o2,o3] (fun _ _=>trivial) (by simp) (fun i mi σ1 x1 K hK=>⟨_,rfl,?_⟩) fun σ1 x1=>?_
 ·unfold cm cf;tb_start;exact hK σ1 (.refl _)
 ·rw[show ([o1,o2,o3].filterMap fun i=>some (ai i))=[ai o1,ai o2,ai o3] from rfl];intro kl lr;have y2:=(Ext.refl σ1).put (o:=.list [ai o1,ai o2,ai o3]) lr;have z2:put σ1 kl (.list [ai o1,ai o2,ai o3]) kl=some (.list [ai o1,ai o2,ai o3]):=af;generalize put σ1 kl (.list [ai o1,ai o2,ai o3])=σ2 at y2 z2 ⊢;intro ph C4;have y3:=(Ext.refl σ2).put (o:=.dS (mz kl)) C4;have z3:put σ2 ph (.dS (mz kl)) ph=some (.dS (mz kl)):=af;generalize put σ2 ph (.dS (mz kl))=σ3 at y3 z3 ⊢;intro e9 wQ;have y4:=(Ext.refl σ3).put (o:=.dS []) wQ;generalize put σ3 e9 (.dS [])=σ4 at y4 ⊢;intro tb sO;have y5:=(Ext.refl σ4).put (o:=.dI [(2,.tup [.int 0,.ref ph]),(9,.tup [.int 0,.inst 2 [.ref e9,.bytes []]])]) sO;have z5:put σ4 tb (.dI [(2,.tup [.int 0,.ref ph]),(9,.tup [.int 0,.inst 2 [.ref e9,.bytes []]])]) tb=some (.dI [(2,.tup [.int 0,.ref ph]),(9,.tup [.int 0,.inst 2 [.ref e9,.bytes []]])]):=af;generalize put σ4 tb (.dI [(2,.tup [.int 0,.ref ph]),(9,.tup [.int 0,.inst 2 [.ref e9,.bytes []]])])=σ5 at y5 z5 ⊢;have T5:Tp ta m σ5:=((((T.ext x1).ext y2).ext y3).ext y4).ext y5;have wj:σ5 kl=some (.list [ai o1,ai o2,ai o3]):=y5 _ _ (y4 _ _ (y3 _ _ z2));have wk:σ5 ph=some (.dS (mz kl)):=y5 _ _ (y4 _ _ z3);obtain⟨dg,sd,c,eta,q⟩:=T5;have zi:kl≠ta:=fun z=>by rw[z,eta] at wj;cases wj
  have zj:ta≠tb:=fun z=>by rw[z,z5] at eta;cases eta
  have wm:kl≠tb:=fun z=>by rw[z,z5] at wj;cases wj
  have wo:ph≠tb:=fun z=>by rw[z,z5] at wk;cases wk
  have zk:ph≠ta:=fun z=>by rw[z,eta] at wk;cases wk
  have kn:∀ {k:Int},k≠2->k≠9->atKey [((2:Int),AV.tup [.int 0,.ref ph]),(9,.tup [.int 0,.inst 2 [.ref e9,.bytes []]])] k=none:=fun h2 h9=>by
   rw[aj,if_neg (Ne.symm h2),aj,if_neg (Ne.symm h9)];rfl
  refine aq trivial ?_;refine ef z5 (o:=o1) (kn (by omega) (by omega)) (by simp) fun h1 gp Dy k6 t6 g6=>?_;refine aq trivial ?_;refine ef t6 (o:=o2) (by rw[aP,kn (by omega) (by omega)];exact if_neg sT) (by simp) fun h2 oK Dz k7 t7 g7=>?_;refine aq trivial ?_;refine ef t7 (o:=o3) (by rw[aP,aP,kn (by omega) (by omega)];simp [sU,sV]) (by simp) fun h3 iu DA k8 t8 g8=>?_;refine⟨trivial,?_⟩;dsimp only;rw[eT,aZ];simp only[List.cons_append,List.nil_append] at t8;have up:∀ a o,a≠tb->σ5 a=some o->iu a=some o:=fun a o h e=>k8 _ _ (by simpa using h) (k7 _ _ (by simpa using h) (k6 _ _ (by simpa using h) e));have uz:h1≠tb:=fun z=>by rw[z,t6] at g6;cases g6
  have wq:h2≠tb:=fun z=>by rw[z,t7] at g7;cases g7
  have zl:h3≠tb:=fun z=>by rw[z,t8] at g8;cases g8
  have wt:=up _ _ zj eta;have Ba:iu h1=some (.dS uM):=k8 _ _ (by simpa using uz) (k7 _ _ (by simpa using uz) g6);have Bb:iu h2=some (.dS uM):=k8 _ _ (by simpa using wq) g7;have uA:∀ {b:Nat} {d:List (Str×AV)},iu b=some (.dS d)->b≠ta:=fun e z=>by rw[z,wt] at e;cases e
  have wu:∀ b o,b≠ta->b≠tb->iu b=some o->(fun b=>if b=ta\/b=tb then none else iu b) b=some o:=fun b o h1 h2 e=>by
   show (if b=ta\/b=tb then none else iu b)=some o;rw[if_neg (by rintro (q | q);exact h1 q;exact h2 q)];exact e
  refine i9 (n:=n) (φ0:=fun b=>if b=ta\/b=tb then none else iu b) bC ⟨⟨dg,sd,c,wt,q⟩,t8,by simp,fun p mp=>?_⟩ (by omega) ⟨[.ref e9,.bytes []],?_⟩ (fun b o e=>?_) ⟨if_pos (.inl rfl),if_pos (.inr rfl)⟩ (fun aJ hc=>?_) hw hQ
  ·simp only[List.mem_cons,List.not_mem_nil,or_false] at mp;rcases mp with rfl | rfl | rfl | rfl | rfl<;>refine⟨?_,?_,?_⟩<;>(simp;try omega)
  ·rw[aj,if_neg (by decide),aj,if_pos rfl]
  ·dsimp only at e;split at e
   ·cases e
   ·exact e
  ·have m2:(2:Int)≠o1/\(2:Int)≠o2/\(2:Int)≠o3/\(9:Int)≠o1/\(9:Int)≠o2/\(9:Int)≠o3:=by omega
   obtain⟨m1,m2,m3,m4,m5,m6⟩:=m2;refine⟨hc,⟨ph,mz kl,kl,⟨?_,wu _ _ zk wo (up _ _ wo wk),by simp,rfl,rfl,rfl,rfl,rfl⟩,rfl,wu _ _ zi wm (up _ _ wm wj)⟩,⟨h1,uM,?_,wu _ _ (uA Ba) uz Ba,by simp,rfl,rfl,rfl,rfl,rfl⟩,⟨h2,uM,?_,wu _ _ (uA Bb) wq Bb,by simp,rfl,rfl,rfl,rfl,rfl⟩,⟨h3,uM,?_,wu _ _ (uA g8) zl g8,by simp,rfl,rfl,rfl,rfl,rfl⟩,sT,sU,sV,m1,m2,m3⟩
   ·rw[aj,if_pos rfl]
   ·rw[aj,if_neg m1,aj,if_neg m4,aj,if_pos rfl]
   ·rw[aj,if_neg m2,aj,if_neg m5,aj,if_neg sT,aj,if_pos rfl]
   ·rw[aj,if_neg m3,aj,if_neg m6,aj,if_neg sU,aj,if_neg sV,aj,if_pos rfl]
theorem qs {args:List AV} (h:tapeM GG sa sl args Q E σ):FF sa sl (n+1) 29 args Q E σ:=by
 show (if 29=29 then tapeM GG sa sl args else _) Q E σ;rw[if_pos rfl];exact h
theorem o9 {l:List Int} (hl:l.length<=63) (hQ:∀ σ',Q (.bool true) σ'):FF sa (l.map .int) (n+15) 45 [.ref sa] Q E σ:=by
 refine ao Law.f_law rfl (by decide) rfl ?_;unfold runs;rw[ux,show Law.f_law.nl - Law.f_law.np=47 from rfl];tb_start;refine qs (n:=n+13) (ml hl fun ta dg sd σ1 x1 _ h1 a1 a2 a3=>?_);have T1:Tp ta 0 σ1:=⟨dg,sd,0,h1,a1,a2,a3,Int.le_refl _,Int.le_refl _⟩;refine bW T1 (by decide) (by decide) (by decide) fun k1 σ2 p1 q1 T2=>?_;simp only[mV];refine bW T2 (by decide) (by decide) (by decide) fun k2 σ3 p2 q2 T3=>?_;refine bW T3 (by decide) (by decide) (by decide) fun k3 σ4 p3 q3 T4=>?_;refine bW T4 (by decide) (by decide) (by decide) fun k4 σ5 p4 q4 T5=>?_;refine bW T5 (by decide) (by decide) (by decide) fun k5 gp p5 q5 T6=>?_;obtain⟨o1,o2,o3,ho,bC⟩:=uy p5 q5;have r5:k5 < 1152921504606846976:=by omega
 simp? [p5,r5,ho];exact ja bC T6 (by decide) ⟨p2,p3,p4⟩ hQ
theorem wx:LawTrue:=fun sa l hl=>o9 (n:=85) hl fun σ'=>rfl
end
end Mine
theorem PySem.Challenge.cw_pq0807_01_holds : PySem.Challenge.rw_pq0807_01.Holds :=
  Mine.joined Mine.wx
