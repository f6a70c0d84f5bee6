import PyProof.Rows.All
import Wide.All
import OpenK.AllK
import Wide.FinOn
import PySem.Challenge.RW_np0337_01
set_option Elab.async false
set_option linter.all false
section
namespace Mine
inductive D where
 |none
 |bool (b:Bool)
 |int (i:Int)
 |str (s:List Nat)
 |tup (ds:List D)
 |lst (ds:List D)
 |loc (l:Nat)
 |opq
inductive AO where
 |list (ds:List D)
 |dict (kvs:List (List Nat×D))
 |inst (c:Nat) (fs:List (Nat×D))
 |tab
abbrev Hp:=List AO
abbrev Ve:=List (Option D)
inductive R (α:Type) where
 |ok (a:α) (h:Hp)
 |ex (c:Nat) (h:Hp)
 |no
def M (α:Type):Type:=Hp→R α
def M.ret {α:Type}(a:α):M α:=fun h=>.ok a h
def M.fail {α:Type}:M α:=fun _=>.no
def M.bind {α β:Type}(x:M α)(f:α→M β):M β:=fun h=>match x h with
 |.ok a h'=>f a h'
 |.ex c h'=>.ex c h'
 |.no=>.no
mutual
def D.plain:D→Bool
 |.tup ds=>D.plainAll ds
 |.lst ds=>D.plainAll ds
 |.loc _=>false
 |.opq=>false
 |.str x=>x.all (fun c=>decide (c < 1114112))
 |_=>true
def D.plainAll:List D→Bool
 |[]=>true
 |d::ds=>D.plain d&&D.plainAll ds
end
mutual
def D.shal:Nat→D→Bool
 |n,.tup ds=>match n with
  |0=>false
  |m+1=>D.shalAll m ds
 |n,.lst ds=>match n with
  |0=>false
  |m+1=>D.shalAll m ds
 |_,_=>true
def D.shalAll:Nat→List D→Bool
 |_,[]=>true
 |n,d::ds=>D.shal n d&&D.shalAll n ds
end
mutual
def D.eqb:D→D→Bool
 |.none,.none=>true
 |.bool a,.bool b=>a==b
 |.bool a,.int j=>(if a then 1 else 0)==j
 |.int i,.bool b=>i==(if b then 1 else 0)
 |.int i,.int j=>i==j
 |.str x,.str y=>x==y
 |.lst xs,.lst ys=>D.eqbAll xs ys
 |.tup xs,.tup ys=>D.eqbAll xs ys
 |_,_=>false
def D.eqbAll:List D→List D→Bool
 |[],[]=>true
 |x::xs,y::ys=>D.eqb x y&&D.eqbAll xs ys
 |_,_=>false
end
inductive Bi where
 |len|str|isBool|max|int|tuple|list|sorted|dict|dictzip|listzip
inductive Bm where
 |append|pop|pop0|extend|get1|get2|dpop2|update|join
inductive Cm where
 |eq|ne|lt|le|gt|ge|isN|isnN|isin|nin
inductive Bo where
 |add|sub|mul|fdiv|mod|pow|addm
inductive Tg where
 |n (i:Nat)
 |p (is:List Nat)
 |q (i:Nat) (is:List Nat)
inductive Hn where
 |cont
 |ret (d:D)
 |stuck
mutual
inductive Ex where
 |lit (d:D)
 |neg (k:Nat)
 |var (i:Nat)
 |tup (es:Exs)
 |vlist (es:Exs)
 |mlist (es:Exs)
 |mdict (ks:List (List Nat)) (es:Exs)
 |item (e i:Ex)
 |lpick (es:Exs) (i:Ex)
 |rev (e:Ex)
 |attr (e:Ex) (a:Nat)
 |call (f:Nat) (es:Exs)
 |fresh (f:Nat) (es:Exs)
 |meth (a:Nat) (e:Ex) (es:Exs)
 |new (c:Nat) (es:Exs)
 |bi (b:Bi) (es:Exs)
 |bm (b:Bm) (e:Ex) (es:Exs)
 |andor (isAnd:Bool) (es:Exs)
 |not (e:Ex)
 |cmp (op:Cm) (a b:Ex)
 |bin (op:Bo) (a b:Ex)
 |ite (c a b:Ex)
 |comp (elt:Ex) (t:Tg) (it:Ex)
 |compc (elt:Ex) (t:Tg) (it c:Ex)
 |compz (elt:Ex) (i j:Nat) (a b:Ex)
 |stuck
inductive Exs where
 |nil
 |cons (e:Ex) (es:Exs)
end
mutual
inductive St where
 |asn (t:Tg) (e:Ex)
 |sattr (o:Ex) (a:Nat) (e:Ex)
 |sitem (o i e:Ex)
 |ex (e:Ex)
 |iff (c:Ex) (a b:Sts)
 |whl (c:Ex) (b:Sts)
 |for (t:Tg) (e:Ex) (b:Sts)
 |ret (e:Ex)
 |raise (c:Nat) (es:Exs)
 |try (b:Sts) (c:Nat) (h:Hn)
 |cont
 |deff (i:Nat)
 |stuck
inductive Sts where
 |nil
 |cons (s:St) (ss:Sts)
end
inductive Fl where
 |nx
 |ct
 |rt (d:D)
inductive RS where
 |ok (f:Fl) (ρ:Ve) (h:Hp)
 |ex (c:Nat) (ρ:Ve) (h:Hp)
 |no
def find:List (List Nat×D)→List Nat→Option D
 |[],_=>none
 |(k,v)::r,x=>if k=x then some v else find r x
def putK:List (List Nat×D)→List Nat→D→List (List Nat×D)
 |[],x,d=>[(x,d)]
 |(k,v)::r,x,d=>if k=x then (k,d)::r else (k,v)::putK r x d
def dropK:List (List Nat×D)→List Nat→List (List Nat×D)
 |[],_=>[]
 |(k,v)::r,x=>if k=x then r else (k,v)::dropK r x
def putAll:List (List Nat×D)→List (List Nat×D)→List (List Nat×D)
 |a,[]=>a
 |a,(k,v)::r=>putAll (putK a k v) r
def fget:List (Nat×D)→Nat→Option D
 |[],_=>none
 |(k,v)::r,x=>if k=x then some v else fget r x
def fput:List (Nat×D)→Nat→D→List (Nat×D)
 |[],x,d=>[(x,d)]
 |(k,v)::r,x,d=>if k=x then (k,d)::r else (k,v)::fput r x d
def nget:List (Nat×Nat)→Nat→Option Nat
 |[],_=>none
 |(k,v)::r,x=>if k=x then some v else nget r x
def ltS:List Nat→List Nat→Bool
 |[],[]=>false
 |[],_::_=>true
 |_::_,[]=>false
 |a::r,b::t=>if a < b then true else if a=b then ltS r t else false
def insS (x:List Nat):List (List Nat)→List (List Nat)
 |[]=>[x]
 |y::r=>if ltS y x then y::insS x r else x::y::r
def sortS:List (List Nat)→List (List Nat)
 |[]=>[]
 |x::r=>insS x (sortS r)
def joinS (sep:List Nat):List (List Nat)→List Nat
 |[]=>[]
 |[x]=>x
 |x::r=>x++sep++joinS sep r
def strsOf:List D→Option (List (List Nat))
 |[]=>some []
 |.str x::r=>(strsOf r).map (x::·)
 |_=>none
def pairsOf:List D→Option (List (List Nat×D))
 |[]=>some []
 |.tup [.str k,v]::r=>(pairsOf r).map ((k,v)::·)
 |_=>none
def zipD:List D→List D→List D
 |a::r,b::t=>.tup [a,b]::zipD r t
 |_,_=>[]
def strI (i:Int):List Nat:=(PySem.Str.ofString (toString i)).cps.toList
def most:Nat:=100000
def cat (a b:List Nat):M D:=fun h=>if a.length+b.length≤most then .ok (.str (a++b)) h else .no
def idx (ds:List D)(i:Int):Option D:=if ds.length≤most then (if 0≤i then ds[i.toNat]? else if -i≤ds.length then ds[(ds.length+i).toNat]? else none) else none
def setAll:List Nat→List D→Ve→Option Ve
 |[],[],ρ=>some ρ
 |i::is,d::ds,ρ=>setAll is ds (ρ.set i (some d))
 |_,_,_=>none
def items:D→Option (List D)
 |.tup ds=>some ds
 |.lst ds=>some ds
 |_=>none
def Tg.set:Tg→D→Ve→Option Ve
 |.n i,d,ρ=>some (ρ.set i (some d))
 |.p is,d,ρ=>match d with
  |.tup ds=>setAll is ds ρ
  |_=>none
 |.q i is,d,ρ=>match d with
  |.tup [x,.tup ds]=>setAll is ds (ρ.set i (some x))
  |_=>none
def itemsAt (h:Hp):D→Option (List D)
 |.tup ds=>some ds
 |.lst ds=>some ds
 |.loc l=>match h[l]? with
  |some (.list ds)=>some ds
  |_=>none
 |_=>none
def itemOf (a i:D):M D:=fun h=>match a,i with
 |.tup ds,.int k=>match idx ds k with
  |some d=>.ok d h
  |none=>.no
 |.lst ds,.int k=>match idx ds k with
  |some d=>.ok d h
  |none=>.no
 |.loc l,.int k=>match h[l]? with
  |some (.list ds)=>match idx ds k with
   |some d=>.ok d h
   |none=>.no
  |_=>.no
 |.loc l,.str x=>match h[l]? with
  |some (.dict kvs)=>match find kvs x with
   |some d=>.ok d h
   |none=>.no
  |_=>.no
 |_,_=>.no
def attrOf (a:Nat)(d:D):M D:=fun h=>match d with
 |.loc l=>match h[l]? with
  |some (.inst _ fs)=>match fget fs a with
   |some v=>.ok v h
   |none=>.no
  |_=>.no
 |_=>.no
def alloc (o:AO):M D:=fun h=>.ok (.loc h.length) (h++[o])
def anyEq (d:D):List D→Bool
 |[]=>false
 |e::r=>D.eqb e d||anyEq d r
def okEq (x y:D):Bool:=D.plain x&&D.plain y&&(D.shal 60 y||D.shal 60 x)
def okIn (a:D)(ds:List D):Bool:=D.plain a&&D.plainAll ds&&(D.shal 60 a||D.shalAll 60 ds)
def opnd (h:Hp):D→Option D
 |.loc l=>match h[l]? with
  |some (.list ds)=>some (.lst ds)
  |_=>none
 |d=>some d
def cmpD (op:Cm)(a b:D):M D:=fun h=>match op with
 |.eq=>match opnd h a,opnd h b with
  |some x,some y=>if okEq x y then .ok (.bool (D.eqb x y)) h else .no
  |_,_=>.no
 |.ne=>match opnd h a,opnd h b with
  |some x,some y=>if okEq x y then .ok (.bool (!D.eqb x y)) h else .no
  |_,_=>.no
 |.lt=>match a,b with
  |.int x,.int y=>.ok (.bool (decide (x < y))) h
  |_,_=>.no
 |.le=>match a,b with
  |.int x,.int y=>.ok (.bool (decide (x≤y))) h
  |_,_=>.no
 |.gt=>match a,b with
  |.int x,.int y=>.ok (.bool (decide (y < x))) h
  |_,_=>.no
 |.ge=>match a,b with
  |.int x,.int y=>.ok (.bool (decide (y≤x))) h
  |_,_=>.no
 |.isN=>match a with
  |.none=>.ok (.bool true) h
  |.opq=>.no
  |_=>.ok (.bool false) h
 |.isnN=>match a with
  |.none=>.ok (.bool false) h
  |.opq=>.no
  |_=>.ok (.bool true) h
 |.isin=>match b with
  |.tup ds=>if okIn a ds then .ok (.bool (anyEq a ds)) h else .no
  |.lst ds=>if okIn a ds then .ok (.bool (anyEq a ds)) h else .no
  |.loc l=>match h[l]?,a with
   |some (.dict kvs),.str x=>.ok (.bool (find kvs x).isSome) h
   |_,_=>.no
  |_=>.no
 |.nin=>match b with
  |.tup ds=>if okIn a ds then .ok (.bool (!anyEq a ds)) h else .no
  |.lst ds=>if okIn a ds then .ok (.bool (!anyEq a ds)) h else .no
  |.loc l=>match h[l]?,a with
   |some (.dict kvs),.str x=>.ok (.bool (!(find kvs x).isSome)) h
   |_,_=>.no
  |_=>.no
def lsAt (h:Hp):D→Option (List D)
 |.tup _=>none
 |d=>itemsAt h d
def binD (op:Bo)(a b:D):M D:=fun h=>match op,a,b with
 |.add,.int x,.int y=>.ok (.int (x+y)) h
 |.sub,.int x,.int y=>.ok (.int (x - y)) h
 |.mul,.int x,.int y=>if y.natAbs < 4294967296 then .ok (.int (x * y)) h else .no
 |.fdiv,.int x,.int y=>if y≤0∨1000000 < y then .no else .ok (.int (Int.fdiv x y)) h
 |.mod,.int x,.int y=>if y=0 then .no else .ok (.int (Int.fmod x y)) h
 |.pow,.int x,.int y=>if x=10∧y=18 then .ok (.int 1000000000000000000) h else .no
 |.add,.str x,.str y=>cat x y h
 |.add,.tup x,.tup y=>if x.length+y.length≤most∧0 < x.length∧0 < y.length then .ok (.tup (x++y)) h else .no
 |.add,x,y=>match lsAt h x,lsAt h y with
  |some ds,some es=>if ds.length+es.length≤most then .ok (.lst (ds++es)) h else .no
  |_,_=>.no
 |.addm,x,y=>match lsAt h x,lsAt h y with
  |some ds,some es=>if ds.length+es.length≤most then alloc (.list (ds++es)) h else .no
  |_,_=>.no
 |.mul,.tup x,.int y=>if y=0∧0 < x.length then .ok (.tup []) h else .no
 |_,_,_=>.no
def dictAt (h:Hp):D→Option (List (List Nat×D))
 |.loc l=>match h[l]? with
  |some (.dict kvs)=>some kvs
  |_=>none
 |_=>none
def biD (b:Bi)(as:List D):M D:=fun h=>match b,as with
 |.len,[d]=>match itemsAt h d with
  |some ds=>if ds.length≤most then .ok (.int ds.length) h else .no
  |none=>.no
 |.str,[.int i]=>if 0≤i∧i < 1000 then .ok (.str (strI i)) h else .no
 |.isBool,[.bool _]=>.ok (.bool true) h
 |.isBool,[.int _]=>.ok (.bool false) h
 |.max,[.int a,.int c]=>.ok (.int (if a < c then c else a)) h
 |.int,[.bool c]=>.ok (.int (if c then 1 else 0)) h
 |.tuple,[d]=>match itemsAt h d with
  |some ds=>if ds.length≤most then .ok (.tup ds) h else .no
  |none=>.no
 |.list,[d]=>match itemsAt h d with
  |some ds=>if ds.length≤most then .ok (.lst ds) h else .no
  |none=>.no
 |.sorted,[d]=>match dictAt h d with
  |some kvs=>if kvs.length < 60 then .ok (.lst ((sortS (kvs.map (·.1))).map D.str)) h else .no
  |none=>.no
 |.dict,[d]=>match dictAt h d with
  |some kvs=>if kvs.length≤most then alloc (.dict kvs) h else .no
  |none=>.no
 |.dictzip,[a,c]=>match items a,items c with
  |some xs,some ys=>match pairsOf (zipD xs ys) with
   |some kvs=>if kvs.length≤most then alloc (.dict (putAll [] kvs)) h else .no
   |none=>.no
  |_,_=>.no
 |.listzip,[a,c]=>match items a,items c with
  |some xs,some ys=>if xs.length≤most∧ys.length≤most then .ok (.lst (zipD xs ys)) h else .no
  |_,_=>.no
 |_,_=>.no
inductive Kd where
 |list|dict|str
def bmK:Bm→Kd
 |.append=>.list|.pop=>.list|.pop0=>.list|.extend=>.list|.get1=>.dict|.get2=>.dict|.dpop2=>.dict|.update=>.dict|.join=>.str
def isK (h:Hp)(o:D)(k:Kd):Bool:=match k,o with
 |.list,.loc l=>match h[l]? with
  |some (.list _)=>true
  |_=>false
 |.dict,.loc l=>match h[l]? with
  |some (.dict _)=>true
  |_=>false
 |.str,.str _=>true
 |_,_=>false
def lastInit:List D→Option (List D×D)
 |[]=>none
 |[x]=>some ([],x)
 |x::r=>match lastInit r with
  |some (i,l)=>some (x::i,l)
  |none=>none
def bmD (b:Bm)(o:D)(as:List D):M D:=fun h=>match b,o,as with
 |.append,.loc l,[x]=>match h[l]? with
  |some (.list ds)=>if ds.length≤most then .ok .none (h.set l (.list (ds++[x]))) else .no
  |_=>.no
 |.pop,.loc l,[]=>match h[l]? with
  |some (.list ds)=>match lastInit ds with
   |some (i,x)=>if ds.length≤most then .ok x (h.set l (.list i)) else .no
   |none=>.no
  |_=>.no
 |.pop0,.loc l,[.int 0]=>match h[l]? with
  |some (.list (x::r))=>if r.length≤most then .ok x (h.set l (.list r)) else .no
  |_=>.no
 |.extend,.loc l,[x]=>match h[l]?,items x with
  |some (.list ds),some es=>if ds.length+es.length≤most then .ok .none (h.set l (.list (ds++es))) else .no
  |_,_=>.no
 |.get1,.loc l,[.str x]=>match h[l]? with
  |some (.dict kvs)=>.ok ((find kvs x).getD .none) h
  |_=>.no
 |.get2,.loc l,[.str x,d]=>match h[l]? with
  |some (.dict kvs)=>.ok ((find kvs x).getD d) h
  |_=>.no
 |.dpop2,.loc l,[.str x,d]=>match h[l]? with
  |some (.dict kvs)=>match find kvs x with
   |some v=>if kvs.length≤most then .ok v (h.set l (.dict (dropK kvs x))) else .no
   |none=>.ok d h
  |_=>.no
 |.update,.loc l,[.loc l']=>if l=l' then .no else match h[l]?,h[l']? with
  |some (.dict kvs),some (.dict more)=>if kvs.length+more.length≤most then .ok .none (h.set l (.dict (putAll kvs more))) else .no
  |_,_=>.no
 |.join,.str sep,[.tup ds]=>match strsOf ds with
  |some ss=>if (ss.map List.length).sum+ss.length * sep.length≤most then .ok (.str (joinS sep ss)) h else .no
  |none=>.no
 |_,_,_=>.no
def storeAttr (o:D)(a:Nat)(v:D)(h:Hp):Option Hp:=match o with
 |.loc l=>match h[l]? with
  |some (.inst c fs)=>if fs.length < 900 then some (h.set l (.inst c (fput fs a v))) else none
  |_=>none
 |_=>none
def storeItem (o i v:D)(h:Hp):Option Hp:=match o,i with
 |.loc l,.int k=>match h[l]? with
  |some (.list ds)=>if 0≤k∧k.toNat < ds.length∧ds.length≤most then some (h.set l (.list (ds.set k.toNat v))) else none
  |_=>none
 |.loc l,.str x=>match h[l]? with
  |some (.dict kvs)=>if kvs.length≤most then some (h.set l (.dict (putK kvs x v))) else none
  |_=>none
 |_,_=>none
def freeze (h:Hp):D→Option D
 |.loc l=>match h[l]? with
  |some (.list ds)=>if D.plainAll ds then some (.lst ds) else none
  |_=>none
 |d=>if D.plain d then some d else none
def isTab (h:Hp):Bool:=match h[(0:Nat)]? with
 |some .tab=>true
 |_=>false
def thaw (h:Hp)(r:R D):R D:=if isTab h then match r with
  |.ok d h'=>if isTab h' then match freeze h' d with
   |some d'=>.ok d' h
   |none=>.no
   else .no
  |.ex _ _=>.no
  |.no=>.no
 else .no
structure ClsI where
 addr:Nat
 init:Nat
 meths:List (Nat×Nat)
 isExc:Bool:=false
structure FnI where
 addr:Nat
 np:Nat
 dfl:List D
 nv:Nat
 body:Sts
structure Tab where
 cls:List ClsI
 fns:List FnI
def classOf (h:Hp):D→Option Nat
 |.loc l=>match h[l]? with
  |some (.inst c _)=>some c
  |_=>none
 |_=>none
def methOf (CT:List ClsI)(h:Hp)(o:D)(a:Nat):Option Nat:=match classOf h o with
 |some c=>match CT[c]? with
  |some ci=>nget ci.meths a
  |none=>none
 |none=>none
section
variable (CT:List ClsI)(cf:Nat→List D→M D)
def compLc (step cond:Ve→M D)(t:Tg)(ρ:Ve):List D→M (List D)
 |[]=>M.ret []
 |d::ds=>match t.set d ρ with
  |none=>M.fail
  |some ρ'=>(cond ρ').bind fun c=>match c with
   |.bool true=>(step ρ').bind fun x=>(compLc step cond t ρ ds).bind fun xs=>M.ret (x::xs)
   |.bool false=>compLc step cond t ρ ds
   |_=>M.fail
def compL (step:Ve→M D)(t:Tg)(ρ:Ve)(ds:List D):M (List D):=compLc step (fun _=>M.ret (.bool true)) t ρ ds
def compAt (step:Ve→M D)(t:Tg)(ρ:Ve)(l:Nat):Nat→Nat→M (List D)
 |0,_=>M.fail
 |n+1,i=>fun h=>match h[l]? with
  |some (.list ds)=>match ds[i]? with
   |none=>.ok [] h
   |some d=>match t.set d ρ with
    |none=>.no
    |some ρ'=>((step ρ').bind fun x=>(compAt step t ρ l n (i+1)).bind fun xs=>M.ret (x::xs)) h
  |_=>.no
mutual
def evE:Ex→Ve→M D
 |.lit d,_=>M.ret d
 |.neg k,_=>M.ret (.int (-(k:Int)))
 |.var i,ρ=>match ρ[i]? with
  |some (some d)=>M.ret d
  |_=>M.fail
 |.tup es,ρ=>(evEs es ρ).bind fun ds=>M.ret (.tup ds)
 |.vlist es,ρ=>(evEs es ρ).bind fun ds=>M.ret (.lst ds)
 |.mlist es,ρ=>(evEs es ρ).bind fun ds=>alloc (.list ds)
 |.mdict ks es,ρ=>(evEs es ρ).bind fun ds=>if ks.length=ds.length then alloc (.dict (putAll [] (ks.zip ds))) else M.fail
 |.item e i,ρ=>(evE e ρ).bind fun a=>(evE i ρ).bind fun k=>itemOf a k
 |.lpick es i,ρ=>(evEs es ρ).bind fun ds=>(evE i ρ).bind fun k=>itemOf (.lst ds) k
 |.rev e,ρ=>(evE e ρ).bind fun a=>match a with
  |.lst ds=>if ds.length≤most then M.ret (.lst ds.reverse) else M.fail
  |_=>M.fail
 |.attr e a,ρ=>(evE e ρ).bind (attrOf a)
 |.call f es,ρ=>(evEs es ρ).bind fun ds=>cf f ds
 |.fresh f es,ρ=>(evEs es ρ).bind fun ds=>if D.plainAll ds then fun h=>thaw h (cf f ds [.tab]) else M.fail
 |.meth a e es,ρ=>(evE e ρ).bind fun o=>fun h=>match methOf CT h o a with
  |some f=>((evEs es ρ).bind fun ds=>cf f (o::ds)) h
  |none=>.no
 |.new c es,ρ=>(evEs es ρ).bind fun ds=>match CT[c]? with
  |some ci=>if ci.isExc then M.fail else (alloc (.inst c [])).bind fun o=>(cf ci.init (o::ds)).bind fun r=>match r with
   |.none=>M.ret o
   |_=>M.fail
  |none=>M.fail
 |.bi b es,ρ=>(evEs es ρ).bind (biD b)
 |.bm b e es,ρ=>(evE e ρ).bind fun o=>fun h=>if isK h o (bmK b) then ((evEs es ρ).bind (bmD b o)) h else .no
 |.andor a es,ρ=>evAO a es ρ
 |.not e,ρ=>(evE e ρ).bind fun d=>match d with
  |.bool b=>M.ret (.bool !b)
  |_=>M.fail
 |.cmp op a b,ρ=>(evE a ρ).bind fun x=>(evE b ρ).bind fun y=>cmpD op x y
 |.bin op a b,ρ=>(evE a ρ).bind fun x=>(evE b ρ).bind fun y=>binD op x y
 |.ite c a b,ρ=>(evE c ρ).bind fun d=>match d with
  |.bool true=>evE a ρ
  |.bool false=>evE b ρ
  |_=>M.fail
 |.comp elt t it,ρ=>(evE it ρ).bind fun d=>match d with
  |.tup ds=>if ds.length≤most then (compL (evE elt) t ρ ds).bind fun xs=>M.ret (.lst xs) else M.fail
  |.lst ds=>if ds.length≤most then (compL (evE elt) t ρ ds).bind fun xs=>M.ret (.lst xs) else M.fail
  |.loc l=>fun h=>match h[l]? with
   |some (.list ds)=>if ds.length≤most then ((compAt (evE elt) t ρ l (ds.length+1) 0).bind fun xs=>M.ret (.lst xs)) h else .no
   |_=>.no
  |_=>M.fail
 |.compc elt t it c,ρ=>(evE it ρ).bind fun d=>match items d with
  |some ds=>if ds.length≤most then (compLc (evE elt) (evE c) t ρ ds).bind fun xs=>M.ret (.lst xs) else M.fail
  |none=>M.fail
 |.compz elt i j a b,ρ=>(evE a ρ).bind fun x=>(evE b ρ).bind fun y=>match items x,items y with
  |some xs,some ys=>if xs.length≤most∧ys.length≤most then (compL (evE elt) (.p [i,j]) ρ (zipD xs ys)).bind fun zs=>M.ret (.lst zs) else M.fail
  |_,_=>M.fail
 |.stuck,_=>M.fail
def evEs:Exs→Ve→M (List D)
 |.nil,_=>M.ret []
 |.cons e es,ρ=>(evE e ρ).bind fun d=>(evEs es ρ).bind fun ds=>M.ret (d::ds)
def evAO (a:Bool):Exs→Ve→M D
 |.nil,_=>M.fail
 |.cons e .nil,ρ=>evE e ρ
 |.cons e es,ρ=>(evE e ρ).bind fun d=>match d with
  |.bool b=>if b=a then evAO a es ρ else M.ret d
  |_=>M.fail
end
def whileF (c:Ve→M D)(b:Ve→Hp→RS):Nat→Ve→Hp→RS
 |0,_,_=>.no
 |k+1,ρ,h=>match c ρ h with
  |.ok d h1=>match d with
   |.bool true=>match b ρ h1 with
    |.ok f ρ' h2=>match f with
     |.nx=>whileF c b k ρ' h2
     |.ct=>whileF c b k ρ' h2
     |.rt d=>.ok (.rt d) ρ' h2
    |.ex c ρ' h2=>.ex c ρ' h2
    |.no=>.no
   |.bool false=>.ok .nx ρ h1
   |_=>.no
  |.ex c h1=>.ex c ρ h1
  |.no=>.no
def forF (t:Tg)(b:Ve→Hp→RS):List D→Ve→Hp→RS
 |[],ρ,h=>.ok .nx ρ h
 |d::ds,ρ,h=>match t.set d ρ with
  |none=>.no
  |some ρ1=>match b ρ1 h with
   |.ok f ρ' h2=>match f with
    |.nx=>forF t b ds ρ' h2
    |.ct=>forF t b ds ρ' h2
    |.rt d=>.ok (.rt d) ρ' h2
   |.ex c ρ' h2=>.ex c ρ' h2
   |.no=>.no
def turns:Nat:=100
def under (c k:Nat):Bool:=c==k||k==0
def withD (x:R D)(ρ:Ve)(f:D→Hp→RS):RS:=match x with
 |.ok d h=>f d h
 |.ex c h=>.ex c ρ h
 |.no=>.no
mutual
def evS:St→Ve→Hp→RS
 |.asn t e,ρ,h=>withD (evE CT cf e ρ h) ρ fun d h1=>match t.set d ρ with
  |some ρ'=>.ok .nx ρ' h1
  |none=>.no
 |.sattr o a e,ρ,h=>withD (evE CT cf e ρ h) ρ fun v h1=>withD (evE CT cf o ρ h1) ρ fun x h2=>match storeAttr x a v h2 with
  |some h3=>.ok .nx ρ h3
  |none=>.no
 |.sitem o i e,ρ,h=>withD (evE CT cf e ρ h) ρ fun v h1=>withD (evE CT cf o ρ h1) ρ fun x h2=>withD (evE CT cf i ρ h2) ρ fun k h3=>match storeItem x k v h3 with
  |some h4=>.ok .nx ρ h4
  |none=>.no
 |.ex e,ρ,h=>withD (evE CT cf e ρ h) ρ fun _ h1=>.ok .nx ρ h1
 |.iff c a b,ρ,h=>withD (evE CT cf c ρ h) ρ fun d h1=>match d with
  |.bool true=>evSs a ρ h1
  |.bool false=>evSs b ρ h1
  |_=>.no
 |.whl c b,ρ,h=>whileF (evE CT cf c) (evSs b) turns ρ h
 |.for t e b,ρ,h=>withD (evE CT cf e ρ h) ρ fun d h1=>match items d with
  |some ds=>if ds.length≤most then forF t (evSs b) ds ρ h1 else .no
  |none=>.no
 |.ret e,ρ,h=>withD (evE CT cf e ρ h) ρ fun d h1=>.ok (.rt d) ρ h1
 |.raise c es,ρ,h=>match evEs CT cf es ρ h with
  |.ok ds h1=>match ds with
   |[_,_]=>.ex c ρ h1
   |_=>.no
  |.ex c' h1=>.ex c' ρ h1
  |.no=>.no
 |.try b k hn,ρ,h=>match evSs b ρ h with
  |.ok f ρ' h1=>.ok f ρ' h1
  |.ex c ρ' h1=>if under c k then match hn with
    |.cont=>.ok .ct ρ' h1
    |.ret d=>.ok (.rt d) ρ' h1
    |.stuck=>.no
   else .no
  |.no=>.no
 |.cont,ρ,h=>.ok .ct ρ h
 |.deff i,ρ,h=>match h[(0:Nat)]? with
  |some .tab=>.ok .nx (ρ.set i (some .opq)) h
  |_=>.no
 |.stuck,_,_=>.no
def evSs:Sts→Ve→Hp→RS
 |.nil,ρ,h=>.ok .nx ρ h
 |.cons s ss,ρ,h=>match evS s ρ h with
  |.ok f ρ' h1=>match f with
   |.nx=>evSs ss ρ' h1
   |.ct=>.ok .ct ρ' h1
   |.rt d=>.ok (.rt d) ρ' h1
  |.ex c ρ' h1=>.ex c ρ' h1
  |.no=>.no
end
end
def bindA (fi:FnI)(as:List D):Option Ve :=
 if as.length≤fi.np∧fi.np≤as.length+fi.dfl.length∧fi.np≤fi.nv then
  some (((as++fi.dfl.drop (as.length+fi.dfl.length - fi.np)).map some)++List.replicate (fi.nv - fi.np) none) else none
def runF (T:Tab)(cf:Nat→List D→M D)(fi:FnI)(as:List D):M D:=fun h=>match bindA fi as with
 |none=>.no
 |some ρ=>match evSs T.cls cf fi.body ρ h with
  |.ok f _ h'=>match f with
   |.rt d=>.ok d h'
   |.nx=>.ok .none h'
   |.ct=>.no
  |.ex c _ h'=>.ex c h'
  |.no=>.no
def callF (T:Tab):Nat→Nat→List D→M D
 |0,_,_=>M.fail
 |n+1,f,as=>match T.fns[f]? with
  |some fi=>runF T (callF T n) fi as
  |none=>M.fail
end Mine
end
section
set_option maxRecDepth 100000
namespace Mine
def Z0:FnI:={ addr:=99,np:=1,dfl:=[],nv:=2,body :=
 (.cons (.asn (.n 1) (.item (.var 0) (.lit (.int 0))))
 (.cons (.iff (.cmp .eq (.var 1) (.lit (.str [114,101,102]))) (.cons (.ret (.tup (.cons (.item (.var 0) (.lit (.int 3))) .nil))) .nil) .nil)
 (.cons (.iff (.andor false (.cons (.cmp .eq (.var 1) (.lit (.str [98,111,120]))) (.cons (.cmp .eq (.var 1) (.lit (.str [97,114,114,97,121]))) .nil))) (.cons .stuck .nil) .nil)
 (.cons (.iff (.cmp .eq (.var 1) (.lit (.str [116,117,112,108,101]))) (.cons (.ret (.item (.var 0) (.lit (.int 1)))) .nil) .nil)
 (.cons (.ret (.ite (.cmp .eq (.var 1) (.lit (.str [97,100,116]))) (.item (.var 0) (.lit (.int 3))) (.tup .nil))) .nil))))) }
def Z1:FnI:={ addr:=106,np:=2,dfl:=[],nv:=3,body :=
 (.cons (.asn (.n 2) (.item (.var 0) (.lit (.int 0))))
 (.cons (.iff (.cmp .eq (.var 2) (.lit (.str [114,101,102]))) (.cons (.ret (.tup (.cons (.lit (.str [114,101,102])) (.cons (.item (.var 0) (.lit (.int 1))) (.cons (.item (.var 0) (.lit (.int 2))) (.cons (.item (.var 1) (.lit (.int 0))) .nil)))))) .nil) .nil)
 (.cons (.iff (.cmp .eq (.var 2) (.lit (.str [98,111,120]))) (.cons .stuck .nil) .nil)
 (.cons (.iff (.cmp .eq (.var 2) (.lit (.str [97,114,114,97,121]))) (.cons .stuck .nil) .nil)
 (.cons (.iff (.cmp .eq (.var 2) (.lit (.str [116,117,112,108,101]))) (.cons (.ret (.tup (.cons (.lit (.str [116,117,112,108,101])) (.cons (.bi .tuple (.cons (.var 1) .nil)) .nil)))) .nil) .nil)
 (.cons (.ret (.ite (.cmp .eq (.var 2) (.lit (.str [97,100,116]))) (.tup (.cons (.lit (.str [97,100,116])) (.cons (.item (.var 0) (.lit (.int 1))) (.cons (.item (.var 0) (.lit (.int 2))) (.cons (.bi .tuple (.cons (.var 1) .nil)) .nil))))) (.var 0))) .nil)))))) }
def Z2:FnI:={ addr:=111,np:=2,dfl:=[],nv:=3,body :=
 (.cons (.iff (.cmp .eq (.item (.var 0) (.lit (.int 0))) (.lit (.str [112,97,114,97,109]))) (.cons (.ret (.bm .get2 (.var 1) (.cons (.item (.var 0) (.lit (.int 1))) (.cons (.var 0) .nil)))) .nil) .nil)
 (.cons (.ret (.call 1 (.cons (.var 0) (.cons (.comp (.call 2 (.cons (.var 2) (.cons (.var 1) .nil))) (.n 2) (.call 0 (.cons (.var 0) .nil))) .nil)))) .nil)) }
def Z3:FnI:={ addr:=116,np:=2,dfl:=[],nv:=3,body :=
 (.cons (.iff (.cmp .eq (.item (.var 0) (.lit (.int 0))) (.lit (.str [114,101,102]))) (.cons .stuck .nil) (.cons (.iff (.cmp .eq (.item (.var 0) (.lit (.int 0))) (.lit (.str [97,100,116]))) (.cons .stuck .nil) .nil) .nil))
 (.cons (.ret (.call 1 (.cons (.var 0) (.cons (.comp (.call 3 (.cons (.var 2) (.cons (.var 1) .nil))) (.n 2) (.call 0 (.cons (.var 0) .nil))) .nil)))) .nil)) }
def Z4:FnI:={ addr:=130,np:=1,dfl:=[],nv:=1,body :=
 (.cons (.ret (.call 3 (.cons (.var 0) (.cons (.lit .opq) .nil)))) .nil) }
def Z5:FnI:={ addr:=149,np:=3,dfl:=[],nv:=3,body :=
 (.cons (.ret (.item (.item (.attr (.item (.attr (.var 2) 0) (.item (.var 0) (.lit (.int 1)))) 1) (.var 1)) (.lit (.int 2)))) .nil) }
def Z6:FnI:={ addr:=154,np:=3,dfl:=[],nv:=9,body :=
 (.cons (.iff (.cmp .eq (.item (.var 0) (.lit (.int 0))) (.lit (.str [116,117,112,108,101]))) (.cons .stuck .nil) .nil)
 (.cons (.iff (.cmp .ne (.item (.var 0) (.lit (.int 0))) (.lit (.str [97,100,116]))) (.cons .stuck .nil) .nil)
 (.cons (.asn (.n 3) (.item (.attr (.var 2) 0) (.item (.var 0) (.lit (.int 1)))))
 (.cons (.asn (.n 4) (.bi .dictzip (.cons (.attr (.var 3) 2) (.cons (.item (.var 0) (.lit (.int 3))) .nil))))
 (.cons (.asn (.n 5) (.bi .dictzip (.cons (.attr (.var 3) 3) (.cons (.item (.var 0) (.lit (.int 2))) .nil))))
 (.cons (.deff 6)
 (.cons (.ret (.comp (.tup (.cons (.var 7) (.cons (.call 2 (.cons (.call 3 (.cons (.var 8) (.cons (.var 6) .nil))) (.cons (.var 4) .nil))) .nil))) (.p [7,8]) (.call 5 (.cons (.var 0) (.cons (.var 1) (.cons (.var 2) .nil)))))) .nil))))))) }
def Z7:FnI:={ addr:=168,np:=2,dfl:=[],nv:=2,body :=
 (.cons (.sattr (.var 0) 4 (.var 1))
 (.cons (.sattr (.var 0) 5 (.mdict [] .nil))
 (.cons (.sattr (.var 0) 6 (.mdict [] .nil)) .nil))) }
def Z8:FnI:={ addr:=175,np:=3,dfl:=[],nv:=3,body :=
 (.cons (.raise 4 (.cons (.var 1) (.cons (.var 2) .nil))) .nil) }
def Z9:FnI:={ addr:=182,np:=4,dfl:=[],nv:=7,body :=
 (.cons (.asn (.p [4,5]) (.tup (.cons (.item (.var 1) (.lit (.int 0))) (.cons (.item (.var 1) (.lit (.int 1))) .nil))))
 (.cons (.iff (.cmp .eq (.var 4) (.lit (.str [119,105,108,100]))) (.cons (.ret (.tup (.cons (.lit (.str [119,105,108,100])) (.cons (.var 2) .nil)))) .nil) .nil)
 (.cons (.iff (.cmp .eq (.var 4) (.lit (.str [110,97,109,101]))) (.cons (.ret (.meth 7 (.var 0) (.cons (.var 1) (.cons (.var 2) (.cons (.var 3) .nil))))) .nil) .nil)
 (.cons (.iff (.cmp .eq (.var 4) (.lit (.str [111,114]))) (.cons (.ret (.meth 8 (.var 0) (.cons (.var 1) (.cons (.var 2) (.cons (.var 3) .nil))))) .nil) .nil)
 (.cons (.iff (.cmp .eq (.var 4) (.lit (.str [114,101,102]))) (.cons (.ret (.meth 9 (.var 0) (.cons (.var 1) (.cons (.var 2) .nil)))) .nil) .nil)
 (.cons (.asn (.n 6) (.meth 10 (.attr (.var 0) 4) (.cons (.var 2) .nil)))
 (.cons (.iff (.cmp .eq (.item (.var 6) (.lit (.int 0))) (.lit (.str [114,101,102]))) (.cons (.ret (.tup (.cons (.lit (.str [100,101,114,101,102])) (.cons (.var 6) (.cons (.meth 11 (.var 0) (.cons (.var 1) (.cons (.item (.var 6) (.lit (.int 3))) (.cons (.call 24 (.cons (.var 3) (.cons (.item (.var 6) (.lit (.int 2))) .nil))) .nil)))) .nil))))) .nil) .nil)
 (.cons (.iff (.cmp .eq (.var 4) (.lit (.str [108,105,116]))) (.cons (.ret (.tup (.cons (.lit (.str [99,111,110,115,116])) (.cons (.meth 12 (.var 0) (.cons (.item (.var 1) (.lit (.int 2))) (.cons (.var 6) (.cons (.var 5) .nil)))) (.cons (.item (.var 1) (.lit (.int 2))) .nil))))) .nil) .nil)
 (.cons (.iff (.cmp .eq (.var 4) (.lit (.str [114,97,110,103,101]))) (.cons (.ret (.meth 13 (.var 0) (.cons (.var 1) (.cons (.var 6) .nil)))) .nil) .nil)
 (.cons (.iff (.cmp .eq (.var 4) (.lit (.str [116,117,112,108,101]))) (.cons (.ret (.meth 14 (.var 0) (.cons (.var 1) (.cons (.var 6) (.cons (.var 3) .nil))))) .nil) .nil)
 (.cons (.ret (.meth 15 (.var 0) (.cons (.var 1) (.cons (.var 6) (.cons (.var 3) .nil))))) .nil))))))))))) }
def Z10:FnI:={ addr:=189,np:=4,dfl:=[],nv:=15,body :=
 (.cons (.asn (.p [4,5,6,7,8,9]) (.var 1))
 (.cons (.iff (.andor true (.cons (.not (.var 7)) (.cons (.not (.var 8)) (.cons (.cmp .isN (.var 9) (.lit .none)) .nil)))) (.cons (.asn (.n 10) (.meth 16 (.var 0) (.cons (.var 6) (.cons (.var 5) (.cons (.var 2) (.cons (.var 3) .nil))))))
 (.cons (.iff (.cmp .isnN (.var 10) (.lit .none)) (.cons (.ret (.var 10)) .nil) .nil) .nil)) .nil)
 (.cons (.asn (.n 11) (.meth 17 (.var 0) (.cons (.var 7) (.cons (.var 8) (.cons (.var 3) (.cons (.var 5) .nil))))))
 (.cons (.asn (.n 12) (.ite (.cmp .eq (.var 11) (.lit (.str [109,111,118,101]))) (.var 2) (.tup (.cons (.lit (.str [114,101,102])) (.cons (.lit .none) (.cons (.cmp .eq (.var 11) (.lit (.str [109,117,116]))) (.cons (.var 2) .nil)))))))
 (.cons (.asn (.n 13) (.meth 18 (.var 0) (.cons (.var 6) (.cons (.var 12) (.cons (.andor true (.cons (.var 8) (.cons (.not (.var 7)) .nil))) (.cons (.var 11) (.cons (.var 5) .nil)))))))
 (.cons (.asn (.n 14) (.ite (.cmp .isN (.var 9) (.lit .none)) (.lit .none) (.meth 11 (.var 0) (.cons (.var 9) (.cons (.var 2) (.cons (.var 3) .nil))))))
 (.cons (.ret (.tup (.cons (.lit (.str [98,105,110,100])) (.cons (.var 2) (.cons (.var 13) (.cons (.var 11) (.cons (.var 14) .nil))))))) .nil))))))) }
def Z11:FnI:={ addr:=196,np:=5,dfl:=[],nv:=5,body :=
 (.cons (.iff (.var 1) (.cons (.iff (.cmp .ne (.var 3) (.lit (.str [109,111,118,101]))) (.cons (.ex (.meth 19 (.var 0) (.cons (.lit (.str [114,101,102,32,119,105,116,104,105,110,32,97,32,112,97,116,116,101,114,110,32,116,104,97,116,32,103,111,101,115,32,116,104,114,111,117,103,104,32,97,32,114,101,102,101,114,101,110,99,101])) (.cons (.var 4) .nil)))) .nil) .nil)
 (.cons (.ret (.ite (.var 2) (.lit (.str [109,117,116])) (.lit (.str [114,101,102])))) .nil)) .nil)
 (.cons (.ret (.ite (.var 2) (.lit (.str [109,111,118,101])) (.var 3))) .nil)) }
def Z12:FnI:={ addr:=203,np:=5,dfl:=[],nv:=6,body :=
 (.cons (.asn (.n 5) (.meth 20 (.attr (.var 0) 4) (.cons (.tup (.cons (.tup (.cons (.var 1) (.cons (.tup .nil) (.cons (.tup .nil) .nil)))) .nil)) (.cons (.var 2) .nil))))
 (.cons (.iff (.cmp .isN (.var 5) (.lit .none)) (.cons (.ret (.lit .none)) .nil) .nil)
 (.cons (.iff (.cmp .eq (.item (.var 5) (.lit (.int 0))) (.lit (.str [99,111,110,115,116]))) (.cons (.ex (.meth 21 (.attr (.var 0) 4) (.cons (.call 25 (.cons (.attr (.var 0) 4) (.cons (.var 3) .nil))) (.cons (.item (.var 5) (.lit (.int 1))) (.cons (.var 2) .nil)))))
 (.cons (.iff (.cmp .isN (.item (.var 5) (.lit (.int 3))) (.lit .none)) (.cons .stuck .nil) .nil)
 (.cons (.ret (.meth 11 (.var 0) (.cons (.tup (.cons (.lit (.str [108,105,116])) (.cons (.var 2) (.cons (.item (.var 5) (.lit (.int 3))) .nil)))) (.cons (.var 3) (.cons (.var 4) .nil))))) .nil))) .nil)
 (.cons (.ret (.meth 11 (.var 0) (.cons (.tup (.cons (.lit (.str [118,97,114,105,97,110,116])) (.cons (.var 2) (.cons (.tup (.cons (.tup (.cons (.var 1) (.cons (.tup .nil) (.cons (.tup .nil) .nil)))) .nil)) (.cons (.tup .nil) .nil))))) (.cons (.var 3) (.cons (.var 4) .nil))))) .nil)))) }
def Z13:FnI:={ addr:=210,np:=6,dfl:=[],nv:=10,body :=
 (.cons (.iff (.cmp .isin (.var 1) (.attr (.var 0) 6)) (.cons (.ex (.meth 19 (.var 0) (.cons (.bin .add (.var 1) (.lit (.str [32,105,115,32,98,111,117,110,100,32,116,119,105,99,101,32,105,110,32,97,32,112,97,116,116,101,114,110]))) (.cons (.var 5) .nil)))) .nil) .nil)
 (.cons (.iff (.cmp .isin (.var 1) (.attr (.var 0) 5)) (.cons (.asn (.p [6,7,8,9]) (.item (.attr (.var 0) 5) (.var 1)))
 (.cons (.iff (.andor false (.cons (.cmp .ne (.var 8) (.var 4)) (.cons (.cmp .ne (.var 9) (.var 3)) .nil))) (.cons .stuck .nil) .nil)
 (.cons (.ex (.meth 21 (.attr (.var 0) 4) (.cons (.var 7) (.cons (.var 2) (.cons (.var 5) .nil))))) .nil))) (.cons (.asn (.n 6) (.meth 22 (.attr (.var 0) 4) (.cons (.var 1) (.cons (.var 2) (.cons (.var 3) (.cons (.var 5) .nil)))))) .nil))
 (.cons (.sitem (.attr (.var 0) 6) (.var 1) (.tup (.cons (.var 6) (.cons (.var 2) (.cons (.var 4) (.cons (.var 3) .nil))))))
 (.cons (.ret (.var 6)) .nil)))) }
def Z14:FnI:={ addr:=217,np:=4,dfl:=[],nv:=9,body :=
 (.cons (.asn (.p [4,5,6,7]) (.tup (.cons (.attr (.var 0) 5) (.cons (.attr (.var 0) 6) (.cons (.mlist .nil) (.cons (.lit .none) .nil))))))
 (.cons (.for (.n 8) (.item (.var 1) (.lit (.int 2))) (.cons (.sattr (.var 0) 6 (.bi .dict (.cons (.var 5) .nil)))
 (.cons (.sattr (.var 0) 5 (.ite (.cmp .isN (.var 7) (.lit .none)) (.bi .dict (.cons (.var 4) .nil)) (.call 23 (.cons (.var 4) (.cons (.var 7) .nil)))))
 (.cons (.ex (.bm .append (.var 6) (.cons (.meth 11 (.var 0) (.cons (.var 8) (.cons (.var 2) (.cons (.var 3) .nil)))) .nil)))
 (.cons (.iff (.cmp .isN (.var 7) (.lit .none)) (.cons (.asn (.n 7) (.attr (.var 0) 6)) .nil) (.cons (.iff (.cmp .ne (.bi .sorted (.cons (.var 7) .nil)) (.bi .sorted (.cons (.attr (.var 0) 6) .nil))) (.cons (.ex (.meth 19 (.var 0) (.cons (.lit (.str [116,104,101,32,112,97,114,116,115,32,111,102,32,97,32,112,97,116,116,101,114,110,32,98,105,110,100,32,117,110,108,105,107,101,32,110,97,109,101,115])) (.cons (.item (.var 1) (.lit (.int 1))) .nil)))) .nil) .nil) .nil)) .nil)))))
 (.cons (.sattr (.var 0) 5 (.var 4))
 (.cons (.ret (.tup (.cons (.lit (.str [111,114])) (.cons (.var 2) (.cons (.bi .tuple (.cons (.var 6) .nil)) .nil))))) .nil)))) }
def Z15:FnI:={ addr:=224,np:=3,dfl:=[],nv:=8,body :=
 (.cons (.asn (.p [3,4,5,6]) (.var 1))
 (.cons (.asn (.n 7) (.meth 10 (.attr (.var 0) 4) (.cons (.var 2) .nil)))
 (.cons (.iff (.cmp .ne (.item (.var 7) (.lit (.int 0))) (.lit (.str [114,101,102]))) (.cons .stuck
 (.cons .stuck .nil)) (.cons (.iff (.cmp .ne (.item (.var 7) (.lit (.int 2))) (.var 5)) (.cons (.ex (.meth 19 (.var 0) (.cons (.lit (.str [97,32,114,101,102,101,114,101,110,99,101,32,111,102,32,116,104,101,32,111,116,104,101,114,32,107,105,110,100])) (.cons (.var 4) .nil)))) .nil) .nil) .nil))
 (.cons (.ret (.tup (.cons (.lit (.str [100,101,114,101,102])) (.cons (.var 7) (.cons (.meth 11 (.var 0) (.cons (.var 6) (.cons (.item (.var 7) (.lit (.int 3))) (.cons (.lit (.str [109,111,118,101])) .nil)))) .nil))))) .nil)))) }
def Z16:FnI:={ addr:=231,np:=4,dfl:=[],nv:=4,body :=
 (.cons (.iff (.bi .isBool (.cons (.var 1) .nil)) (.cons (.ex (.meth 21 (.attr (.var 0) 4) (.cons (.var 2) (.cons (.tup (.cons (.lit (.str [98,111,111,108])) .nil)) (.cons (.var 3) .nil))))) .nil) (.cons (.iff (.cmp .ne (.item (.var 2) (.lit (.int 0))) (.lit (.str [105,110,116]))) (.cons .stuck .nil) .nil) .nil))
 (.cons (.ret (.meth 10 (.attr (.var 0) 4) (.cons (.var 2) .nil))) .nil)) }
def Z17:FnI:={ addr:=238,np:=3,dfl:=[],nv:=8,body :=
 (.cons (.asn (.p [3,4,5,6]) (.var 1))
 (.cons (.asn (.n 7) (.meth 12 (.var 0) (.cons (.var 5) (.cons (.var 2) (.cons (.var 4) .nil)))))
 (.cons (.iff (.andor false (.cons (.bi .isBool (.cons (.var 5) .nil)) (.cons (.bi .isBool (.cons (.var 6) .nil)) .nil))) (.cons .stuck .nil) .nil)
 (.cons (.iff (.cmp .gt (.var 5) (.var 6)) (.cons (.ex (.meth 19 (.var 0) (.cons (.lit (.str [97,32,114,97,110,103,101,32,119,105,116,104,32,110,111,116,104,105,110,103,32,105,110,32,105,116])) (.cons (.var 4) .nil)))) .nil) .nil)
 (.cons (.ret (.tup (.cons (.lit (.str [114,97,110,103,101])) (.cons (.var 7) (.cons (.var 5) (.cons (.var 6) .nil)))))) .nil))))) }
def Z18:FnI:={ addr:=243,np:=4,dfl:=[],nv:=6,body :=
 (.cons (.asn (.n 4) (.item (.var 1) (.lit (.int 2))))
 (.cons (.iff (.cmp .ne (.item (.var 2) (.lit (.int 0))) (.lit (.str [116,117,112,108,101]))) (.cons .stuck
 (.cons .stuck
 (.cons .stuck .nil))) .nil)
 (.cons (.iff (.cmp .ne (.bi .len (.cons (.item (.var 2) (.lit (.int 1))) .nil)) (.bi .len (.cons (.var 4) .nil))) (.cons (.ex (.meth 19 (.var 0) (.cons (.bin .add (.bin .add (.bin .add (.lit (.str [97,32,116,117,112,108,101,32,111,102,32])) (.bi .str (.cons (.bi .len (.cons (.item (.var 2) (.lit (.int 1))) .nil)) .nil))) (.lit (.str [32,112,97,114,116,115,44,32,110,111,116,32,111,102,32]))) (.bi .str (.cons (.bi .len (.cons (.var 4) .nil)) .nil))) (.cons (.item (.var 1) (.lit (.int 1))) .nil)))) .nil) .nil)
 (.cons (.ret (.tup (.cons (.lit (.str [102,105,101,108,100,115])) (.cons (.var 2) (.cons (.meth 23 (.var 0) (.cons (.var 4) (.cons (.item (.var 2) (.lit (.int 1))) (.cons (.var 3) .nil)))) .nil))))) .nil)))) }
def Z19:FnI:={ addr:=248,np:=4,dfl:=[],nv:=6,body :=
 (.cons (.ret (.bi .tuple (.cons (.compz (.meth 11 (.var 0) (.cons (.var 4) (.cons (.var 5) (.cons (.var 3) .nil)))) 4 5 (.var 1) (.var 2)) .nil))) .nil) }
def Z20:FnI:={ addr:=253,np:=4,dfl:=[],nv:=17,body :=
 (.cons (.asn (.p [4,5,6]) (.tup (.cons (.item (.var 1) (.lit (.int 0))) (.cons (.item (.var 1) (.lit (.int 1))) (.cons (.item (.var 1) (.lit (.int 2))) .nil)))))
 (.cons (.asn (.p [7,8]) (.meth 24 (.attr (.var 0) 4) (.cons (.var 5) (.cons (.var 6) .nil))))
 (.cons (.ex (.meth 21 (.attr (.var 0) 4) (.cons (.var 2) (.cons (.var 8) (.cons (.var 5) .nil)))))
 (.cons (.asn (.n 8) (.meth 10 (.attr (.var 0) 4) (.cons (.var 8) .nil)))
 (.cons (.asn (.n 9) (.attr (.attr (.var 0) 4) 25))
 (.cons (.asn (.n 10) (.item (.attr (.var 9) 0) (.item (.var 8) (.lit (.int 1)))))
 (.cons (.asn (.p [11,12]) (.tup (.cons (.item (.item (.attr (.var 10) 1) (.var 7)) (.lit (.int 1))) (.cons (.call 6 (.cons (.var 8) (.cons (.var 7) (.cons (.var 9) .nil)))) .nil))))
 (.cons (.asn (.n 13) (.comp (.item (.var 16) (.lit (.int 1))) (.n 16) (.var 12)))
 (.cons (.iff (.cmp .eq (.var 4) (.lit (.str [118,97,114,105,97,110,116]))) (.cons (.asn (.n 14) (.meth 26 (.var 0) (.cons (.var 1) (.cons (.var 11) (.cons (.var 12) .nil))))) .nil) (.cons (.asn (.n 14) (.meth 27 (.var 0) (.cons (.var 1) (.cons (.var 12) .nil)))) .nil))
 (.cons (.asn (.n 15) (.meth 23 (.var 0) (.cons (.var 14) (.cons (.var 13) (.cons (.var 3) .nil)))))
 (.cons (.ret (.ite (.attr (.var 10) 28) (.tup (.cons (.lit (.str [118,97,114,105,97,110,116])) (.cons (.var 8) (.cons (.var 7) (.cons (.var 15) .nil))))) (.tup (.cons (.lit (.str [102,105,101,108,100,115])) (.cons (.var 8) (.cons (.var 15) .nil)))))) .nil))))))))))) }
def Z21:FnI:={ addr:=260,np:=4,dfl:=[],nv:=4,body :=
 (.cons (.iff (.cmp .eq (.var 2) (.lit (.str [110,97,109,101,100]))) (.cons .stuck .nil) .nil)
 (.cons (.iff (.cmp .ne (.bi .len (.cons (.item (.var 1) (.lit (.int 3))) .nil)) (.bi .len (.cons (.var 3) .nil))) (.cons (.ex (.meth 19 (.var 0) (.cons (.bin .add (.bin .add (.bi .str (.cons (.bi .len (.cons (.var 3) .nil)) .nil)) (.lit (.str [32,112,97,114,116,115,32,97,114,101,32,100,117,101,44,32,110,111,116,32]))) (.bi .str (.cons (.bi .len (.cons (.item (.var 1) (.lit (.int 3))) .nil)) .nil))) (.cons (.item (.var 1) (.lit (.int 1))) .nil)))) .nil) .nil)
 (.cons (.ret (.item (.var 1) (.lit (.int 3)))) .nil))) }
def Z22:FnI:={ addr:=267,np:=3,dfl:=[],nv:=13,body :=
 (.cons (.asn (.p [3,4,5,6,7]) (.var 1))
 (.cons (.asn (.n 8) (.mdict [] .nil))
 (.cons (.for (.p [9,10]) (.var 6) (.cons (.iff (.cmp .isin (.var 9) (.var 8)) (.cons (.ex (.meth 19 (.var 0) (.cons (.bin .add (.var 9) (.lit (.str [32,105,115,32,116,111,108,100,32,116,119,105,99,101]))) (.cons (.var 4) .nil)))) .nil) .nil)
 (.cons (.sitem (.var 8) (.var 9) (.var 10)) .nil)))
 (.cons (.asn (.n 11) (.mlist .nil))
 (.cons (.for (.p [9,12]) (.var 2) (.cons (.iff (.andor true (.cons (.cmp .nin (.var 9) (.var 8)) (.cons (.not (.var 7)) .nil))) (.cons (.ex (.meth 19 (.var 0) (.cons (.bin .add (.var 9) (.lit (.str [32,105,115,32,108,101,102,116,32,111,117,116]))) (.cons (.var 4) .nil)))) .nil) .nil)
 (.cons (.ex (.bm .append (.var 11) (.cons (.bm .dpop2 (.var 8) (.cons (.var 9) (.cons (.tup (.cons (.lit (.str [119,105,108,100])) (.cons (.var 4) .nil))) .nil))) .nil))) .nil)))
 (.cons (.for (.n 9) (.bi .sorted (.cons (.var 8) .nil)) (.cons (.ex (.meth 19 (.var 0) (.cons (.bin .add (.lit (.str [110,111,32,115,117,99,104,32,102,105,101,108,100,58,32])) (.var 9)) (.cons (.var 4) .nil)))) .nil))
 (.cons (.ret (.bi .tuple (.cons (.var 11) .nil))) .nil))))))) }
def Z23:FnI:={ addr:=281,np:=2,dfl:=[],nv:=3,body :=
 (.cons (.asn (.n 2) (.bi .dict (.cons (.var 0) .nil)))
 (.cons (.ex (.bm .update (.var 2) (.cons (.var 1) .nil)))
 (.cons (.ret (.var 2)) .nil))) }
def Z24:FnI:={ addr:=288,np:=2,dfl:=[],nv:=2,body :=
 (.cons (.iff (.andor false (.cons (.cmp .eq (.var 0) (.lit (.str [114,101,102]))) (.cons (.not (.var 1)) .nil))) (.cons (.ret (.lit (.str [114,101,102]))) .nil) .nil)
 (.cons (.ret (.lit (.str [109,117,116]))) .nil)) }
def Z25:FnI:={ addr:=295,np:=2,dfl:=[],nv:=3,body :=
 (.cons (.asn (.n 2) (.meth 10 (.var 0) (.cons (.var 1) .nil)))
 (.cons (.whl (.cmp .eq (.item (.var 2) (.lit (.int 0))) (.lit (.str [114,101,102]))) (.cons (.asn (.n 2) (.meth 10 (.var 0) (.cons (.item (.var 2) (.lit (.int 3))) .nil))) .nil))
 (.cons (.ret (.var 2)) .nil))) }
def Z26:FnI:={ addr:=303,np:=4,dfl:=[(.str [109,111,118,101])],nv:=4,body :=
 (.cons (.ret (.meth 11 (.new 5 (.cons (.var 0) .nil)) (.cons (.var 1) (.cons (.var 2) (.cons (.var 3) .nil))))) .nil) }
def Z27:FnI:={ addr:=317,np:=1,dfl:=[],nv:=1,body :=
 (.cons (.sattr (.var 0) 5 (.mlist .nil))
 (.cons (.sattr (.var 0) 29 (.mlist .nil)) .nil)) }
def Z28:FnI:={ addr:=324,np:=1,dfl:=[],nv:=1,body :=
 (.cons (.ex (.bm .append (.attr (.var 0) 5) (.cons (.lit .none) .nil)))
 (.cons (.ex (.bm .append (.attr (.var 0) 29) (.cons (.lit (.bool false)) .nil)))
 (.cons (.ret (.tup (.cons (.lit (.str [118,97,114])) (.cons (.bin .sub (.bi .len (.cons (.attr (.var 0) 5) .nil)) (.lit (.int 1))) .nil)))) .nil))) }
def Z29:FnI:={ addr:=338,np:=2,dfl:=[],nv:=2,body :=
 (.cons (.whl (.andor true (.cons (.cmp .isin (.item (.var 1) (.lit (.int 0))) (.tup (.cons (.lit (.str [118,97,114])) (.cons (.lit (.str [105,110,116,118,97,114])) .nil)))) (.cons (.cmp .isnN (.item (.attr (.var 0) 5) (.item (.var 1) (.lit (.int 1)))) (.lit .none)) .nil))) (.cons (.asn (.n 1) (.item (.attr (.var 0) 5) (.item (.var 1) (.lit (.int 1))))) .nil))
 (.cons (.ret (.var 1)) .nil)) }
def Z30:FnI:={ addr:=343,np:=2,dfl:=[],nv:=3,body :=
 (.cons (.asn (.n 1) (.meth 30 (.var 0) (.cons (.var 1) .nil)))
 (.cons (.ret (.call 1 (.cons (.var 1) (.cons (.comp (.meth 10 (.var 0) (.cons (.var 2) .nil)) (.n 2) (.call 0 (.cons (.var 1) .nil))) .nil)))) .nil)) }
def Z31:FnI:={ addr:=350,np:=3,dfl:=[],nv:=5,body :=
 (.cons (.asn (.n 3) (.mlist (.cons (.var 2) .nil)))
 (.cons (.whl (.cmp .ne (.var 3) (.vlist .nil)) (.cons (.asn (.n 4) (.meth 30 (.var 0) (.cons (.bm .pop (.var 3) .nil) .nil)))
 (.cons (.iff (.cmp .eq (.var 4) (.var 1)) (.cons .stuck .nil) .nil)
 (.cons (.ex (.bm .extend (.var 3) (.cons (.call 0 (.cons (.var 4) .nil)) .nil))) .nil))))
 (.cons (.ret (.lit (.bool false))) .nil))) }
def Z32:FnI:={ addr:=357,np:=3,dfl:=[],nv:=3,body :=
 (.cons (.iff (.andor true (.cons (.cmp .eq (.item (.var 1) (.lit (.int 0))) (.lit (.str [105,110,116,118,97,114]))) (.cons (.cmp .nin (.item (.var 2) (.lit (.int 0))) (.tup (.cons (.lit (.str [105,110,116])) (.cons (.lit (.str [105,110,116,118,97,114])) .nil)))) .nil))) (.cons .stuck
 (.cons .stuck .nil)) .nil)
 (.cons (.iff (.meth 31 (.var 0) (.cons (.var 1) (.cons (.var 2) .nil))) (.cons .stuck .nil) .nil)
 (.cons (.sitem (.attr (.var 0) 5) (.item (.var 1) (.lit (.int 1))) (.var 2)) .nil))) }
def Z33:FnI:={ addr:=364,np:=3,dfl:=[],nv:=3,body :=
 (.cons (.iff (.andor false (.cons (.cmp .ne (.item (.var 1) (.lit (.int 0))) (.item (.var 2) (.lit (.int 0)))) (.cons (.cmp .ne (.bi .len (.cons (.call 0 (.cons (.var 1) .nil)) .nil)) (.bi .len (.cons (.call 0 (.cons (.var 2) .nil)) .nil))) .nil))) (.cons .stuck .nil) .nil)
 (.cons (.iff (.cmp .isin (.item (.var 1) (.lit (.int 0))) (.tup (.cons (.lit (.str [105,110,116])) (.cons (.lit (.str [112,97,114,97,109])) (.cons (.lit (.str [97,100,116])) .nil))))) (.cons (.ret (.cmp .eq (.item (.var 1) (.lit (.int 1))) (.item (.var 2) (.lit (.int 1))))) .nil) .nil)
 (.cons .stuck .nil))) }
def Z34:FnI:={ addr:=371,np:=3,dfl:=[],nv:=7,body :=
 (.cons (.asn (.n 3) (.mlist (.cons (.tup (.cons (.var 1) (.cons (.var 2) .nil))) .nil)))
 (.cons (.whl (.cmp .ne (.var 3) (.vlist .nil)) (.cons (.asn (.p [4,5]) (.bm .pop (.var 3) .nil))
 (.cons (.asn (.p [4,5]) (.tup (.cons (.meth 30 (.var 0) (.cons (.var 4) .nil)) (.cons (.meth 30 (.var 0) (.cons (.var 5) .nil)) .nil))))
 (.cons (.iff (.cmp .eq (.var 4) (.var 5)) (.cons .cont .nil) .nil)
 (.cons (.iff (.cmp .isin (.item (.var 4) (.lit (.int 0))) (.tup (.cons (.lit (.str [118,97,114])) (.cons (.lit (.str [105,110,116,118,97,114])) .nil)))) (.cons .stuck .nil) (.cons (.iff (.cmp .isin (.item (.var 5) (.lit (.int 0))) (.tup (.cons (.lit (.str [118,97,114])) (.cons (.lit (.str [105,110,116,118,97,114])) .nil)))) (.cons (.ex (.meth 32 (.var 0) (.cons (.var 5) (.cons (.var 4) .nil)))) .nil) (.cons (.iff (.meth 33 (.var 0) (.cons (.var 4) (.cons (.var 5) .nil))) (.cons (.ex (.bm .extend (.var 3) (.cons (.rev (.bi .listzip (.cons (.call 0 (.cons (.var 4) .nil)) (.cons (.call 0 (.cons (.var 5) .nil)) .nil)))) .nil))) .nil) (.cons .stuck
 (.cons .stuck .nil))) .nil)) .nil)) .nil))))) .nil)) }
def Z35:FnI:={ addr:=486,np:=6,dfl:=[],nv:=6,body :=
 (.cons (.sattr (.var 0) 25 (.var 1))
 (.cons (.sattr (.var 0) 34 (.var 2))
 (.cons (.sattr (.var 0) 35 (.var 3))
 (.cons (.sattr (.var 0) 36 (.var 4))
 (.cons (.sattr (.var 0) 37 (.var 5))
 (.cons (.sattr (.var 0) 38 (.new 6 .nil))
 (.cons (.sattr (.var 0) 39 (.mlist .nil))
 (.cons (.sattr (.var 0) 40 (.vlist (.cons (.mdict [] .nil) .nil)))
 (.cons (.sattr (.var 0) 41 (.vlist .nil))
 (.cons (.sattr (.var 0) 42 (.lit (.int 0)))
 (.cons (.sattr (.var 0) 43 (.vlist .nil))
 (.cons (.sattr (.var 0) 44 (.lit (.tup [(.str [116,117,112,108,101]),(.tup [])]))) .nil)))))))))))) }
def Z36:FnI:={ addr:=507,np:=1,dfl:=[],nv:=1,body :=
 (.cons (.ret (.meth 45 (.attr (.var 0) 38) .nil)) .nil) }
def Z37:FnI:={ addr:=514,np:=2,dfl:=[],nv:=2,body :=
 (.cons (.ret (.meth 10 (.attr (.var 0) 38) (.cons (.var 1) .nil))) .nil) }
def Z38:FnI:={ addr:=521,np:=4,dfl:=[],nv:=4,body :=
 (.cons (.try (.cons (.ex (.meth 21 (.attr (.var 0) 38) (.cons (.var 1) (.cons (.var 2) .nil)))) .nil) 3 .stuck) .nil) }
def Z39:FnI:={ addr:=549,np:=4,dfl:=[],nv:=4,body :=
 (.cons (.ex (.bm .append (.attr (.var 0) 39) (.cons (.vlist (.cons (.var 1) (.cons (.var 2) (.cons (.var 3) .nil)))) .nil)))
 (.cons (.ret (.bin .sub (.bi .len (.cons (.attr (.var 0) 39) .nil)) (.lit (.int 1)))) .nil)) }
def Z40:FnI:={ addr:=556,np:=5,dfl:=[],nv:=6,body :=
 (.cons (.asn (.n 5) (.meth 46 (.var 0) (.cons (.var 1) (.cons (.var 2) (.cons (.var 3) .nil)))))
 (.cons (.sitem (.item (.attr (.var 0) 40) (.neg 1)) (.var 1) (.var 5))
 (.cons (.ret (.var 5)) .nil))) }
def Z41:FnI:={ addr:=568,np:=3,dfl:=[],nv:=7,body :=
 (.cons (.asn (.n 3) (.item (.attr (.attr (.var 0) 25) 0) (.var 1)))
 (.cons (.iff (.cmp .nin (.bi .len (.cons (.var 2) .nil)) (.tup (.cons (.lit (.int 0)) (.cons (.bi .len (.cons (.attr (.var 3) 2) .nil)) .nil)))) (.cons .stuck .nil) .nil)
 (.cons (.asn (.n 4) (.comp (.meth 47 (.var 0) (.cons (.var 5) .nil)) (.n 5) (.var 2)))
 (.cons (.iff (.cmp .eq (.var 4) (.vlist .nil)) (.cons (.asn (.n 4) (.comp (.meth 45 (.var 0) .nil) (.n 6) (.attr (.var 3) 2))) .nil) .nil)
 (.cons (.ret (.tup (.cons (.lit (.str [97,100,116])) (.cons (.var 1) (.cons (.bin .mul (.tup (.cons (.lit .none) .nil)) (.bi .len (.cons (.attr (.var 3) 3) .nil))) (.cons (.bi .tuple (.cons (.var 4) .nil)) .nil)))))) .nil))))) }
def Z42:FnI:={ addr:=575,np:=3,dfl:=[],nv:=6,body :=
 (.cons (.iff (.cmp .eq (.item (.item (.var 2) (.lit (.int 0))) (.lit (.int 0))) (.lit (.str [83,101,108,102]))) (.cons .stuck .nil) .nil)
 (.cons (.asn (.n 3) (.meth 48 (.var 0) (.cons (.var 1) (.cons (.call 46 (.cons (.var 2) .nil)) .nil))))
 (.cons (.asn (.p [4,5]) (.item (.attr (.attr (.var 0) 25) 1) (.var 3)))
 (.cons (.ret (.tup (.cons (.var 5) (.cons (.meth 49 (.var 0) (.cons (.var 4) (.cons (.meth 50 (.var 0) (.cons (.var 4) (.cons (.var 2) .nil))) .nil))) .nil)))) .nil)))) }
def Z43:FnI:={ addr:=582,np:=3,dfl:=[],nv:=4,body :=
 (.cons (.asn (.n 3) (.item (.item (.var 2) (.neg 1)) (.lit (.int 2))))
 (.cons (.iff (.andor true (.cons (.cmp .eq (.var 3) (.tup .nil)) (.cons (.cmp .gt (.bi .len (.cons (.var 2) .nil)) (.lit (.int 1))) (.cons (.attr (.item (.attr (.attr (.var 0) 25) 0) (.var 1)) 28) .nil)))) (.cons (.asn (.n 3) (.item (.item (.var 2) (.neg 2)) (.lit (.int 2)))) .nil) .nil)
 (.cons (.ret (.var 3)) .nil))) }
def Z44:FnI:={ addr:=589,np:=3,dfl:=[],nv:=10,body :=
 (.cons (.iff (.cmp .eq (.item (.item (.var 1) (.lit (.int 0))) (.lit (.int 0))) (.lit (.str [83,101,108,102]))) (.cons .stuck .nil) .nil)
 (.cons (.try (.cons (.asn (.n 3) (.meth 51 (.attr (.attr (.var 0) 25) 52) (.cons (.attr (.var 0) 34) (.cons (.call 46 (.cons (.var 1) .nil)) (.cons (.lit (.str [118,97,108,117,101])) (.cons (.var 2) .nil)))))) .nil) 1 (.ret .none))
 (.cons (.iff (.cmp .isin (.var 3) (.attr (.attr (.var 0) 25) 1)) (.cons (.asn (.p [4,5]) (.item (.attr (.attr (.var 0) 25) 1) (.var 3)))
 (.cons (.asn (.n 6) (.ite (.attr (.item (.attr (.attr (.var 0) 25) 0) (.var 4)) 28) (.lit (.str [118,97,114,105,97,110,116])) (.lit (.str [115,116,114,117,99,116]))))
 (.cons (.ret (.tup (.cons (.var 6) (.cons (.var 4) (.cons (.var 5) (.cons (.meth 50 (.var 0) (.cons (.var 4) (.cons (.var 1) .nil))) .nil)))))) .nil))) .nil)
 (.cons (.iff (.cmp .isin (.var 3) (.attr (.attr (.var 0) 25) 53)) (.cons (.asn (.p [7,8,9]) (.item (.attr (.attr (.var 0) 25) 53) (.var 3)))
 (.cons (.ret (.tup (.cons (.lit (.str [99,111,110,115,116])) (.cons (.call 4 (.cons (.var 7) .nil)) (.cons (.tup (.cons (.lit (.str [119,105,116,104,105,110])) (.cons (.var 2) (.cons (.var 9) (.cons (.var 8) .nil))))) (.cons (.call 47 (.cons (.var 8) .nil)) .nil)))))) .nil)) .nil)
 (.cons .stuck .nil))))) }
def Z45:FnI:={ addr:=601,np:=3,dfl:=[],nv:=5,body :=
 (.cons (.for (.n 3) (.tup (.cons (.lit (.str [118,97,108,117,101])) (.cons (.lit (.str [116,121,112,101])) .nil))) (.cons (.try (.cons (.asn (.n 4) (.meth 51 (.attr (.attr (.var 0) 25) 52) (.cons (.attr (.var 0) 34) (.cons (.var 2) (.cons (.var 3) .nil)))))
 (.cons (.iff (.cmp .isin (.var 4) (.attr (.attr (.var 0) 25) 1)) (.cons (.ret (.var 4)) .nil) .nil) .nil)) 1 .cont) .nil))
 (.cons .stuck .nil)) }
def Z46:FnI:={ addr:=646,np:=1,dfl:=[],nv:=4,body :=
 (.cons (.ret (.bi .tuple (.cons (.comp (.var 1) (.p [1,2,3]) (.var 0)) .nil))) .nil) }
def Z47:FnI:={ addr:=653,np:=1,dfl:=[],nv:=1,body :=
 (.cons (.iff (.cmp .isin (.item (.var 0) (.lit (.int 0))) (.tup (.cons (.lit (.str [105,110,116])) (.cons (.lit (.str [98,111,111,108])) .nil)))) (.cons (.ret (.item (.var 0) (.lit (.int 2)))) .nil) .nil)
 (.cons .stuck
 (.cons .stuck .nil))) }
def Z48:FnI:={ addr:=662,np:=2,dfl:=[],nv:=2,body :=
 (.cons (.ret (.ite (.cmp .eq (.var 0) (.lit (.str []))) (.var 1) (.bin .add (.bin .add (.var 0) (.lit (.str [58,58]))) (.var 1)))) .nil) }
def Z49:FnI:={ addr:=676,np:=2,dfl:=[],nv:=2,body :=
 (.cons (.ret (.andor false (.cons (.cmp .eq (.var 1) (.lit (.str []))) (.cons (.cmp .eq (.var 0) (.var 1)) (.cons (.meth 54 (.var 0) (.cons (.bin .add (.var 1) (.lit (.str [58,58]))) .nil)) .nil))))) .nil) }
def Z50:FnI:={ addr:=690,np:=4,dfl:=[],nv:=4,body :=
 (.cons (.sattr (.var 0) 55 (.var 1))
 (.cons (.sattr (.var 0) 56 (.var 2))
 (.cons (.sattr (.var 0) 57 (.var 3)) .nil))) }
def Z51:FnI:={ addr:=711,np:=1,dfl:=[],nv:=1,body :=
 (.cons (.sattr (.var 0) 58 (.mdict [] .nil))
 (.cons (.sattr (.var 0) 59 (.mdict [] .nil))
 (.cons (.sattr (.var 0) 60 (.mdict [] .nil)) .nil))) }
def Z52:FnI:={ addr:=718,np:=2,dfl:=[],nv:=2,body :=
 (.cons (.ret (.ite (.cmp .eq (.var 1) (.lit (.str [116,121,112,101]))) (.attr (.var 0) 58) (.attr (.var 0) 59))) .nil) }
def Z53:FnI:={ addr:=723,np:=3,dfl:=[],nv:=4,body :=
 (.cons (.ret (.andor false (.cons (.cmp .isin (.var 1) (.attr (.var 0) 60)) (.cons (.cmp .ne (.compc (.var 3) (.n 3) (.var 2) (.cmp .isin (.var 1) (.meth 61 (.var 0) (.cons (.var 3) .nil)))) (.vlist .nil)) .nil)))) .nil) }
def Z54:FnI:={ addr:=744,np:=2,dfl:=[],nv:=6,body :=
 (.cons (.sattr (.var 0) 62 (.mdict [[]] (.cons (.lit (.str [109,111,100])) .nil)))
 (.cons (.sattr (.var 0) 63 (.mdict [[]] (.cons (.lit (.bool true)) .nil)))
 (.cons (.sattr (.var 0) 64 (.mdict [[]] (.cons (.new 9 .nil) .nil)))
 (.cons (.sattr (.var 0) 65 (.mdict [] .nil))
 (.cons (.sattr (.var 0) 66 (.mdict [] .nil))
 (.cons (.asn (.n 2) (.mlist (.cons (.tup (.cons (.lit (.str [])) (.cons (.bi .list (.cons (.var 1) .nil)) .nil))) .nil)))
 (.cons (.whl (.cmp .ne (.var 2) (.vlist .nil)) (.cons (.asn (.p [3,4]) (.bm .pop (.var 2) .nil))
 (.cons (.for (.n 5) (.var 4) (.cons (.iff (.cmp .eq (.item (.var 5) (.lit (.int 0))) (.lit (.str [109,111,100]))) (.cons .stuck .nil) .nil)
 (.cons (.ex (.meth 67 (.var 0) (.cons (.var 3) (.cons (.var 5) .nil)))) .nil))) .nil))) .nil))))))) }
def Z55:FnI:={ addr:=751,np:=3,dfl:=[],nv:=6,body :=
 (.cons (.asn (.p [3,4]) (.tup (.cons (.item (.var 2) (.lit (.int 0))) (.cons (.item (.var 2) (.lit (.int 1))) .nil))))
 (.cons (.iff (.cmp .eq (.var 3) (.lit (.str [117,115,101]))) (.cons (.ex (.meth 68 (.var 0) (.cons (.var 1) (.cons (.var 2) .nil)))) .nil) (.cons (.iff (.cmp .eq (.var 3) (.lit (.str [109,111,100]))) (.cons .stuck
 (.cons .stuck .nil)) (.cons (.iff (.cmp .eq (.var 3) (.lit (.str [115,116,114,117,99,116]))) (.cons (.asn (.n 5) (.ite (.cmp .eq (.item (.var 2) (.lit (.int 4))) (.lit (.str [110,97,109,101,100]))) (.tup (.cons (.lit (.str [116,121,112,101])) .nil)) (.tup (.cons (.lit (.str [116,121,112,101])) (.cons (.lit (.str [118,97,108,117,101])) .nil)))))
 (.cons (.ex (.meth 69 (.var 0) (.cons (.var 1) (.cons (.var 2) (.cons (.var 5) (.cons (.item (.var 2) (.lit (.int 6))) .nil)))))) .nil)) (.cons (.iff (.cmp .eq (.var 3) (.lit (.str [101,110,117,109]))) (.cons (.ex (.meth 69 (.var 0) (.cons (.var 1) (.cons (.var 2) (.cons (.tup (.cons (.lit (.str [116,121,112,101])) .nil)) (.cons (.item (.var 2) (.lit (.int 5))) .nil))))))
 (.cons (.ex (.meth 70 (.var 0) (.cons (.call 48 (.cons (.var 1) (.cons (.item (.var 2) (.lit (.int 2))) .nil))) (.cons (.var 2) .nil)))) .nil)) (.cons (.iff (.cmp .eq (.var 3) (.lit (.str [116,114,97,105,116]))) (.cons .stuck .nil) (.cons (.iff (.cmp .isin (.var 3) (.tup (.cons (.lit (.str [102,110])) (.cons (.lit (.str [99,111,110,115,116])) .nil)))) (.cons (.ex (.meth 22 (.var 0) (.cons (.var 1) (.cons (.item (.var 2) (.lit (.int 2))) (.cons (.var 3) (.cons (.tup (.cons (.lit (.str [118,97,108,117,101])) .nil)) (.cons (.ite (.cmp .eq (.var 3) (.lit (.str [102,110]))) (.item (.var 2) (.lit (.int 8))) (.item (.var 2) (.lit (.int 5)))) (.cons (.var 4) .nil))))))))
 (.cons (.sitem (.attr (.var 0) 66) (.call 48 (.cons (.var 1) (.cons (.item (.var 2) (.lit (.int 2))) .nil))) (.var 2)) .nil)) .nil) .nil)) .nil)) .nil)) .nil)) .nil)) .nil)) }
def Z56:FnI:={ addr:=758,np:=7,dfl:=[],nv:=10,body :=
 (.cons (.asn (.p [7,8]) (.tup (.cons (.item (.attr (.var 0) 64) (.var 1)) (.cons (.call 48 (.cons (.var 1) (.cons (.var 2) .nil))) .nil))))
 (.cons (.iff (.andor false (.cons (.meth 71 (.var 7) (.cons (.var 2) (.cons (.var 4) .nil))) (.cons (.cmp .isin (.var 8) (.attr (.var 0) 62)) .nil))) (.cons .stuck .nil) .nil)
 (.cons (.for (.n 9) (.var 4) (.cons (.sitem (.meth 61 (.var 7) (.cons (.var 9) .nil)) (.var 2) (.var 8)) .nil))
 (.cons (.sitem (.attr (.var 0) 62) (.var 8) (.var 3))
 (.cons (.sitem (.attr (.var 0) 63) (.var 8) (.var 5)) .nil))))) }
def Z57:FnI:={ addr:=763,np:=5,dfl:=[],nv:=9,body :=
 (.cons (.ex (.meth 22 (.var 0) (.cons (.var 1) (.cons (.item (.var 2) (.lit (.int 2))) (.cons (.item (.var 2) (.lit (.int 0))) (.cons (.var 3) (.cons (.var 4) (.cons (.item (.var 2) (.lit (.int 1))) .nil))))))))
 (.cons (.asn (.n 5) (.call 48 (.cons (.var 1) (.cons (.item (.var 2) (.lit (.int 2))) .nil))))
 (.cons (.asn (.p [6,7]) (.item (.var 2) (.lit (.int 3))))
 (.cons (.sitem (.attr (.var 0) 65) (.var 5) (.tup (.cons (.bi .tuple (.cons (.var 6) .nil)) (.cons (.bi .tuple (.cons (.comp (.item (.var 8) (.lit (.int 0))) (.n 8) (.var 7)) .nil)) .nil))))
 (.cons (.sitem (.attr (.var 0) 66) (.var 5) (.var 2)) .nil))))) }
def Z58:FnI:={ addr:=770,np:=3,dfl:=[],nv:=4,body :=
 (.cons (.for (.n 3) (.item (.var 2) (.lit (.int 4))) (.cons (.iff (.cmp .isin (.call 48 (.cons (.var 1) (.cons (.item (.var 3) (.lit (.int 0))) .nil))) (.attr (.var 0) 62)) (.cons .stuck .nil) .nil)
 (.cons (.sitem (.attr (.var 0) 62) (.call 48 (.cons (.var 1) (.cons (.item (.var 3) (.lit (.int 0))) .nil))) (.lit (.str [118,97,114,105,97,110,116]))) .nil))) .nil) }
def Z59:FnI:={ addr:=777,np:=3,dfl:=[],nv:=9,body :=
 (.cons (.asn (.p [3,4,5,6]) (.tup (.cons (.item (.var 2) (.lit (.int 1))) (.cons (.item (.var 2) (.lit (.int 2))) (.cons (.item (.var 2) (.lit (.int 3))) (.cons (.item (.var 2) (.lit (.int 4))) .nil))))))
 (.cons (.asn (.n 7) (.ite (.cmp .isN (.var 5) (.lit .none)) (.item (.var 4) (.neg 1)) (.var 5)))
 (.cons (.asn (.n 8) (.item (.attr (.var 0) 64) (.var 1)))
 (.cons (.iff (.andor false (.cons (.cmp .isin (.var 7) (.lit (.tup [(.str [99,114,97,116,101]),(.str [115,101,108,102]),(.str [115,117,112,101,114])]))) (.cons (.meth 71 (.var 8) (.cons (.var 7) (.cons (.tup (.cons (.lit (.str [116,121,112,101])) (.cons (.lit (.str [118,97,108,117,101])) .nil))) .nil))) .nil))) (.cons .stuck .nil) .nil)
 (.cons (.sitem (.attr (.var 8) 60) (.var 7) (.new 8 (.cons (.bi .tuple (.cons (.var 4) .nil)) (.cons (.var 6) (.cons (.var 3) .nil))))) .nil))))) }
def Z60:FnI:={ addr:=784,np:=4,dfl:=[],nv:=4,body :=
 (.cons (.ret (.andor false (.cons (.var 3) (.cons (.call 49 (.cons (.var 1) (.cons (.var 2) .nil))) .nil)))) .nil) }
def Z61:FnI:={ addr:=792,np:=5,dfl:=[(.int 0)],nv:=5,body :=
 (.cons (.ret (.meth 72 (.var 0) (.cons (.var 1) (.cons (.bi .tuple (.cons (.var 2) .nil)) (.cons (.var 3) (.cons (.var 4) (.cons (.vlist .nil) .nil))))))) .nil) }
def Z62:FnI:={ addr:=799,np:=6,dfl:=[],nv:=10,body :=
 (.cons (.asn (.p [6,7]) (.meth 73 (.var 0) (.cons (.var 1) (.cons (.var 2) (.cons (.var 4) .nil)))))
 (.cons (.whl (.cmp .lt (.var 7) (.bi .len (.cons (.var 2) .nil))) (.cons (.asn (.n 8) (.ite (.cmp .eq (.bin .add (.var 7) (.lit (.int 1))) (.bi .len (.cons (.var 2) .nil))) (.var 3) (.lit (.str [116,121,112,101]))))
 (.cons (.asn (.n 9) (.meth 74 (.var 0) (.cons (.var 1) (.cons (.var 6) (.cons (.item (.var 2) (.var 7)) (.cons (.var 8) (.cons (.var 4) (.cons (.var 5) .nil))))))))
 (.cons (.iff (.cmp .isN (.var 9) (.lit .none)) (.cons (.raise 1 (.cons (.bin .add (.lit (.str [110,111,116,104,105,110,103,32,105,115,32,110,97,109,101,100,32])) (.bm .join (.lit (.str [58,58])) (.cons (.var 2) .nil))) (.cons (.var 4) .nil))) .nil) .nil)
 (.cons (.asn (.p [6,7]) (.tup (.cons (.var 9) (.cons (.bin .add (.var 7) (.lit (.int 1))) .nil)))) .nil)))))
 (.cons (.iff (.andor false (.cons (.cmp .isN (.var 6) (.lit .none)) (.cons (.andor true (.cons (.cmp .eq (.var 3) (.lit (.str [118,97,108,117,101]))) (.cons (.cmp .eq (.item (.attr (.var 0) 62) (.var 6)) (.lit (.str [109,111,100]))) .nil))) .nil))) (.cons .stuck .nil) .nil)
 (.cons (.ret (.var 6)) .nil)))) }
def Z63:FnI:={ addr:=806,np:=4,dfl:=[],nv:=6,body :=
 (.cons (.iff (.cmp .eq (.var 2) (.tup .nil)) (.cons .stuck .nil) .nil)
 (.cons (.iff (.cmp .eq (.item (.var 2) (.lit (.int 0))) (.lit (.str [99,114,97,116,101]))) (.cons .stuck .nil) .nil)
 (.cons (.iff (.cmp .nin (.item (.var 2) (.lit (.int 0))) (.lit (.tup [(.str [99,114,97,116,101]),(.str [115,101,108,102]),(.str [115,117,112,101,114])]))) (.cons (.ret (.tup (.cons (.lit .none) (.cons (.lit (.int 0)) .nil)))) .nil) .nil)
 (.cons .stuck
 (.cons .stuck
 (.cons .stuck .nil)))))) }
def Z64:FnI:={ addr:=813,np:=7,dfl:=[],nv:=8,body :=
 (.cons (.iff (.cmp .isnN (.var 2) (.lit .none)) (.cons (.ret (.meth 75 (.var 0) (.cons (.var 1) (.cons (.var 2) (.cons (.var 3) (.cons (.var 4) (.cons (.var 5) (.cons (.var 6) .nil)))))))) .nil) .nil)
 (.cons (.asn (.n 7) (.meth 75 (.var 0) (.cons (.var 1) (.cons (.var 1) (.cons (.var 3) (.cons (.var 4) (.cons (.var 5) (.cons (.var 6) .nil))))))))
 (.cons (.iff (.andor true (.cons (.cmp .isN (.var 7) (.lit .none)) (.cons (.cmp .isin (.var 3) (.lit (.tup [(.str [67,108,111,110,101]),(.str [67,111,112,121]),(.str [68,101,102,97,117,108,116]),(.str [68,114,111,112]),(.str [69,114,114]),(.str [78,111,110,101]),(.str [79,107]),(.str [79,112,116,105,111,110]),(.str [82,97,110,103,101,56]),(.str [82,101,115,117,108,116]),(.str [83,111,109,101]),(.str [86,101,99,56]),(.str [115,119,97,112,112,101,100])]))) .nil))) (.cons .stuck .nil) .nil)
 (.cons (.ret (.var 7)) .nil)))) }
def Z65:FnI:={ addr:=820,np:=7,dfl:=[],nv:=10,body :=
 (.cons (.iff (.cmp .eq (.item (.attr (.var 0) 62) (.var 2)) (.lit (.str [101,110,117,109]))) (.cons (.asn (.n 7) (.call 48 (.cons (.var 2) (.cons (.var 3) .nil))))
 (.cons (.ret (.ite (.cmp .eq (.bm .get1 (.attr (.var 0) 62) (.cons (.var 7) .nil)) (.lit (.str [118,97,114,105,97,110,116]))) (.var 7) (.lit .none))) .nil)) .nil)
 (.cons (.iff (.cmp .ne (.item (.attr (.var 0) 62) (.var 2)) (.lit (.str [109,111,100]))) (.cons .stuck .nil) .nil)
 (.cons (.asn (.n 8) (.item (.attr (.var 0) 64) (.var 2)))
 (.cons (.asn (.n 7) (.bm .get1 (.meth 61 (.var 8) (.cons (.var 4) .nil)) (.cons (.var 3) .nil)))
 (.cons (.iff (.cmp .isnN (.var 7) (.lit .none)) (.cons (.iff (.not (.meth 76 (.var 0) (.cons (.var 1) (.cons (.var 2) (.cons (.item (.attr (.var 0) 63) (.var 7)) .nil))))) (.cons .stuck .nil) .nil)
 (.cons (.ret (.var 7)) .nil)) .nil)
 (.cons (.asn (.n 9) (.bm .get1 (.attr (.var 8) 60) (.cons (.var 3) .nil)))
 (.cons (.iff (.cmp .isN (.var 9) (.lit .none)) (.cons (.ret (.lit .none)) .nil) .nil)
 (.cons (.iff (.not (.meth 76 (.var 0) (.cons (.var 1) (.cons (.var 2) (.cons (.attr (.var 9) 56) .nil))))) (.cons .stuck .nil) .nil)
 (.cons (.ret (.meth 77 (.var 0) (.cons (.var 2) (.cons (.var 3) (.cons (.var 9) (.cons (.var 4) (.cons (.var 6) .nil))))))) .nil))))))))) }
def Z66:FnI:={ addr:=827,np:=6,dfl:=[],nv:=6,body :=
 (.cons (.iff (.andor false (.cons (.cmp .isin (.tup (.cons (.var 1) (.cons (.var 2) .nil))) (.var 5)) (.cons (.cmp .ge (.bi .len (.cons (.var 5) .nil)) (.lit (.int 30))) .nil))) (.cons .stuck .nil) .nil)
 (.cons (.ret (.meth 72 (.var 0) (.cons (.var 1) (.cons (.attr (.var 3) 55) (.cons (.var 4) (.cons (.attr (.var 3) 57) (.cons (.bin .add (.var 5) (.vlist (.cons (.tup (.cons (.var 1) (.cons (.var 2) .nil))) .nil))) .nil))))))) .nil)) }
def Z67:FnI:={ addr:=865,np:=8,dfl:=[(.str []),(.tup [])],nv:=8,body :=
 (.cons (.sattr (.var 0) 78 (.var 1))
 (.cons (.sattr (.var 0) 34 (.var 6))
 (.cons (.sattr (.var 0) 3 (.var 2))
 (.cons (.sattr (.var 0) 2 (.var 3))
 (.cons (.sattr (.var 0) 1 (.var 4))
 (.cons (.sattr (.var 0) 63 (.var 7))
 (.cons (.sattr (.var 0) 28 (.var 5)) .nil))))))) }
def Z68:FnI:={ addr:=887,np:=2,dfl:=[.none],nv:=2,body :=
 (.cons (.sattr (.var 0) 52 (.var 1))
 (.cons (.sattr (.var 0) 0 (.mdict [] .nil))
 (.cons (.sattr (.var 0) 1 (.mdict [] .nil))
 (.cons (.sattr (.var 0) 79 (.mdict [] .nil))
 (.cons (.sattr (.var 0) 80 (.mdict [] .nil))
 (.cons (.sattr (.var 0) 81 (.vlist .nil))
 (.cons (.sattr (.var 0) 53 (.mdict [] .nil))
 (.cons (.sattr (.var 0) 82 (.mdict [] .nil)) .nil)))))))) }
def Z69:FnI:={ addr:=908,np:=2,dfl:=[],nv:=5,body :=
 (.cons (.asn (.n 2) (.ite (.cmp .ne (.var 0) (.mlist .nil)) (.item (.var 0) (.lit (.int 0))) (.lit (.int 0))))
 (.cons (.asn (.n 3) (.bi .max (.cons (.var 2) (.cons (.bin .sub (.neg 1) (.var 2)) .nil))))
 (.cons (.asn (.n 4) (.bin .mod (.bin .mul (.bin .add (.bin .mod (.var 3) (.lit (.int 2147483629))) (.lit (.int 17))) (.lit (.int 48271))) (.lit (.int 2147483647))))
 (.cons (.ret (.mlist (.cons (.bin .mul (.var 3) (.bi .int (.cons (.cmp .ge (.var 3) (.bin .pow (.lit (.int 10)) (.lit (.int 18)))) .nil))) (.cons (.var 4) (.cons (.ite (.cmp .eq (.var 0) (.mlist .nil)) (.var 1) (.vlist .nil)) .nil))))) .nil)))) }
def Z70:FnI:={ addr:=915,np:=2,dfl:=[],nv:=3,body :=
 (.cons (.iff (.cmp .ne (.item (.var 0) (.lit (.int 2))) (.vlist .nil)) (.cons (.ret (.bin .mod (.bm .pop0 (.item (.var 0) (.lit (.int 2))) (.cons (.lit (.int 0)) .nil)) (.var 1))) .nil) .nil)
 (.cons (.iff (.cmp .gt (.item (.var 0) (.lit (.int 0))) (.lit (.int 0))) (.cons (.asn (.n 2) (.bin .mod (.item (.var 0) (.lit (.int 0))) (.var 1)))
 (.cons (.sitem (.var 0) (.lit (.int 0)) (.bin .fdiv (.item (.var 0) (.lit (.int 0))) (.var 1)))
 (.cons (.ret (.var 2)) .nil))) .nil)
 (.cons (.sitem (.var 0) (.lit (.int 1)) (.bin .mod (.bin .add (.bin .mul (.item (.var 0) (.lit (.int 1))) (.lit (.int 39373))) (.lit (.int 7))) (.lit (.int 2147483647))))
 (.cons (.ret (.bin .mod (.bin .fdiv (.bin .mod (.bin .mul (.item (.var 0) (.lit (.int 1))) (.item (.var 0) (.lit (.int 1)))) (.lit (.int 2147483629))) (.lit (.int 32))) (.var 1))) .nil)))) }
def Z71:FnI:={ addr:=922,np:=2,dfl:=[],nv:=2,body :=
 (.cons (.ret (.item (.var 1) (.call 70 (.cons (.var 0) (.cons (.bi .len (.cons (.var 1) .nil)) .nil))))) .nil) }
def Z72:FnI:={ addr:=929,np:=0,dfl:=[],nv:=5,body :=
 (.cons (.asn (.p [0,1]) (.tup (.cons (.tup (.cons (.lit (.str [105,110,116])) (.cons (.lit (.str [117,56])) .nil))) (.cons (.tup (.cons (.tup .nil) (.cons (.tup .nil) .nil))) .nil))))
 (.cons (.asn (.n 2) (.vlist (.cons (.tup (.cons (.lit (.str [80])) (.cons (.lit (.str [117,110,105,116])) (.cons (.vlist .nil) .nil)))) (.cons (.tup (.cons (.lit (.str [81])) (.cons (.lit (.str [116,117,112,108,101])) (.cons (.vlist (.cons (.tup (.cons (.lit (.str [48])) (.cons (.tup (.cons (.lit (.str [112,97,114,97,109])) (.cons (.lit (.str [84])) .nil))) .nil))) (.cons (.tup (.cons (.lit (.str [49])) (.cons (.var 0) .nil))) .nil))) .nil)))) .nil))))
 (.cons (.asn (.n 3) (.mlist (.cons (.tup (.cons (.lit (.str [101,110,117,109])) (.cons (.lit (.int 1)) (.cons (.lit (.str [69])) (.cons (.tup (.cons (.tup .nil) (.cons (.tup (.cons (.tup (.cons (.lit (.str [84])) (.cons (.tup .nil) .nil))) .nil)) .nil))) (.cons (.tup (.cons (.tup (.cons (.lit (.str [80])) (.cons (.lit (.str [117,110,105,116])) (.cons (.tup .nil) .nil)))) (.cons (.tup (.cons (.lit (.str [81])) (.cons (.lit (.str [116,117,112,108,101])) (.cons (.tup .nil) .nil)))) .nil))) (.cons (.lit (.bool false)) .nil))))))) .nil)))
 (.cons (.ex (.bm .append (.var 3) (.cons (.tup (.cons (.lit (.str [115,116,114,117,99,116])) (.cons (.lit (.int 1)) (.cons (.lit (.str [83])) (.cons (.var 1) (.cons (.lit (.str [110,97,109,101,100])) (.cons (.tup .nil) (.cons (.lit (.bool false)) .nil)))))))) .nil)))
 (.cons (.asn (.n 3) (.bin .add (.var 3) (.vlist (.cons (.tup (.cons (.lit (.str [99,111,110,115,116])) (.cons (.lit (.int 1)) (.cons (.lit (.str [75])) (.cons (.lit .none) (.cons (.lit .none) (.cons (.lit (.bool false)) .nil))))))) (.cons (.tup (.cons (.lit (.str [117,115,101])) (.cons (.lit (.int 1)) (.cons (.tup (.cons (.lit (.str [69])) (.cons (.lit (.str [80])) .nil))) (.cons (.lit .none) (.cons (.lit (.bool false)) .nil)))))) .nil)))))
 (.cons (.asn (.n 4) (.new 12 (.cons (.new 10 (.cons (.var 3) .nil)) .nil)))
 (.cons (.sitem (.attr (.var 4) 0) (.lit (.str [69])) (.new 11 (.cons (.lit (.str [69])) (.cons (.tup .nil) (.cons (.tup (.cons (.lit (.str [84])) .nil)) (.cons (.var 2) (.cons (.lit (.bool true)) .nil)))))))
 (.cons (.sitem (.attr (.var 4) 0) (.lit (.str [83])) (.new 11 (.cons (.lit (.str [83])) (.cons (.tup .nil) (.cons (.tup .nil) (.cons (.vlist (.cons (.tup (.cons (.lit (.str [83])) (.cons (.lit (.str [110,97,109,101,100])) (.cons (.vlist (.cons (.tup (.cons (.lit (.str [97])) (.cons (.tup (.cons (.lit (.str [98,111,111,108])) .nil)) .nil))) (.cons (.tup (.cons (.lit (.str [98])) (.cons (.var 0) .nil))) .nil))) .nil)))) .nil)) (.cons (.lit (.bool false)) .nil)))))))
 (.cons (.ex (.bm .update (.attr (.var 4) 1) (.cons (.mdict [[69,58,58,80],[69,58,58,81],[83]] (.cons (.tup (.cons (.lit (.str [69])) (.cons (.lit (.int 0)) .nil))) (.cons (.tup (.cons (.lit (.str [69])) (.cons (.lit (.int 1)) .nil))) (.cons (.tup (.cons (.lit (.str [83])) (.cons (.lit (.int 0)) .nil))) .nil)))) .nil)))
 (.cons (.sitem (.attr (.var 4) 53) (.lit (.str [75])) (.tup (.cons (.var 0) (.cons (.tup (.cons (.lit (.str [105,110,116])) (.cons (.lit (.int 1)) (.cons (.lit (.int 7)) (.cons (.lit .none) .nil))))) (.cons (.lit (.str [])) .nil)))))
 (.cons (.ret (.new 7 (.cons (.var 4) (.cons (.lit (.str [])) (.cons (.lit .none) (.cons (.mdict [] .nil) (.cons (.lit .none) .nil))))))) .nil))))))))))) }
def Z73:FnI:={ addr:=936,np:=2,dfl:=[],nv:=4,body :=
 (.cons (.asn (.n 2) (.ite (.cmp .gt (.var 1) (.lit (.int 0))) (.call 70 (.cons (.var 0) (.cons (.lit (.int 7)) .nil))) (.call 70 (.cons (.var 0) (.cons (.lit (.int 2)) .nil)))))
 (.cons (.iff (.cmp .lt (.var 2) (.lit (.int 2))) (.cons (.ret (.lpick (.cons (.tup (.cons (.lit (.str [105,110,116])) (.cons (.lit (.str [117,56])) .nil))) (.cons (.tup (.cons (.lit (.str [98,111,111,108])) .nil)) .nil)) (.var 2))) .nil) .nil)
 (.cons (.iff (.cmp .eq (.var 2) (.lit (.int 2))) (.cons (.ret (.tup (.cons (.lit (.str [97,100,116])) (.cons (.lit (.str [83])) (.cons (.tup .nil) (.cons (.tup .nil) .nil)))))) .nil) .nil)
 (.cons (.asn (.n 3) (.call 73 (.cons (.var 0) (.cons (.bin .sub (.var 1) (.lit (.int 1))) .nil))))
 (.cons (.iff (.cmp .eq (.var 2) (.lit (.int 3))) (.cons (.ret (.tup (.cons (.lit (.str [116,117,112,108,101])) (.cons (.tup (.cons (.var 3) (.cons (.tup (.cons (.lit (.str [105,110,116])) (.cons (.lit (.str [117,56])) .nil))) .nil))) .nil)))) .nil) .nil)
 (.cons (.ret (.ite (.cmp .eq (.var 2) (.lit (.int 4))) (.tup (.cons (.lit (.str [97,100,116])) (.cons (.lit (.str [69])) (.cons (.tup .nil) (.cons (.tup (.cons (.var 3) .nil)) .nil))))) (.tup (.cons (.lit (.str [114,101,102])) (.cons (.lit .none) (.cons (.cmp .eq (.var 2) (.lit (.int 6))) (.cons (.var 3) .nil))))))) .nil)))))) }
def Z74:FnI:={ addr:=943,np:=2,dfl:=[],nv:=2,body :=
 (.cons (.ret (.ite (.andor true (.cons (.var 1) (.cons (.cmp .ne (.var 0) (.lit (.str [114,101,102]))) .nil))) (.lit (.str [109,117,116])) (.lit (.str [114,101,102])))) .nil) }
def Z75:FnI:={ addr:=950,np:=2,dfl:=[],nv:=2,body :=
 (.cons (.ret (.ite (.cmp .eq (.item (.var 0) (.lit (.int 0))) (.lit (.str [114,101,102]))) (.tup (.cons (.lit (.str [100,101,114,101,102])) (.cons (.var 0) (.cons (.call 75 (.cons (.item (.var 0) (.lit (.int 3))) (.cons (.var 1) .nil))) .nil)))) (.var 1))) .nil) }
def Z76:FnI:={ addr:=957,np:=1,dfl:=[],nv:=1,body :=
 (.cons (.ret (.ite (.cmp .eq (.item (.var 0) (.lit (.int 0))) (.lit (.str [114,101,102]))) (.call 76 (.cons (.item (.var 0) (.lit (.int 3))) .nil)) (.var 0))) .nil) }
def Z77:FnI:={ addr:=964,np:=4,dfl:=[],nv:=8,body :=
 (.cons (.asn (.n 4) (.cmp .eq (.call 70 (.cons (.var 0) (.cons (.lit (.int 3)) .nil))) (.lit (.int 0))))
 (.cons (.asn (.n 5) (.andor true (.cons (.cmp .eq (.var 2) (.lit (.str [109,111,118,101]))) (.cons (.cmp .eq (.call 70 (.cons (.var 0) (.cons (.lit (.int 3)) .nil))) (.lit (.int 0))) .nil))))
 (.cons (.asn (.n 6) (.ite (.var 5) (.ite (.var 4) (.lit (.str [109,117,116])) (.lit (.str [114,101,102]))) (.ite (.var 4) (.lit (.str [109,111,118,101])) (.var 2))))
 (.cons (.asn (.n 7) (.bin .add (.lit (.str [120])) (.bi .str (.cons (.bi .len (.cons (.var 3) .nil)) .nil))))
 (.cons (.ex (.bm .append (.var 3) (.cons (.vlist (.cons (.var 7) (.cons (.ite (.cmp .eq (.var 6) (.lit (.str [109,111,118,101]))) (.var 1) (.tup (.cons (.lit (.str [114,101,102])) (.cons (.lit .none) (.cons (.cmp .eq (.var 6) (.lit (.str [109,117,116]))) (.cons (.var 1) .nil)))))) (.cons (.andor true (.cons (.var 4) (.cons (.not (.var 5)) .nil))) .nil)))) .nil)))
 (.cons (.ret (.tup (.cons (.tup (.cons (.lit (.str [110,97,109,101])) (.cons (.lit (.int 1)) (.cons (.var 7) (.cons (.var 5) (.cons (.var 4) .nil)))))) (.cons (.tup (.cons (.bin .sub (.bi .len (.cons (.var 3) .nil)) (.lit (.int 1))) (.cons (.var 6) .nil))) .nil)))) .nil)))))) }
def Z78:FnI:={ addr:=969,np:=4,dfl:=[],nv:=15,body :=
 (.cons (.asn (.p [4,5]) (.tup (.cons (.call 76 (.cons (.var 1) .nil)) (.cons (.lpick (.cons (.tup (.cons (.lit (.int 5)) (.cons (.lit (.int 6)) .nil))) (.cons (.tup (.cons (.lit (.int 0)) (.cons (.lit (.int 255)) .nil))) .nil)) (.call 70 (.cons (.var 0) (.cons (.lit (.int 2)) .nil)))) .nil))))
 (.cons (.asn (.n 6) (.comp (.tup (.cons (.lit (.str [108,105,116])) (.cons (.lit (.int 1)) (.cons (.var 11) .nil)))) (.n 11) (.var 5)))
 (.cons (.asn (.n 7) (.comp (.call 75 (.cons (.var 1) (.cons (.tup (.cons (.lit (.str [99,111,110,115,116])) (.cons (.var 4) (.cons (.var 12) .nil)))) .nil))) (.n 12) (.var 5)))
 (.cons (.iff (.cmp .eq (.call 70 (.cons (.var 0) (.cons (.lit (.int 2)) .nil))) (.lit (.int 0))) (.cons (.asn (.q 8 [9,10]) (.call 77 (.cons (.var 0) (.cons (.var 1) (.cons (.var 2) (.cons (.var 3) .nil))))))
 (.cons (.asn (.n 6) (.comp (.bin .add (.var 8) (.tup (.cons (.var 13) .nil))) (.n 13) (.var 6)))
 (.cons (.asn (.n 7) (.comp (.tup (.cons (.lit (.str [98,105,110,100])) (.cons (.var 1) (.cons (.var 9) (.cons (.var 10) (.cons (.var 14) .nil)))))) (.n 14) (.var 7))) .nil))) .nil)
 (.cons (.ret (.tup (.cons (.tup (.cons (.lit (.str [111,114])) (.cons (.lit (.int 1)) (.cons (.bi .tuple (.cons (.var 6) .nil)) .nil)))) (.cons (.tup (.cons (.lit (.str [111,114])) (.cons (.var 1) (.cons (.bi .tuple (.cons (.var 7) .nil)) .nil)))) .nil)))) .nil))))) }
def Z79:FnI:={ addr:=976,np:=5,dfl:=[],nv:=11,body :=
 (.cons (.asn (.n 5) (.call 70 (.cons (.var 0) (.cons (.lit (.int 7)) .nil))))
 (.cons (.iff (.cmp .eq (.var 5) (.lit (.int 0))) (.cons (.ret (.tup (.cons (.tup (.cons (.lit (.str [119,105,108,100])) (.cons (.lit (.int 1)) .nil))) (.cons (.tup (.cons (.lit (.str [119,105,108,100])) (.cons (.var 1) .nil))) .nil)))) .nil) .nil)
 (.cons (.iff (.andor false (.cons (.cmp .eq (.var 5) (.lit (.int 1))) (.cons (.cmp .le (.var 4) (.lit (.int 0))) .nil))) (.cons (.asn (.q 6 [7,8]) (.call 77 (.cons (.var 0) (.cons (.var 1) (.cons (.var 2) (.cons (.var 3) .nil))))))
 (.cons (.iff (.andor true (.cons (.cmp .eq (.var 5) (.lit (.int 2))) (.cons (.cmp .eq (.var 4) (.lit (.int 0))) .nil))) (.cons (.asn (.p [9,10]) (.call 79 (.cons (.var 0) (.cons (.var 1) (.cons (.var 2) (.cons (.var 3) (.cons (.neg 1) .nil)))))))
 (.cons (.ret (.tup (.cons (.bin .add (.var 6) (.tup (.cons (.var 9) .nil))) (.cons (.tup (.cons (.lit (.str [98,105,110,100])) (.cons (.var 1) (.cons (.var 7) (.cons (.var 8) (.cons (.var 10) .nil)))))) .nil)))) .nil)) .nil)
 (.cons (.ret (.tup (.cons (.bin .add (.var 6) (.tup (.cons (.lit .none) .nil))) (.cons (.tup (.cons (.lit (.str [98,105,110,100])) (.cons (.var 1) (.cons (.var 7) (.cons (.var 8) (.cons (.lit .none) .nil)))))) .nil)))) .nil))) .nil)
 (.cons (.iff (.andor true (.cons (.cmp .eq (.var 5) (.lit (.int 2))) (.cons (.cmp .eq (.call 76 (.cons (.var 1) .nil)) (.tup (.cons (.lit (.str [105,110,116])) (.cons (.lit (.str [117,56])) .nil)))) .nil))) (.cons (.ret (.call 78 (.cons (.var 0) (.cons (.var 1) (.cons (.var 2) (.cons (.var 3) .nil)))))) .nil) .nil)
 (.cons (.iff (.andor true (.cons (.cmp .eq (.item (.var 1) (.lit (.int 0))) (.lit (.str [114,101,102]))) (.cons (.cmp .lt (.var 5) (.lit (.int 4))) .nil))) (.cons (.asn (.p [9,10]) (.call 79 (.cons (.var 0) (.cons (.item (.var 1) (.lit (.int 3))) (.cons (.lit (.str [109,111,118,101])) (.cons (.var 3) (.cons (.bin .sub (.var 4) (.lit (.int 1))) .nil)))))))
 (.cons (.ret (.tup (.cons (.tup (.cons (.lit (.str [114,101,102])) (.cons (.lit (.int 1)) (.cons (.item (.var 1) (.lit (.int 2))) (.cons (.var 9) .nil))))) (.cons (.tup (.cons (.lit (.str [100,101,114,101,102])) (.cons (.var 1) (.cons (.var 10) .nil)))) .nil)))) .nil)) .nil)
 (.cons (.ret (.call 80 (.cons (.var 0) (.cons (.var 1) (.cons (.var 2) (.cons (.var 3) (.cons (.var 4) .nil))))))) .nil)))))) }
def Z80:FnI:={ addr:=981,np:=5,dfl:=[],nv:=14,body :=
 (.cons (.iff (.cmp .eq (.item (.var 1) (.lit (.int 0))) (.lit (.str [114,101,102]))) (.cons (.asn (.p [5,6]) (.call 80 (.cons (.var 0) (.cons (.item (.var 1) (.lit (.int 3))) (.cons (.call 74 (.cons (.var 2) (.cons (.item (.var 1) (.lit (.int 2))) .nil))) (.cons (.var 3) (.cons (.var 4) .nil)))))))
 (.cons (.ret (.tup (.cons (.var 5) (.cons (.tup (.cons (.lit (.str [100,101,114,101,102])) (.cons (.var 1) (.cons (.var 6) .nil)))) .nil)))) .nil)) .nil)
 (.cons (.iff (.cmp .eq (.var 1) (.tup (.cons (.lit (.str [98,111,111,108])) .nil))) (.cons (.asn (.n 7) (.cmp .eq (.call 70 (.cons (.var 0) (.cons (.lit (.int 2)) .nil))) (.lit (.int 0))))
 (.cons (.ret (.tup (.cons (.tup (.cons (.lit (.str [108,105,116])) (.cons (.lit (.int 1)) (.cons (.var 7) .nil)))) (.cons (.tup (.cons (.lit (.str [99,111,110,115,116])) (.cons (.var 1) (.cons (.var 7) .nil)))) .nil)))) .nil)) .nil)
 (.cons (.iff (.cmp .eq (.var 1) (.tup (.cons (.lit (.str [105,110,116])) (.cons (.lit (.str [117,56])) .nil)))) (.cons (.ret (.call 71 (.cons (.var 0) (.cons (.vlist (.cons (.tup (.cons (.tup (.cons (.lit (.str [108,105,116])) (.cons (.lit (.int 1)) (.cons (.lit (.int 9)) .nil)))) (.cons (.tup (.cons (.lit (.str [99,111,110,115,116])) (.cons (.var 1) (.cons (.lit (.int 9)) .nil)))) .nil))) (.cons (.tup (.cons (.tup (.cons (.lit (.str [114,97,110,103,101])) (.cons (.lit (.int 1)) (.cons (.lit (.int 3)) (.cons (.lit (.int 200)) .nil))))) (.cons (.tup (.cons (.lit (.str [114,97,110,103,101])) (.cons (.var 1) (.cons (.lit (.int 3)) (.cons (.lit (.int 200)) .nil))))) .nil))) (.cons (.tup (.cons (.tup (.cons (.lit (.str [110,97,109,101])) (.cons (.lit (.int 1)) (.cons (.lit (.str [75])) (.cons (.lit (.bool false)) (.cons (.lit (.bool false)) (.cons (.lit .none) .nil))))))) (.cons (.tup (.cons (.lit (.str [99,111,110,115,116])) (.cons (.var 1) (.cons (.lit (.int 7)) .nil)))) .nil))) .nil)))) .nil)))) .nil) .nil)
 (.cons (.iff (.cmp .eq (.item (.var 1) (.lit (.int 0))) (.lit (.str [116,117,112,108,101]))) (.cons (.asn (.n 8) (.comp (.call 79 (.cons (.var 0) (.cons (.var 9) (.cons (.var 2) (.cons (.var 3) (.cons (.bin .sub (.var 4) (.lit (.int 1))) .nil)))))) (.n 9) (.item (.var 1) (.lit (.int 1)))))
 (.cons (.ret (.tup (.cons (.tup (.cons (.lit (.str [116,117,112,108,101])) (.cons (.lit (.int 1)) (.cons (.bi .tuple (.cons (.comp (.var 10) (.p [10,11]) (.var 8)) .nil)) .nil)))) (.cons (.tup (.cons (.lit (.str [102,105,101,108,100,115])) (.cons (.var 1) (.cons (.bi .tuple (.cons (.comp (.var 13) (.p [12,13]) (.var 8)) .nil)) .nil)))) .nil)))) .nil)) .nil)
 (.cons (.ret (.call 81 (.cons (.var 0) (.cons (.var 1) (.cons (.var 2) (.cons (.var 3) (.cons (.var 4) .nil))))))) .nil))))) }
def Z81:FnI:={ addr:=988,np:=5,dfl:=[],nv:=12,body :=
 (.cons (.asn (.n 5) (.tup (.cons (.lit (.str [105,110,116])) (.cons (.lit (.str [117,56])) .nil))))
 (.cons (.iff (.cmp .eq (.item (.var 1) (.lit (.int 1))) (.lit (.str [83]))) (.cons (.asn (.p [6,7]) (.tup (.cons (.cmp .eq (.call 70 (.cons (.var 0) (.cons (.lit (.int 2)) .nil))) (.lit (.int 0))) (.cons (.tup (.cons (.tup (.cons (.lit (.str [83])) (.cons (.tup .nil) (.cons (.tup .nil) .nil)))) .nil)) .nil))))
 (.cons (.asn (.p [8,9]) (.call 79 (.cons (.var 0) (.cons (.tup (.cons (.lit (.str [98,111,111,108])) .nil)) (.cons (.var 2) (.cons (.var 3) (.cons (.bin .sub (.var 4) (.lit (.int 1))) .nil)))))))
 (.cons (.iff (.var 6) (.cons (.ret (.tup (.cons (.tup (.cons (.lit (.str [102,105,101,108,100,115])) (.cons (.lit (.int 1)) (.cons (.var 7) (.cons (.tup (.cons (.tup (.cons (.lit (.str [97])) (.cons (.var 8) .nil))) .nil)) (.cons (.lit (.bool true)) .nil)))))) (.cons (.tup (.cons (.lit (.str [102,105,101,108,100,115])) (.cons (.var 1) (.cons (.tup (.cons (.var 9) (.cons (.tup (.cons (.lit (.str [119,105,108,100])) (.cons (.var 5) .nil))) .nil))) .nil)))) .nil)))) .nil) .nil)
 (.cons (.asn (.p [10,11]) (.call 79 (.cons (.var 0) (.cons (.var 5) (.cons (.var 2) (.cons (.var 3) (.cons (.bin .sub (.var 4) (.lit (.int 1))) .nil)))))))
 (.cons (.ret (.tup (.cons (.tup (.cons (.lit (.str [102,105,101,108,100,115])) (.cons (.lit (.int 1)) (.cons (.var 7) (.cons (.tup (.cons (.tup (.cons (.lit (.str [97])) (.cons (.var 8) .nil))) (.cons (.tup (.cons (.lit (.str [98])) (.cons (.var 10) .nil))) .nil))) (.cons (.lit (.bool false)) .nil)))))) (.cons (.tup (.cons (.lit (.str [102,105,101,108,100,115])) (.cons (.var 1) (.cons (.tup (.cons (.var 9) (.cons (.var 11) .nil))) .nil)))) .nil)))) .nil))))) .nil)
 (.cons (.iff (.cmp .eq (.call 70 (.cons (.var 0) (.cons (.lit (.int 3)) .nil))) (.lit (.int 0))) (.cons (.ret (.tup (.cons (.tup (.cons (.lit (.str [110,97,109,101])) (.cons (.lit (.int 1)) (.cons (.lit (.str [80])) (.cons (.lit (.bool false)) (.cons (.lit (.bool false)) (.cons (.lit .none) .nil))))))) (.cons (.tup (.cons (.lit (.str [118,97,114,105,97,110,116])) (.cons (.var 1) (.cons (.lit (.int 0)) (.cons (.tup .nil) .nil))))) .nil)))) .nil) .nil)
 (.cons (.asn (.p [8,9]) (.call 79 (.cons (.var 0) (.cons (.item (.item (.var 1) (.lit (.int 3))) (.lit (.int 0))) (.cons (.var 2) (.cons (.var 3) (.cons (.bin .sub (.var 4) (.lit (.int 1))) .nil)))))))
 (.cons (.asn (.p [10,11]) (.call 79 (.cons (.var 0) (.cons (.var 5) (.cons (.var 2) (.cons (.var 3) (.cons (.bin .sub (.var 4) (.lit (.int 1))) .nil)))))))
 (.cons (.ret (.tup (.cons (.tup (.cons (.lit (.str [118,97,114,105,97,110,116])) (.cons (.lit (.int 1)) (.cons (.tup (.cons (.tup (.cons (.lit (.str [69])) (.cons (.tup .nil) (.cons (.tup .nil) .nil)))) (.cons (.tup (.cons (.lit (.str [81])) (.cons (.tup .nil) (.cons (.tup .nil) .nil)))) .nil))) (.cons (.tup (.cons (.var 8) (.cons (.var 10) .nil))) .nil))))) (.cons (.tup (.cons (.lit (.str [118,97,114,105,97,110,116])) (.cons (.var 1) (.cons (.lit (.int 1)) (.cons (.tup (.cons (.var 9) (.cons (.var 11) .nil))) .nil))))) .nil)))) .nil)))))) }
def Z82:FnI:={ addr:=995,np:=0,dfl:=[],nv:=9,body :=
 (.cons (.asn (.p [0,1]) (.tup (.cons (.tup (.cons (.lit (.str [105,110,116])) (.cons (.lit (.str [117,56])) .nil))) (.cons (.tup (.cons (.lit (.str [119,105,108,100])) (.cons (.lit (.int 1)) .nil))) .nil))))
 (.cons (.asn (.n 2) (.tup (.cons (.lit (.str [116,117,112,108,101])) (.cons (.tup (.cons (.var 0) (.cons (.var 0) .nil))) .nil))))
 (.cons (.asn (.p [3,4,5]) (.tup (.cons (.tup (.cons (.lit (.str [110,97,109,101])) (.cons (.lit (.int 1)) (.cons (.lit (.str [120])) (.cons (.lit (.bool false)) (.cons (.lit (.bool false)) (.cons (.lit .none) .nil))))))) (.cons (.tup (.cons (.lit (.str [110,97,109,101])) (.cons (.lit (.int 1)) (.cons (.lit (.str [121])) (.cons (.lit (.bool true)) (.cons (.lit (.bool false)) (.cons (.lit .none) .nil))))))) (.cons (.tup (.cons (.tup (.cons (.lit (.str [83])) (.cons (.tup .nil) (.cons (.tup .nil) .nil)))) .nil)) .nil)))))
 (.cons (.asn (.n 6) (.vlist (.cons (.tup (.cons (.tup (.cons (.lit (.str [116,117,112,108,101])) (.cons (.lit (.int 1)) (.cons (.tup (.cons (.var 3) (.cons (.var 3) .nil))) .nil)))) (.cons (.var 2) .nil))) (.cons (.tup (.cons (.tup (.cons (.lit (.str [116,117,112,108,101])) (.cons (.lit (.int 1)) (.cons (.tup (.cons (.var 4) (.cons (.var 1) .nil))) .nil)))) (.cons (.tup (.cons (.lit (.str [114,101,102])) (.cons (.lit .none) (.cons (.lit (.bool true)) (.cons (.var 2) .nil))))) .nil))) .nil))))
 (.cons (.asn (.n 6) (.bin .addm (.var 6) (.vlist (.cons (.tup (.cons (.tup (.cons (.lit (.str [116,117,112,108,101])) (.cons (.lit (.int 1)) (.cons (.tup (.cons (.var 1) .nil)) .nil)))) (.cons (.var 2) .nil))) (.cons (.tup (.cons (.tup (.cons (.lit (.str [114,97,110,103,101])) (.cons (.lit (.int 1)) (.cons (.lit (.int 9)) (.cons (.lit (.int 8)) .nil))))) (.cons (.var 0) .nil))) .nil)))))
 (.cons (.ex (.bm .append (.var 6) (.cons (.tup (.cons (.tup (.cons (.lit (.str [114,101,102])) (.cons (.lit (.int 1)) (.cons (.lit (.bool true)) (.cons (.var 1) .nil))))) (.cons (.tup (.cons (.lit (.str [114,101,102])) (.cons (.lit .none) (.cons (.lit (.bool false)) (.cons (.var 0) .nil))))) .nil))) .nil)))
 (.cons (.asn (.p [7,8]) (.tup (.cons (.tup (.cons (.lit (.str [97,100,116])) (.cons (.lit (.str [83])) (.cons (.tup .nil) (.cons (.tup .nil) .nil))))) (.cons (.tup (.cons (.lit (.str [111,114])) (.cons (.lit (.int 1)) (.cons (.tup (.cons (.var 3) (.cons (.var 1) .nil))) .nil)))) .nil))))
 (.cons (.asn (.n 6) (.bin .addm (.var 6) (.vlist (.cons (.tup (.cons (.tup (.cons (.lit (.str [102,105,101,108,100,115])) (.cons (.lit (.int 1)) (.cons (.var 5) (.cons (.tup (.cons (.tup (.cons (.lit (.str [97])) (.cons (.var 1) .nil))) .nil)) (.cons (.lit (.bool false)) .nil)))))) (.cons (.var 7) .nil))) (.cons (.tup (.cons (.var 8) (.cons (.var 0) .nil))) .nil)))))
 (.cons (.ex (.bm .append (.var 6) (.cons (.tup (.cons (.tup (.cons (.lit (.str [102,105,101,108,100,115])) (.cons (.lit (.int 1)) (.cons (.var 5) (.cons (.tup (.cons (.tup (.cons (.lit (.str [99])) (.cons (.var 1) .nil))) .nil)) (.cons (.lit (.bool true)) .nil)))))) (.cons (.var 7) .nil))) .nil)))
 (.cons (.ex (.bm .append (.var 6) (.cons (.tup (.cons (.tup (.cons (.lit (.str [102,105,101,108,100,115])) (.cons (.lit (.int 1)) (.cons (.var 5) (.cons (.tup (.cons (.tup (.cons (.lit (.str [97])) (.cons (.var 1) .nil))) (.cons (.tup (.cons (.lit (.str [97])) (.cons (.var 1) .nil))) .nil))) (.cons (.lit (.bool true)) .nil)))))) (.cons (.var 7) .nil))) .nil)))
 (.cons (.ex (.bm .append (.var 6) (.cons (.tup (.cons (.tup (.cons (.lit (.str [118,97,114,105,97,110,116])) (.cons (.lit (.int 1)) (.cons (.tup (.cons (.tup (.cons (.lit (.str [69])) (.cons (.tup .nil) (.cons (.tup .nil) .nil)))) (.cons (.tup (.cons (.lit (.str [81])) (.cons (.tup .nil) (.cons (.tup .nil) .nil)))) .nil))) (.cons (.tup (.cons (.var 1) .nil)) .nil))))) (.cons (.tup (.cons (.lit (.str [97,100,116])) (.cons (.lit (.str [69])) (.cons (.tup .nil) (.cons (.tup (.cons (.var 0) .nil)) .nil))))) .nil))) .nil)))
 (.cons (.ret (.var 6)) .nil)))))))))))) }
def Z83:FnI:={ addr:=1002,np:=2,dfl:=[],nv:=2,body :=
 (.cons (.try (.cons (.ex (.call 26 (.cons (.call 72 .nil) (.cons (.var 0) (.cons (.var 1) (.cons (.lit (.str [109,111,118,101])) .nil)))))) .nil) 4 (.ret (.bool true)))
 (.cons .stuck .nil)) }
def Z84:FnI:={ addr:=1007,np:=1,dfl:=[],nv:=10,body :=
 (.cons (.asn (.n 1) (.call 69 (.cons (.var 0) (.cons (.mlist (.cons (.lit (.int 5)) (.cons (.lit (.int 6)) (.cons (.lit (.int 3)) (.cons (.lit (.int 0)) (.cons (.lit (.int 5)) (.cons (.lit (.int 1)) (.cons (.lit (.int 2)) (.cons (.lit (.int 1)) (.cons (.lit (.int 2)) (.cons (.lit (.int 0)) .nil))))))))))) .nil))))
 (.cons (.asn (.p [2,3,4]) (.tup (.cons (.call 73 (.cons (.var 1) (.cons (.lit (.int 3)) .nil))) (.cons (.mlist .nil) (.cons (.call 72 .nil) .nil)))))
 (.cons (.asn (.p [5,6]) (.call 79 (.cons (.var 1) (.cons (.var 2) (.cons (.lit (.str [109,111,118,101])) (.cons (.var 3) (.cons (.lit (.int 3)) .nil)))))))
 (.cons (.iff (.andor false (.cons (.cmp .ne (.call 26 (.cons (.var 4) (.cons (.var 5) (.cons (.var 2) (.cons (.lit (.str [109,111,118,101])) .nil))))) (.var 6)) (.cons (.cmp .ne (.comp (.bi .list (.cons (.var 9) .nil)) (.n 9) (.attr (.var 4) 39)) (.var 3)) .nil))) (.cons .stuck .nil) .nil)
 (.cons (.asn (.p [7,8]) (.call 71 (.cons (.var 1) (.cons (.fresh 82 .nil) .nil))))
 (.cons (.ret (.fresh 83 (.cons (.var 7) (.cons (.var 8) .nil)))) .nil)))))) }
def clsT:List ClsI:=[
 { addr:=39,init:=0,meths:=[],isExc:=true },
 { addr:=52,init:=0,meths:=[],isExc:=true },
 { addr:=64,init:=0,meths:=[],isExc:=true },
 { addr:=76,init:=0,meths:=[],isExc:=true },
 { addr:=88,init:=0,meths:=[],isExc:=true },
 { addr:=270,init:=7,meths:=[(19,8),(11,9),(7,10),(17,11),(16,12),(18,13),(8,14),(9,15),(12,16),(13,17),(14,18),(23,19),(15,20),(26,21),(27,22)],isExc:=false },
 { addr:=381,init:=27,meths:=[(45,28),(30,29),(10,30),(31,31),(32,32),(33,33),(21,34)],isExc:=false },
 { addr:=637,init:=35,meths:=[(45,36),(10,37),(21,38),(46,39),(22,40),(49,41),(24,42),(50,43),(20,44),(48,45)],isExc:=false },
 { addr:=693,init:=50,meths:=[],isExc:=false },
 { addr:=726,init:=51,meths:=[(61,52),(71,53)],isExc:=false },
 { addr:=845,init:=54,meths:=[(67,55),(22,56),(69,57),(70,58),(68,59),(76,60),(51,61),(72,62),(73,63),(74,64),(75,65),(77,66)],isExc:=false },
 { addr:=868,init:=67,meths:=[],isExc:=false },
 { addr:=897,init:=68,meths:=[],isExc:=false }]
def fnT:List FnI:=[Z0,Z1,Z2,Z3,Z4,Z5,Z6,Z7,Z8,Z9,Z10,Z11,Z12,Z13,Z14,Z15,Z16,Z17,Z18,Z19,Z20,Z21,Z22,Z23,Z24,Z25,Z26,Z27,Z28,Z29,Z30,Z31,Z32,Z33,Z34,Z35,Z36,Z37,Z38,Z39,Z40,Z41,Z42,Z43,Z44,Z45,Z46,Z47,Z48,Z49,Z50,Z51,Z52,Z53,Z54,Z55,Z56,Z57,Z58,Z59,Z60,Z61,Z62,Z63,Z64,Z65,Z66,Z67,Z68,Z69,Z70,Z71,Z72,Z73,Z74,Z75,Z76,Z77,Z78,Z79,Z80,Z81,Z82,Z83,Z84]
def tab:Tab:=⟨clsT,fnT⟩
def u (s:String):List Nat:=(PySem.Str.ofString s).cps.toList
def attrN:List (List Nat):=[[97,100,116,115],[118,97,114,105,97,110,116,115],[112,97,114,97,109,115],[114,101,103,105,111,110,115],[99,104,101,99,107,101,114],[107,110,111,119,110],[104,101,114,101],[114,101,97,100,95,110,97,109,101],[114,101,97,100,95,111,114],[114,101,97,100,95,114,101,102],[114,101,115,111,108,118,101,100],[114,101,97,100],[108,105,116,101,114,97,108,95,116,121,112,101],[114,101,97,100,95,114,97,110,103,101],[114,101,97,100,95,116,117,112,108,101],[114,101,97,100,95,118,97,114,105,97,110,116],[114,101,97,100,95,116,111,108,100],[119,97,121,95,111,102],[98,111,117,110,100],[102,97,117,108,116],[118,97,108,117,101,95,112,97,116,104],[117,110,105,102,121],[100,101,99,108,97,114,101],[114,101,97,100,95,112,97,114,116,115],[118,97,114,105,97,110,116,95,111,102],[119,111,114,108,100],[98,121,95,112,108,97,99,101,115],[98,121,95,110,97,109,101,115],[105,115,95,101,110,117,109],[105,115,95,110,117,109,98,101,114],[115,104,97,108,108,111,119],[111,99,99,117,114,115],[98,105,110,100],[97,114,101,95,97,108,105,107,101],[109,111,100,117,108,101],[115,101,108,102,95,116,121,112,101],[98,111,117,110,100,115],[114,101,97,100,101,114],[105,110,102,101,114],[108,111,99,97,108,115],[115,99,111,112,101,115],[108,111,111,112,115],[109,97,110,121,95,108,111,111,112,115],[111,119,101,100],[114,101,115,117,108,116],[102,114,101,115,104],[110,101,119,95,108,111,99,97,108],[116,121,112,101,120],[118,97,114,105,97,110,116,95,112,97,116,104],[97,100,116,95,116,121,112,101],[116,121,112,101,115,95,116,111,108,100],[102,105,110,100],[109,111,100,117,108,101,115],[99,111,110,115,116,115],[115,116,97,114,116,115,119,105,116,104],[110,97,109,101,115],[105,115,95,112,117,98],[115,112,111,116],[116,121,112,101,115],[118,97,108,117,101,115],[117,115,101,115],[115,112,97,99,101],[107,105,110,100,115],[112,117,98,108,105,99,115],[116,97,98,108,101,115],[103,101,110,101,114,105,99,115],[105,116,101,109,115],[101,110,116,101,114],[101,110,116,101,114,95,117,115,101],[100,101,99,108,97,114,101,95,116,121,112,101],[101,110,116,101,114,95,118,97,114,105,97,110,116,115],[105,115,95,116,97,107,101,110],[119,97,108,107],[98,101,103,105,110],[115,116,101,112],[108,111,111,107],[99,97,110,95,115,101,101],[102,111,108,108,111,119],[112,97,116,104],[115,105,103,115],[116,114,97,105,116,115],[105,109,112,108,115],[98,111,100,105,101,115]]
def dataN:List Nat:=[0,1,2,3,4,5,6,25,28,29,34,35,36,37,38,39,40,41,42,43,44,52,53,55,56,57,58,59,60,62,63,64,65,66,78,79,80,81,82]
def varN:List (List (List Nat)):=[
 [u "told",u "kind"],
 [u "told",u "parts",u "kind"],
 [u "told",u "table",u "part"],
 [u "told",u "change",u "part"],
 [u "told"],
 [u "told",u "variant",u "world"],
 [u "told",u "variant",u "world",u "adt",u "types",u "regions",u "put_in",u "name",u "part"],
 [u "self",u "checker"],
 [u "self",u "message",u "spot"],
 [u "self",u "pattern",u "t",u "mode",u "kind",u "spot",u "here"],
 [u "self",u "pattern",u "t",u "mode",u "word",u "spot",u "name",u "is_ref",u "is_mut",u "inner",u "told",u "way",u "held",u "local",u "behind"],
 [u "self",u "is_ref",u "is_mut",u "mode",u "spot"],
 [u "self",u "name",u "spot",u "t",u "mode",u "told"],
 [u "self",u "name",u "t",u "is_mut",u "way",u "spot",u "local",u "held",u "other",u "other_mut"],
 [u "self",u "pattern",u "t",u "mode",u "known",u "here",u "parts",u "first",u "part"],
 [u "self",u "pattern",u "t",u "word",u "spot",u "is_mut",u "inner",u "here"],
 [u "self",u "value",u "t",u "spot"],
 [u "self",u "pattern",u "t",u "word",u "spot",u "low",u "high",u "told"],
 [u "self",u "pattern",u "t",u "mode",u "parts",u "told"],
 [u "self",u "parts",u "types",u "mode",u "part",u "t"],
 [u "self",u "pattern",u "t",u "mode",u "kind",u "spot",u "told",u "number",u "own",u "world",u "adt",u "form",u "fields",u "types",u "parts",u "read",u "field"],
 [u "self",u "pattern",u "form",u "fields"],
 [u "self",u "pattern",u "fields",u "word",u "spot",u "path",u "told",u "has_rest",u "found",u "name",u "part",u "parts",u "t"],
 [u "known",u "first",u "found"],
 [u "mode",u "is_mut"],
 [u "checker",u "t",u "here"],
 [u "checker",u "pattern",u "t",u "mode"],
 [u "self"],
 [u "self"],
 [u "self",u "told"],
 [u "self",u "told",u "part"],
 [u "self",u "unknown",u "told",u "left",u "here"],
 [u "self",u "unknown",u "told"],
 [u "self",u "one",u "other"],
 [u "self",u "one",u "other",u "left",u "here",u "there",u "told"],
 [u "self",u "world",u "module",u "self_type",u "bounds",u "reader"],
 [u "self"],
 [u "self",u "told"],
 [u "self",u "one",u "other",u "spot"],
 [u "self",u "name",u "told",u "is_mut"],
 [u "self",u "name",u "told",u "is_mut",u "spot",u "number"],
 [u "self",u "path",u "told",u "adt",u "types",u "written",u "name"],
 [u "self",u "spot",u "spath",u "path",u "owner",u "number"],
 [u "self",u "owner",u "spath",u "told"],
 [u "self",u "spath",u "spot",u "path",u "owner",u "number",u "kind",u "told",u "made",u "module"],
 [u "self",u "spot",u "names",u "space",u "path"],
 [u "spath",u "name",u "regions",u "types"],
 [u "made"],
 [u "module",u "name"],
 [u "module",u "owner"],
 [u "self",u "names",u "is_pub",u "spot"],
 [u "self"],
 [u "self",u "space"],
 [u "self",u "name",u "spaces",u "space"],
 [u "self",u "items",u "left",u "module",u "inner",u "item"],
 [u "self",u "module",u "item",u "kind",u "spot",u "spaces"],
 [u "self",u "module",u "name",u "kind",u "spaces",u "is_pub",u "spot",u "table",u "path",u "space"],
 [u "self",u "module",u "item",u "spaces",u "is_pub",u "path",u "regions",u "params",u "row"],
 [u "self",u "path",u "item",u "row"],
 [u "self",u "module",u "item",u "spot",u "names",u "alias",u "is_pub",u "name",u "table"],
 [u "self",u "asker",u "owner",u "is_pub"],
 [u "self",u "module",u "names",u "space",u "spot"],
 [u "self",u "module",u "names",u "space",u "spot",u "seen",u "here",u "at",u "wanted",u "found"],
 [u "self",u "module",u "names",u "spot",u "here",u "at"],
 [u "self",u "module",u "here",u "name",u "space",u "spot",u "seen",u "found"],
 [u "self",u "asker",u "owner",u "name",u "space",u "spot",u "seen",u "path",u "table",u "use"],
 [u "self",u "owner",u "name",u "use",u "space",u "seen"],
 [u "self",u "path",u "regions",u "params",u "variants",u "is_enum",u "module",u "publics"],
 [u "self",u "modules"],
 [u "script",u "row",u "cell",u "big",u "mixed"],
 [u "source",u "top",u "drawn"],
 [u "source",u "things"],
 [u "byte",u "none",u "rows",u "items",u "world"],
 [u "source",u "deep",u "way",u "inner"],
 [u "mode",u "is_mut"],
 [u "t",u "typed"],
 [u "t"],
 [u "source",u "t",u "mode",u "rows",u "is_mut",u "is_ref",u "way",u "name"],
 [u "source",u "t",u "mode",u "rows",u "byte",u "some",u "parts",u "typed",u "name",u "local",u "way",u "value",u "value",u "part",u "part"],
 [u "source",u "t",u "mode",u "rows",u "deep",u "way",u "name",u "local",u "bound",u "inner",u "typed"],
 [u "source",u "t",u "mode",u "rows",u "deep",u "inner",u "typed",u "value",u "told",u "one",u "one",u "typed",u "one",u "typed"],
 [u "source",u "t",u "mode",u "rows",u "deep",u "byte",u "has_rest",u "path",u "a",u "first",u "b",u "other"],
 [u "byte",u "wild",u "pair",u "name",u "plain_here",u "path",u "found",u "s",u "odd"],
 [u "pattern",u "t"],
 [u "script",u "source",u "t",u "rows",u "checker",u "pattern",u "typed",u "odd",u "held",u "row"]]
end Mine
end
section
set_option maxRecDepth 100000
open PySem PySem.Spec PySem.Calls PyProof.Rows PySem.W
namespace Mine
abbrev Nu:=List (Nat×Option Nat)
def nad (ν:Nu):List Nat:=ν.flatMap fun p=>p.1::p.2.toList
structure Io where
 nums:Nu
 hid:List Nat
def adr (ι:Io):List Nat:=nad ι.nums++ι.hid
abbrev Io.add (ι:Io)(p:Nat×Option Nat):Io:=⟨ι.nums++[p],ι.hid⟩
abbrev Io.hide (ι:Io)(a:Nat):Io:=⟨ι.nums,a::ι.hid⟩
mutual
inductive VR (ι:Io) (h:Heap):Value→D→Prop
 |none:VR ι h .none .none
 |bool (b:Bool):VR ι h (.bool b) (.bool b)
 |int (i:Int) (t:Tok):VR ι h (.int i t) (.int i)
 |str (x:Str) (t:Tok):VR ι h (.str x t) (.str x.cps.toList)
 |tup {a:Addr} {vs:List Value} {ds:List D}:IsTup h a vs.toArray→a∉adr ι→VRs ι h vs ds→VR ι h (.ref a) (.tup ds)
 |lst {a:Addr} {vs:List Value} {ds:List D}:h.IsList a vs.toArray→a∉adr ι→VRs ι h vs ds→VR ι h (.ref a) (.lst ds)
 |loc {l:Nat} {p:Nat×Option Nat}:ι.nums[l]? = some p→VR ι h (.ref p.1) (.loc l)
 |opq {a:Addr}:VR ι h (.ref a) .opq
inductive VRs (ι:Io) (h:Heap):List Value→List D→Prop
 |nil:VRs ι h [] []
 |cons {v:Value} {vs:List Value} {d:D} {ds:List D}:VR ι h v d→VRs ι h vs ds→VRs ι h (v::vs) (d::ds)
end
abbrev tupObj (vs:List Value)(n:Nat):Obj:={ cls:=.type "tuple",data:=.seq vs.toArray n }
abbrev lstObj (vs:List Value)(n:Nat):Obj:={ cls:=.type "list",data:=.seq vs.toArray n }
def toS (s:List Nat):Str:=⟨s.toArray⟩
theorem toS_cps (x:Str):toS x.cps.toList=x:=by cases x;simp [toS]
theorem cps_toS (s:List Nat):(toS s).cps.toList=s:=by simp [toS]
theorem toS_inj {a b:List Nat}(h:toS a=toS b):a=b:=by
 have:=congrArg (fun x:Str=>x.cps.toList) h
 simpa [toS] using this
def tabA:Nat:=151
def codA:Nat:=153
def defN:Str := "put_in"
def nameOf (a:Nat):Str:=toS (attrN.getD a [])
inductive Flds (P:Params) (ι:Io) (h:Heap):List DictEntry→List (Nat×D)→Prop
 |nil:Flds P ι h [] []
 |cons {v:Value} {a:Nat} {d:D} {t:Tok} {es:List DictEntry} {fs:List (Nat×D)}:VR ι h v d→a∈dataN→Flds P ι h es fs→Flds P ι h (⟨PyData.keyHash P (nameOf a),.str (nameOf a) t,v⟩::es) ((a,d)::fs)
inductive Ents (ι:Io) (h:Heap):List (Str×Value)→List (List Nat×D)→Prop
 |nil:Ents ι h [] []
 |cons {k:List Nat} {v:Value} {d:D} {es:List (Str×Value)} {kvs:List (List Nat×D)}:VR ι h v d→Ents ι h es kvs→Ents ι h ((toS k,v)::es) ((k,d)::kvs)
section
variable (prog:Program)(w:World)
inductive ObjR (ι:Io) (h:Heap):Nat×Option Nat→AO→Prop
 |list {a:Addr} {vs:List Value} {n:Nat} {ds:List D}:h.get? a=some (lstObj vs n)→VRs ι h vs ds→ObjR ι h (a,Option.none) (.list ds)
 |dict {a:Addr} {es:List (Str×Value)} {kvs:List (List Nat×D)}:h.DictOf (strKind prog w) a es→Ents ι h es kvs→ObjR ι h (a,Option.none) (.dict kvs)
 |inst {a dx:Addr} {c:Nat} {ci:ClsI} {es:List DictEntry} {n:Nat} {fs:List (Nat×D)}:clsT[c]? = some ci→ci.isExc=false→h.get? a=some (instObj ci.addr dx)→h.get? dx=some (dictOf es n)→Flds w.params ι h es fs→ObjR ι h (a,some dx) (.inst c fs)
 |tab {ps:Array Value}:h.get? tabA=some (tabObj ps)→TriplesOk ps.toList→ObjR ι h (tabA,Option.none) .tab
structure HR (base:Heap)(ι:Io)(σ:Hp)(h:Heap):Prop where
 stay:base.StaysIn h
 len:ι.nums.length=σ.length
 obj:∀(l:Nat) (o:AO),σ[l]? = some o→∃p,ι.nums[l]? = some p∧ObjR prog w ι h p o
 nd:(nad ι.nums).Nodup
 off:∀a∈adr ι,base.get? a=none
 hids:∀a∈ι.hid,a∉nad ι.nums∧∃o,h.get? a=some o
 sys:∃o,base.get? mainGlobals=some o
 low:∀a∈nad ι.nums,sysModules < a
end
theorem dead {h h':Heap}(l:∀b o,h.get? b=some o→∃o',h'.get? b=some o'){a:Nat}(z:h'.get? a=none):h.get? a=none:=by
 cases e:h.get? a with
 |none=>rfl
 |some o =>
  obtain ⟨o',e'⟩:=l a o e
  rw [z] at e'
  cases e'
theorem live_but {h h':Heap}{e:Nat}(he:∃o',h'.get? e=some o')(k:∀b o,b≠e→h.get? b=some o→h'.get? b=some o):∀b o,h.get? b=some o→∃o',h'.get? b=some o':=fun b o q=>by
 by_cases z:b=e
 ·rw [z];exact he
 ·exact ⟨o,k b o z q⟩
structure Ext (FL own:List Nat)(ι ι':Io)(h h':Heap):Prop where
 pre:ι.nums <+: ι'.nums
 same:ι'.hid=ι.hid
 live:∀b o,h.get? b=some o→∃o',h'.get? b=some o'
 new:∀a∈nad ι'.nums,a∈nad ι.nums∨h.get? a=none
 keep:∀b o,h.get? b=some o→b∉nad ι.nums→b∉FL→b∉own→h'.get? b=some o
 slot:∀b o,h.get? b=some o→b∈FL→b∉own→∃sl,h'.get? b=some { o with slots:=sl }
theorem Ext.refl (FL own:List Nat)(ι:Io)(h:Heap):Ext FL own ι ι h h :=
 ⟨List.prefix_refl _,rfl,fun _ o e=>⟨o,e⟩,fun _ h=>.inl h,fun _ _ e _ _ _=>e,fun _ o e _ _=>⟨o.slots,e⟩⟩
theorem Ext.trans {FL own:List Nat}{ι₁ ι₂ ι₃:Io}{h₁ h₂ h₃:Heap}(x:Ext FL own ι₁ ι₂ h₁ h₂)(y:Ext FL own ι₂ ι₃ h₂ h₃):Ext FL own ι₁ ι₃ h₁ h₃ where
 pre:=x.pre.trans y.pre
 same:=y.same.trans x.same
 live:=fun b o e=>let ⟨o',e'⟩:=x.live b o e;y.live b o' e'
 new:=fun a ha=>(y.new a ha).elim (x.new a) fun z=>.inr (dead x.live z)
 keep:=fun b o e h1 h2 h3=>y.keep b o (x.keep b o e h1 h2 h3) (fun q=>(x.new b q).elim h1 fun z=>by rw [z] at e;cases e) h2 h3
 slot:=fun b o e h1 h2=>by
  obtain ⟨sl,e1⟩:=x.slot b o e h1 h2
  obtain ⟨sl',e2⟩:=y.slot b _ e1 h1 h2
  exact ⟨sl',e2⟩
def Soft (h:Heap)(l:List Nat):Prop:=∀b∈l,∀o,h.get? b=some o→∀xs n,o.data≠.seq xs n
section
variable {prog:Program}{w:World}{base h h':Heap}{ι ι':Io}{σ:Hp}{FL own:List Nat}
theorem adr_nad {a:Nat}(h:a∈nad ι.nums):a∈adr ι:=List.mem_append_left _ h
theorem Ext.newA (E:Ext FL own ι ι' h h'):∀a∈adr ι',a∈adr ι∨h.get? a=none:=fun a ha=>by
 rcases List.mem_append.mp ha with q|q
 ·exact (E.new a q).imp adr_nad id
 ·exact .inl (List.mem_append_right _ (E.same▸q))
theorem nad_mem {ν:Nu}{p:Nat×Option Nat}{l:Nat}(e:ν[l]? = some p):p.1∈nad ν∧∀d,p.2=some d→d∈nad ν:=by
 have hm:=List.mem_of_getElem? e
 refine ⟨List.mem_flatMap.mpr ⟨p,hm,by simp⟩,fun d hd=>List.mem_flatMap.mpr ⟨p,hm,by simp [hd]⟩⟩
theorem objR_cls {p:Nat×Option Nat}{o:AO}(r:ObjR prog w ι h p o):∀b,b=p.1∨p.2=some b→∃ob,h.get? b=some ob∧(∀vs,ob.data=.fields vs→ob.cls=.none)∧ob.isFreed=false:=by
 intro b hb
 cases r with
 |list e _ =>
  rcases hb with rfl|q
  ·exact ⟨_,e,(fun vs q=>by cases q),rfl⟩
  ·cases q
 |dict e _ =>
  rcases hb with rfl|q
  ·obtain ⟨ob,es,ep,e1,⟨e2,_,_⟩,e3,_⟩:=e
   exact ⟨ob,e1,(fun vs q=>by rw [e3] at q;cases q),Obj.isFreed_of_dict e3⟩
  ·cases q
 |inst _ _ e1 e2 _ =>
  rcases hb with rfl|q
  ·exact ⟨_,e1,(fun vs q=>by cases q),rfl⟩
  ·cases q
   exact ⟨_,e2,(fun vs q=>by cases q),rfl⟩
 |tab e _ =>
  rcases hb with rfl|q
  ·exact ⟨_,e,(fun vs _=>rfl),rfl⟩
  ·cases q
theorem HR.cls (H:HR prog w base ι σ h){b:Nat}(hb:b∈nad ι.nums):∃ob,h.get? b=some ob∧(∀vs,ob.data=.fields vs→ob.cls=.none)∧ob.isFreed=false:=by
 obtain ⟨p,hp,hm⟩:=List.mem_flatMap.mp hb
 obtain ⟨l,hl⟩:=List.getElem?_of_mem hp
 have hlt:l < σ.length:=by
  rw [←H.len]
  exact (List.getElem?_eq_some_iff.mp hl).1
 obtain ⟨p',hp',r⟩:=H.obj l _ (List.getElem?_eq_getElem hlt)
 rw [hl] at hp'
 cases hp'
 refine objR_cls r b ?_
 rcases List.mem_cons.mp hm with q|q
 ·exact .inl q
 ·exact .inr (by simpa using q)
theorem HR.alive (H:HR prog w base ι σ h){b:Nat}(hb:b∈adr ι):∃ob,h.get? b=some ob:=by
 rcases List.mem_append.mp hb with q|q
 ·obtain ⟨o,e,_⟩:=H.cls q
  exact ⟨o,e⟩
 ·exact (H.hids b q).2
structure Mo (ι ι':Io)(h h':Heap):Prop where
 pre:ι.nums <+: ι'.nums
 new:∀a∈adr ι',a∈adr ι∨∀o xs n,h.get? a=some o→o.data≠.seq xs n
 seq:∀b o xs n,h.get? b=some o→o.data=.seq xs n→b∉adr ι→h'.get? b=some o
theorem Ext.mo (E:Ext FL own ι ι' h h')(sF:Soft h FL)(sO:∀b∈own,b∈adr ι∨∀o,h.get? b=some o→∀xs n,o.data≠.seq xs n):Mo ι ι' h h' :=
 ⟨E.pre,fun a ha=>(E.newA a ha).imp id fun z o xs n e=>(by rw [z] at e;cases e),fun b o xs n e d hb=>E.keep b o e (fun q=>hb (adr_nad q)) (fun q=>sF b q o e _ _ d) (fun q=>(sO b q).elim hb fun z=>z o e _ _ d)⟩
def TOff (_:Io)(_:Heap):Prop:=True
theorem HR.toff (_:HR prog w base ι σ h):TOff ι h:=trivial
mutual
theorem VR.mono (E:Mo ι ι' h h')(hT:TOff ι h):∀{v:Value} {d:D},VR ι h v d→VR ι' h' v d
 |_,_,.none=>.none
 |_,_,.bool b=>.bool b
 |_,_,.int i t=>.int i t
 |_,_,.str x t=>.str x t
 |_,_,.tup ⟨o,e1,c,k,q⟩ n r=>.tup ⟨o,E.seq _ o _ _ e1 q n,c,k,q⟩ (fun z=>(E.new _ z).elim n fun z=>z o _ k e1 q) (VRs.mono E hT r)
 |_,_,.lst ⟨o,e1,c,k,q⟩ n r=>.lst ⟨o,E.seq _ o _ _ e1 q n,c,k,q⟩ (fun z=>(E.new _ z).elim n fun z=>z o _ k e1 q) (VRs.mono E hT r)
 |_,_,.loc e=>.loc (by
   obtain ⟨t,et⟩:=E.pre
   rw [←et,List.getElem?_append_left (List.getElem?_eq_some_iff.mp e).1];exact e)
 |_,_,.opq=>.opq
theorem VRs.mono (E:Mo ι ι' h h')(hT:TOff ι h):∀{vs:List Value} {ds:List D},VRs ι h vs ds→VRs ι' h' vs ds
 |_,_,.nil=>.nil
 |_,_,.cons a r=>.cons (VR.mono E hT a) (VRs.mono E hT r)
end
theorem Flds.mono {P:Params}{es:List DictEntry}{fs:List (Nat×D)}(E:Mo ι ι' h h')(hT:TOff ι h)(r:Flds P ι h es fs):Flds P ι' h' es fs:=by
 induction r with
 |nil=>exact .nil
 |cons v a _ ih=>exact .cons (v.mono E hT) a ih
theorem Ents.mono {es:List (Str×Value)}{kvs:List (List Nat×D)}(E:Mo ι ι' h h')(hT:TOff ι h)(r:Ents ι h es kvs):Ents ι' h' es kvs:=by
 induction r with
 |nil=>exact .nil
 |cons v _ ih=>exact .cons (v.mono E hT) ih
theorem ObjR.move {p:Nat×Option Nat}{o:AO}(r:ObjR prog w ι h p o)(E:Mo ι ι' h h')(hT:TOff ι h)(k:∀b,b=p.1∨p.2=some b→∀ob,h.get? b=some ob→h'.get? b=some ob):ObjR prog w ι' h' p o:=by
 cases r with
 |list e v=>exact .list (k _ (.inl rfl) _ e) (v.mono E hT)
 |dict e v =>
  obtain ⟨ob,es,ep,e1,r⟩:=e
  exact .dict ⟨ob,es,ep,k _ (.inl rfl) _ e1,r⟩ (v.mono E hT)
 |inst c x e1 e2 v=>exact .inst c x (k _ (.inl rfl) _ e1) (k _ (.inr rfl) _ e2) (v.mono E hT)
 |tab e v=>exact .tab (k _ (.inl rfl) _ e) v
theorem nad_append (a b:Nu):nad (a++b)=nad a++nad b:=by simp [nad,List.flatMap_append]
theorem nad_of {ν:Nu}{l:Nat}{p:Nat×Option Nat}(e:ν[l]? = some p){b:Nat}(hb:b=p.1∨p.2=some b):b∈nad ν:=by
 obtain ⟨h1,h2⟩:=nad_mem e
 rcases hb with rfl|q
 ·exact h1
 ·exact h2 b q
theorem adr_of {l:Nat}{p:Nat×Option Nat}(e:ι.nums[l]? = some p){b:Nat}(hb:b=p.1∨p.2=some b):b∈adr ι:=adr_nad (nad_of e hb)
theorem nad_one {ν:Nu}(hn:(nad ν).Nodup){l l':Nat}{p p':Nat×Option Nat}(e:ν[l]? = some p)(e':ν[l']? = some p'){b:Nat}(hb:b=p.1∨p.2=some b)(hb':b=p'.1∨p'.2=some b):l=l':=by
 induction ν generalizing l l' with
 |nil=>simp at e
 |cons q r ih =>
  have hs:nad (q::r)=(q.1::q.2.toList)++nad r:=by simp [nad]
  rw [hs] at hn
  obtain ⟨h1,h2,h3⟩:=List.nodup_append.mp hn
  have inq:∀x:Nat×Option Nat,(b=x.1∨x.2=some b)→b∈x.1::x.2.toList:=fun x hx=>by
   rcases hx with rfl|hx
   ·simp
   ·simp [hx]
  cases l with
  |zero =>
   cases l' with
   |zero=>rfl
   |succ l' =>
    simp at e e'
    subst e
    exact absurd rfl (h3 b (inq _ hb) b (nad_of e' hb'))
  |succ l =>
   cases l' with
   |zero =>
    simp at e e'
    subst e'
    exact absurd rfl (h3 b (inq _ hb') b (nad_of e hb))
   |succ l'=>exact congrArg _ (ih h2 (by simpa using e) (by simpa using e'))
theorem adr_one (H:HR prog w base ι σ h){l l':Nat}{p p':Nat×Option Nat}(e:ι.nums[l]? = some p)(e':ι.nums[l']? = some p'){b:Nat}(hb:b=p.1∨p.2=some b)(hb':b=p'.1∨p'.2=some b):l=l':=nad_one H.nd e e' hb hb'
theorem HR.upd {l:Nat}{p:Nat×Option Nat}{o o':AO}(H:HR prog w base ι σ h)(e:ι.nums[l]? = some p)(eo:σ[l]? = some o)(hs:∀b,¬(b=p.1∨p.2=some b)→h'.get? b=h.get? b)(r:ObjR prog w ι h' p o'):HR prog w base ι (σ.set l o') h' where
 stay:=fun b ob q=>by
  rw [hs b (fun z=>by have:=H.off b (adr_of e z);rw [q] at this;cases this)]
  exact H.stay b ob q
 len:=by rw [List.length_set];exact H.len
 obj:=fun l' o'' q=>by
  by_cases hl:l=l'
  ·subst hl
   rw [List.getElem?_set_self (List.getElem?_eq_some_iff.mp eo).1] at q
   cases q
   exact ⟨p,e,r⟩
  ·rw [List.getElem?_set_ne hl] at q
   obtain ⟨p',e',r'⟩:=H.obj l' o'' q
   have m:Mo ι ι h h':=⟨List.prefix_refl _,fun _ z=>.inl z,fun b ob xs n e1 _ hb=>(hs b fun z=>hb (adr_of e z)).trans e1⟩
   exact ⟨p',e',r'.move m H.toff fun b hb ob e1=>(hs b fun z=>hl (adr_one H e e' z hb)).trans e1⟩
 nd:=H.nd
 off:=H.off
 hids:=fun a ha=>let ⟨h1,o,h2⟩:=H.hids a ha;⟨h1,o,(hs a fun z=>h1 (nad_of e z)).trans h2⟩
 sys:=H.sys
 low:=H.low
theorem Mo.upd {l:Nat}{p:Nat×Option Nat}(e:ι.nums[l]? = some p)(hs:∀b,¬(b=p.1∨p.2=some b)→h'.get? b=h.get? b):Mo ι ι h h' :=
 ⟨List.prefix_refl _,fun _ z=>.inl z,fun b _ _ _ e1 _ hb=>(hs b fun z=>hb (adr_of e z)).trans e1⟩
theorem Ext.upd {l:Nat}{p:Nat×Option Nat}(e:ι.nums[l]? = some p)(hF:∀b∈FL,b∉adr ι)(hv:∀b,b=p.1∨p.2=some b→∃o,h'.get? b=some o)(hs:∀b,¬(b=p.1∨p.2=some b)→h'.get? b=h.get? b):Ext FL own ι ι h h' :=
 ⟨List.prefix_refl _,rfl,fun b o q=>if z:b=p.1∨p.2=some b then hv b z else ⟨o,(hs b z).trans q⟩,fun _ z=>.inl z,fun b _ e1 hb _ _=>(hs b fun z=>hb (nad_of e z)).trans e1,
 fun b o e1 hb _=>⟨o.slots,(hs b fun z=>hF b hb (adr_of e z)).trans e1⟩⟩
theorem Ext.more (k:∀b o,h.get? b=some o→h'.get? b=some o):Ext FL own ι ι h h' :=
 ⟨List.prefix_refl _,rfl,fun b o e=>⟨o,k b o e⟩,fun _ z=>.inl z,fun b o e _ _ _=>k b o e,fun b o e _ _=>⟨o.slots,k b o e⟩⟩
theorem Mo.more (k:∀b o,h.get? b=some o→h'.get? b=some o):Mo ι ι h h':=⟨List.prefix_refl _,fun _ z=>.inl z,fun b o _ _ e _ _=>k b o e⟩
theorem HR.more (H:HR prog w base ι σ h)(k:∀b o,h.get? b=some o→h'.get? b=some o):HR prog w base ι σ h' where
 stay:=fun b o e=>k b o (H.stay b o e)
 len:=H.len
 obj:=fun l o e=>let ⟨p,e1,r⟩:=H.obj l o e;⟨p,e1,r.move (Mo.more k) H.toff fun b _ ob q=>k b ob q⟩
 nd:=H.nd
 off:=H.off
 hids:=fun a ha=>let ⟨h1,o,h2⟩:=H.hids a ha;⟨h1,o,k a o h2⟩
 sys:=H.sys
 low:=H.low
theorem HR.allocG {p:Nat×Option Nat}{o:AO}(H:HR prog w base ι σ h)(k:∀b o,¬(b=p.1∨p.2=some b)→h.get? b=some o→h'.get? b=some o)
  (hp:∀b,b=p.1∨p.2=some b→b∉adr ι∧base.get? b=none∧mainGlobals < b∧∀o xs n,h.get? b=some o→o.data≠.seq xs n) (hd:p.2≠some p.1)
  (r:ObjR prog w (ι.add p) h' p o):HR prog w base (ι.add p) (σ++[o]) h'∧Mo ι (ι.add p) h h':=by
 have hnad:nad (ι.add p).nums=nad ι.nums++(p.1::p.2.toList):=by
  show nad (ι.nums++[p])=_
  rw [nad_append];simp [nad]
 have inp:∀b,b∈p.1::p.2.toList→(b=p.1∨p.2=some b):=fun b hb=>by
  rcases List.mem_cons.mp hb with q|q
  ·exact .inl q
  ·exact .inr (by simpa using q)
 have split:∀a∈adr (ι.add p),a∈adr ι∨(a=p.1∨p.2=some a):=fun a ha=>by
  rcases List.mem_append.mp ha with q|q
  ·rw [hnad] at q
   rcases List.mem_append.mp q with q|q
   ·exact .inl (adr_nad q)
   ·exact .inr (inp a q)
  ·exact .inl (List.mem_append_right _ q)
 have m:Mo ι (ι.add p) h h':=⟨List.prefix_append ..,fun a ha=>(split a ha).imp id fun z=>(hp a z).2.2.2,fun b o xs n e d _=>k b o (fun z=>(hp b z).2.2.2 o xs n e d) e⟩
 refine ⟨⟨fun b o e=>k b o (fun z=>by rw [(hp b z).2.1] at e;cases e) (H.stay b o e),by simp [H.len],fun l o' e=>?_,?_,fun a ha=>?_,fun a ha=>?_,H.sys,fun a ha=>?_⟩,m⟩
 ·by_cases hl:l < σ.length
  ·rw [List.getElem?_append_left hl] at e
   obtain ⟨p',e',r'⟩:=H.obj l o' e
   exact ⟨p',by show (ι.nums++[p])[l]? = _;rw [List.getElem?_append_left (by rw [H.len];exact hl)];exact e',r'.move m H.toff fun b hb ob q=>k b ob (fun z=>(hp b z).1 (adr_of e' hb)) q⟩
  ·have hl':l=σ.length:=by
    have:=(List.getElem?_eq_some_iff.mp e).1
    simp at this
    omega
   subst hl'
   simp at e
   subst e
   exact ⟨p,by show (ι.nums++[p])[_]? = _;rw [←H.len];simp,r⟩
 ·rw [hnad,List.nodup_append]
  refine ⟨H.nd,?_,fun a ha b hb q=>?_⟩
  ·cases h2:p.2 with
   |none=>simp
   |some d=>simp;intro q;exact hd (by rw [h2,q])
  ·subst q
   exact (hp a (inp a hb)).1 (adr_nad ha)
 ·exact (split a ha).elim (H.off a) fun z=>(hp a z).2.1
 ·obtain ⟨h1,ob,h2⟩:=H.hids a ha
  have hq:¬(a=p.1∨p.2=some a):=fun z=>(hp a z).1 (List.mem_append_right _ ha)
  refine ⟨fun z=>?_,ob,k a ob hq h2⟩
  rw [hnad] at z
  rcases List.mem_append.mp z with z|z
  ·exact h1 z
  ·exact hq (inp a z)
 ·rw [hnad] at ha
  rcases List.mem_append.mp ha with q|q
  ·exact H.low a q
  ·exact Nat.lt_trans (by decide) (hp a (inp a q)).2.2.1
theorem HR.alloc {p:Nat×Option Nat}{o:AO}(H:HR prog w base ι σ h)(k:∀b o,h.get? b=some o→h'.get? b=some o)(hp:∀b,b=p.1∨p.2=some b→h.get? b=none)(hlo:∀b,b=p.1∨p.2=some b→mainGlobals < b)(hd:p.2≠some p.1)
  (r:ObjR prog w (ι.add p) h' p o):HR prog w base (ι.add p) (σ++[o]) h' :=
 (H.allocG (fun b o _ e=>k b o e) (fun b hb=>⟨fun z=>(by obtain ⟨o,e⟩:=H.alive z;rw [hp b hb] at e;cases e),by
  cases e:base.get? b with
  |none=>rfl
  |some o=>(have:=H.stay b o e;rw [hp b hb] at this;exact nomatch this),hlo b hb,fun o xs n e=>by rw [hp b hb] at e;cases e⟩) hd r).1
theorem add_new {p:Nat×Option Nat}{a:Nat}(ha:a∈nad (ι.add p).nums):a∈nad ι.nums∨(a=p.1∨p.2=some a):=by
 have hnad:nad (ι.add p).nums=nad ι.nums++(p.1::p.2.toList):=by
  show nad (ι.nums++[p])=_
  rw [nad_append];simp [nad]
 rw [hnad] at ha
 rcases List.mem_append.mp ha with q|q
 ·exact .inl q
 ·rcases List.mem_cons.mp q with q|q
  ·exact .inr (.inl q)
  ·exact .inr (.inr (by simpa using q))
theorem Ext.alloc {p:Nat×Option Nat}(k:∀b o,h.get? b=some o→h'.get? b=some o)(hp:∀b,b=p.1∨p.2=some b→h.get? b=none):Ext FL own ι (ι.add p) h h' :=
 ⟨List.prefix_append ..,rfl,fun b o e=>⟨o,k b o e⟩,fun a ha=>(add_new ha).imp id (hp a),fun b o e _ _ _=>k b o e,fun b o e _ _=>⟨o.slots,k b o e⟩⟩
theorem Mo.alloc {p:Nat×Option Nat}(k:∀b o,h.get? b=some o→h'.get? b=some o)(hp:∀b,b=p.1∨p.2=some b→h.get? b=none):Mo ι (ι.add p) h h' :=
 ⟨List.prefix_append ..,fun a ha=>by
  rcases List.mem_append.mp ha with q|q
  ·exact (add_new q).imp adr_nad fun z o xs n e=>(by rw [hp a z] at e;cases e)
  ·exact .inl (List.mem_append_right _ q),fun b o _ _ e _ _=>k b o e⟩
theorem Mo.hide {a:Nat}(k:∀b o,h.get? b=some o→h'.get? b=some o)(ha:h.get? a=none):Mo ι (ι.hide a) h h' :=
 ⟨List.prefix_refl _,fun b hb=>by
  rcases List.mem_append.mp hb with q|q
  ·exact .inl (adr_nad q)
  ·rcases List.mem_cons.mp q with rfl|q
   ·exact .inr fun o xs n e=>by rw [ha] at e;cases e
   ·exact .inl (List.mem_append_right _ q),fun b o _ _ e _ _=>k b o e⟩
theorem HR.hide {a:Nat}(H:HR prog w base ι σ h)(k:∀b o,h.get? b=some o→h'.get? b=some o)(ha:h.get? a=none)(hv:∃o,h'.get? a=some o):HR prog w base (ι.hide a) σ h' where
 stay:=fun b o e=>k b o (H.stay b o e)
 len:=H.len
 obj:=fun l o e=>let ⟨p,e1,r⟩:=H.obj l o e;⟨p,e1,r.move (Mo.hide k ha) H.toff fun b _ ob q=>k b ob q⟩
 nd:=H.nd
 off:=fun b hb=>by
  rcases List.mem_append.mp hb with q|q
  ·exact H.off b (adr_nad q)
  ·rcases List.mem_cons.mp q with rfl|q
   ·cases e:base.get? b with
    |none=>rfl
    |some o=>have:=H.stay b o e;rw [ha] at this;cases this
   ·exact H.off b (List.mem_append_right _ q)
 hids:=fun b hb=>by
  rcases List.mem_cons.mp hb with rfl|hb
  ·exact ⟨fun z=>(by obtain ⟨o,e,_⟩:=H.cls z;rw [ha] at e;cases e),hv⟩
  ·obtain ⟨h1,o,h2⟩:=H.hids b hb
   exact ⟨h1,o,k b o h2⟩
 sys:=H.sys
 low:=H.low
theorem Mo.unhide {a:Nat}:Mo (ι.hide a) ι h h :=
 ⟨List.prefix_refl _,fun b hb=>by
  rcases List.mem_append.mp hb with q|q
  ·exact .inl (adr_nad q)
  ·exact .inl (List.mem_append_right _ (List.mem_cons_of_mem _ q)),fun b o _ _ e _ _=>e⟩
theorem HR.unhide {a:Nat}(H:HR prog w base (ι.hide a) σ h):HR prog w base ι σ h where
 stay:=H.stay
 len:=H.len
 obj:=fun l o e=>let ⟨p,e1,r⟩:=H.obj l o e;⟨p,e1,r.move Mo.unhide H.toff fun b _ ob q=>q⟩
 nd:=H.nd
 off:=fun b hb=>by
  rcases List.mem_append.mp hb with q|q
  ·exact H.off b (adr_nad q)
  ·exact H.off b (List.mem_append_right _ (List.mem_cons_of_mem _ q))
 hids:=fun b hb=>H.hids b (List.mem_cons_of_mem _ hb)
 sys:=H.sys
 low:=H.low
theorem Mo.but {W:List Nat}(k:∀b o,b∉W→h.get? b=some o→h'.get? b=some o)(hW:∀b∈W,b∈adr ι∨∀o,h.get? b=some o→∀xs n,o.data≠.seq xs n):Mo ι ι h h' :=
 ⟨List.prefix_refl _,fun _ z=>.inl z,fun b o xs n e d hb=>k b o (fun z=>(hW b z).elim hb fun q=>q o e xs n d) e⟩
theorem HR.but {W:List Nat}(H:HR prog w base ι σ h)(k:∀b o,b∉W→h.get? b=some o→h'.get? b=some o)(hW:∀b∈W,b∈adr ι∨∀o,h.get? b=some o→∀xs n,o.data≠.seq xs n)
  (hn:∀b∈W,b∉nad ι.nums∧base.get? b=none) (hv:∀b∈W,b∈ι.hid→∃o,h'.get? b=some o):HR prog w base ι σ h' where
 stay:=fun b o e=>k b o (fun z=>by rw [(hn b z).2] at e;cases e) (H.stay b o e)
 len:=H.len
 obj:=fun l o e=>let ⟨p,e1,r⟩:=H.obj l o e;⟨p,e1,r.move (Mo.but k hW) H.toff fun b hb ob q=>k b ob (fun z=>(hn b z).1 (nad_of e1 hb)) q⟩
 nd:=H.nd
 off:=H.off
 hids:=fun b hb=>⟨(H.hids b hb).1,by
  obtain ⟨_,o,e⟩:=H.hids b hb
  by_cases z:b∈W
  ·exact hv b z hb
  ·exact ⟨o,k b o z e⟩⟩
 sys:=H.sys
 low:=H.low
theorem Ext.drop {own':List Nat}{ι₂:Io}{h₂:Heap}(x:Ext FL own ι ι' h h')(y:Ext FL own' ι' ι₂ h' h₂)(hf:∀b∈own',b∈own∨h.get? b=none):Ext FL own ι ι₂ h h₂:=by
 have lt:∀{b:Nat} {o:Obj},h.get? b=some o→b∉own→b∉own':=fun {b o} e h3 q=>(hf b q).elim h3 fun z=>by rw [z] at e;cases e
 refine ⟨x.pre.trans y.pre,y.same.trans x.same,fun b o e=>let ⟨o',e'⟩:=x.live b o e;y.live b o' e',fun a ha=>(y.new a ha).elim (x.new a) fun z=>.inr (dead x.live z),fun b o e h1 h2 h3=>?_,fun b o e h1 h2=>?_⟩
 ·exact y.keep b o (x.keep b o e h1 h2 h3) (fun q=>(x.new b q).elim h1 fun z=>by rw [z] at e;cases e) h2 (lt e h3)
 ·obtain ⟨sl,e1⟩:=x.slot b o e h1 h2
  obtain ⟨sl',e2⟩:=y.slot b _ e1 h1 (lt e h2)
  exact ⟨sl',e2⟩
theorem Ext.widen {own':List Nat}(x:Ext FL own ι ι' h h')(hs:∀b∈own,b∈own'):Ext FL own' ι ι' h h' :=
 ⟨x.pre,x.same,x.live,x.new,fun b o e h1 h2 h3=>x.keep b o e h1 h2 fun q=>h3 (hs b q),fun b o e h1 h2=>x.slot b o e h1 fun q=>h2 (hs b q)⟩
theorem VRs.length {vs:List Value}{ds:List D}(h1:VRs ι h vs ds):vs.length=ds.length:=by
 induction vs generalizing ds with
 |nil=>cases h1;rfl
 |cons v vs ih=>cases h1 with|cons _ r=>simp [ih r]
theorem VRs.get {vs:List Value}{ds:List D}{k:Nat}{d:D}(r:VRs ι h vs ds)(e:ds[k]? = some d):∃v,vs[k]? = some v∧VR ι h v d:=by
 induction vs generalizing ds k with
 |nil=>cases r;simp at e
 |cons v vs ih =>
  cases r with
  |cons a r =>
   cases k with
   |zero=>simp at e;subst e;exact ⟨v,rfl,a⟩
   |succ k=>simpa using ih r (by simpa using e)
theorem VRs.append {vs ws:List Value}{ds es:List D}(a:VRs ι h vs ds)(b:VRs ι h ws es):VRs ι h (vs++ws) (ds++es):=by
 induction vs generalizing ds with
 |nil=>cases a;exact b
 |cons v vs ih=>cases a with|cons a r=>exact .cons a (ih r)
theorem VRs.split {vs:List Value}{ds es:List D}(a:VRs ι h vs (ds++es)):∃us ws,vs=us++ws∧VRs ι h us ds∧VRs ι h ws es:=by
 induction ds generalizing vs with
 |nil=>exact ⟨[],vs,rfl,.nil,a⟩
 |cons d ds ih =>
  cases a with
  |cons a r =>
   obtain ⟨us,ws,rfl,h1,h2⟩:=ih r
   exact ⟨_::us,ws,rfl,.cons a h1,h2⟩
theorem VRs.rev {vs:List Value}{ds:List D}(a:VRs ι h vs ds):VRs ι h vs.reverse ds.reverse:=by
 induction vs generalizing ds with
 |nil=>cases a;exact .nil
 |cons v vs ih=>cases a with|cons a r=>simpa using (ih r).append (.cons a .nil)
theorem VR.handed {v:Value}{d:D}(r:VR ι h v d):handedIn v=true:=by cases r<;>rfl
end
end Mine
end
section
set_option maxRecDepth 100000
open PySem PySem.Spec PySem.Calls PyProof.Rows PySem.W
namespace Mine
abbrev PEnv:=PySem.Env
abbrev fls (fl:List PEnv):List Nat:=fl.filterMap (·.frame)
def nlook:List (List Nat×Nat)→List Nat→Option Nat
 |[],_=>none
 |(k,i)::r,x=>if k=x then some i else nlook r x
structure FramesR (base:Heap)(ι:Io)(h:Heap)(fl:List PEnv):Prop where
 ff:h.FunFrames base fl
 ns:∀b∈fls fl,∃m,h.Ns b m
 off:∀b∈fls fl,b∉adr ι
inductive VarIs (ι:Io) (h:Heap) (env:PEnv) (x:Str) (d:D):Prop
 |loc {m:Str→Option Value} {v:Value}:env.kindOf x=some .local→h.Ns env.locals m→m x=some v→VR ι h v d→VarIs ι h env x d
 |cell {c:Addr} {v:Value}:(env.kindOf x=some .cell∨env.kindOf x=some .free)→env.cells.lookup x=some c→h.IsCell c (some v)→VR ι h v d→VarIs ι h env x d
structure FrR (base:Heap)(ι:Io)(h:Heap)(env:PEnv):Prop where
 kind:env.scope.kind=.function
 glob:env.globals=mainGlobals
 blt:env.builtins=builtinsNs
 ns:∃m,h.Ns env.locals m
 cell:∀x c,env.cells.lookup x=some c→∃v,h.IsCell c v
 cinj:∀x y c,env.cells.lookup x=some c→env.cells.lookup y=some c→x=y
 cov:∀x,(env.kindOf x=some .cell∨env.kindOf x=some .free)→∃c,env.cells.lookup x=some c
 offL:env.locals∉adr ι∧base.get? env.locals=none
 offC:∀x c,env.cells.lookup x=some c→c∉adr ι∧base.get? c=none
 cd:(env.scope.names.lookup defN=some .cell∨env.scope.names.lookup defN=some .free)→env.code=.ref codA
def LocR (NE:List (List Nat×Nat))(ρ:Ve)(ι:Io)(h:Heap)(env:PEnv):Prop :=
 ∀(x:Str) (i:Nat) (d:D),nlook NE x.cps.toList=some i→ρ[i]? = some (some d)→VarIs ι h env x d
def NotOwn (env:PEnv)(b:Nat):Prop:=b≠env.locals∧∀x c,env.cells.lookup x=some c→b≠c
theorem ns_soft {h:Heap}{b:Nat}{m:Str→Option Value}(n:h.Ns b m):∀o,h.get? b=some o→∀xs k,o.data≠.seq xs k:=by
 obtain ⟨o,es,ep,e,d,_⟩:=n
 intro o' e' xs k q
 rw [e] at e'
 cases e'
 rw [d] at q
 cases q
theorem cell_soft {h:Heap}{b:Nat}{v:Option Value}(n:h.IsCell b v):∀o,h.get? b=some o→∀xs k,o.data≠.seq xs k:=by
 obtain ⟨o,e,d⟩:=n
 intro o' e' xs k q
 rw [e] at e'
 cases e'
 rw [d] at q
 cases q
theorem FramesR.soft {base:Heap}{ι:Io}{h:Heap}{fl:List PEnv}(F:FramesR base ι h fl):Soft h (fls fl):=fun b hb=>let ⟨_,n⟩:=F.ns b hb;ns_soft n
def OwnOk (ι:Io)(h:Heap)(own:List Nat):Prop:=∀b∈own,b∈adr ι∨∀o,h.get? b=some o→∀xs n,o.data≠.seq xs n
theorem soft_nil {ι:Io}{h:Heap}:OwnOk ι h []:=fun _ h=>nomatch h
theorem lookup_mem {x:Str}{c:Addr}:∀{l:List (Str×Addr)},(x,c)∈l→∃c',l.lookup x=some c'
 |(y,d)::r,h=>by
  rw [List.lookup_cons]
  cases hb:x==y with
  |true=>exact ⟨d,rfl⟩
  |false =>
   rcases List.mem_cons.mp h with q|q
   ·cases q;simp at hb
   ·exact lookup_mem q
section
variable {base h h':Heap}{ι ι':Io}{env:PEnv}{fl:List PEnv}{NE:List (List Nat×Nat)}{ρ:Ve}
theorem ns_slot {b:Nat}{m:Str→Option Value}(n:h.Ns b m)(k:∀o,h.get? b=some o→∃sl,h'.get? b=some { o with slots:=sl }):h'.Ns b m:=by
 obtain ⟨o,es,ep,e,d,r⟩:=n
 obtain ⟨sl,e'⟩:=k o e
 exact ⟨_,es,ep,e',d,r⟩
theorem frames_of:∀{l:List PEnv},h.FunFrames base l→(∀b∈fls l,∃m,h'.Ns b m)→h'.FunFrames base l:=by
 intro l
 induction l with
 |nil=>intro _ _;trivial
 |cons e r ih =>
  rintro ⟨a,⟨L,o,hf,hn,ho,hd⟩,q⟩ k
  have hL:L∈fls (e::r):=by simp [fls,hf]
  obtain ⟨m,o',es,ep,e',d',_⟩:=k L hL
  refine ⟨a,⟨L,o',hf,hn,e',fun vs z=>by rw [d'] at z;cases z⟩,ih q fun b hb=>k b ?_⟩
  show b∈List.filterMap _ (e::r)
  rw [List.filterMap_cons,hf]
  exact List.mem_cons_of_mem _ hb
theorem FramesR.ext {own:List Nat}(F:FramesR base ι h fl)(E:Ext (fls fl) own ι ι' h h')(ho:∀b∈own,b∈fls fl→∃m,h'.Ns b m):FramesR base ι' h' fl where
 ff:=by
  refine frames_of F.ff fun b hb=>?_
  obtain ⟨m,n⟩:=F.ns b hb
  by_cases q:b∈own
  ·exact ho b q hb
  ·exact ⟨m,ns_slot n fun o e=>E.slot b o e hb q⟩
 ns:=fun b hb=>by
  obtain ⟨m,n⟩:=F.ns b hb
  by_cases q:b∈own
  ·exact ho b q hb
  ·exact ⟨m,ns_slot n fun o e=>E.slot b o e hb q⟩
 off:=fun b hb q=>by
  rcases E.newA b q with z|z
  ·exact F.off b hb z
  ·obtain ⟨m,o,_,_,e,_⟩:=F.ns b hb
   rw [z] at e
   cases e
theorem ns_ext {own:List Nat}{b:Nat}{m:Str→Option Value}(n:h.Ns b m)(E:Ext (fls fl) own ι ι' h h')(hb:b∉adr ι)(ho:b∉own):h'.Ns b m:=by
 by_cases q:b∈fls fl
 ·exact ns_slot n fun o e=>E.slot b o e q ho
 ·obtain ⟨o,es,ep,e,r⟩:=n
  exact ⟨o,es,ep,E.keep b o e (fun z=>hb (adr_nad z)) q ho,r⟩
theorem cell_ext {own:List Nat}{b:Nat}{v:Option Value}(F:FramesR base ι h fl)(n:h.IsCell b v)(E:Ext (fls fl) own ι ι' h h')(hb:b∉adr ι)(ho:b∉own):h'.IsCell b v:=by
 obtain ⟨o,e,d⟩:=n
 refine ⟨o,E.keep b o e (fun z=>hb (adr_nad z)) (fun q=>?_) ho,d⟩
 obtain ⟨_,o',_,_,e',d',_⟩:=F.ns b q
 rw [e] at e'
 cases e'
 rw [d] at d'
 cases d'
theorem off_ext {own FL:List Nat}{b:Nat}{o:Obj}(e:h.get? b=some o)(E:Ext FL own ι ι' h h')(hb:b∉adr ι):b∉adr ι':=fun q =>
 (E.newA b q).elim hb fun z=>by rw [z] at e;cases e
theorem FrR.ext {own:List Nat}(R:FrR base ι h env)(F:FramesR base ι h fl)(E:Ext (fls fl) own ι ι' h h')(ho:∀b∈own,NotOwn env b):FrR base ι' h' env where
 kind:=R.kind
 glob:=R.glob
 blt:=R.blt
 ns:=let ⟨m,n⟩:=R.ns;⟨m,ns_ext n E R.offL.1 (fun q=>(ho _ q).1 rfl)⟩
 cell:=fun x c e=>let ⟨v,n⟩:=R.cell x c e;⟨v,cell_ext F n E (R.offC x c e).1 (fun q=>(ho _ q).2 x c e rfl)⟩
 cinj:=R.cinj
 cov:=R.cov
 offL:=⟨let ⟨_,o,_,_,e,_⟩:=R.ns;off_ext e E R.offL.1,R.offL.2⟩
 offC:=fun x c e=>⟨let ⟨_,o,e1,_⟩:=R.cell x c e;off_ext e1 E (R.offC x c e).1,(R.offC x c e).2⟩
 cd:=R.cd
theorem VarIs.ext {own:List Nat}{x:Str}{d:D}(V:VarIs ι h env x d)(R:FrR base ι h env)(F:FramesR base ι h fl)(hT:TOff ι h)(E:Ext (fls fl) own ι ι' h h')(ho:∀b∈own,NotOwn env b)(hk:OwnOk ι h own):VarIs ι' h' env x d:=by
 cases V with
 |loc k n e v=>exact .loc k (ns_ext n E R.offL.1 (fun q=>(ho _ q).1 rfl)) e (v.mono (E.mo F.soft hk) hT)
 |cell k c n v=>exact .cell k c (cell_ext F n E (R.offC _ _ c).1 (fun q=>(ho _ q).2 _ _ c rfl)) (v.mono (E.mo F.soft hk) hT)
theorem LocR.ext {own:List Nat}(V:LocR NE ρ ι h env)(R:FrR base ι h env)(F:FramesR base ι h fl)(hT:TOff ι h)(E:Ext (fls fl) own ι ι' h h')(ho:∀b∈own,NotOwn env b)(hk:OwnOk ι h own):LocR NE ρ ι' h' env :=
 fun x i d a b=>(V x i d a b).ext R F hT E ho hk
end
def Tp (fl:List PEnv)(env:PEnv):Prop:=∃e0 r L,fl=e0::r∧e0.frame=env.frame∧env.frame=some L
structure SR (prog:Program)(w:World)(base:Heap)(fl:List PEnv)(env:PEnv)(NE:List (List Nat×Nat))(ι:Io)(σ:Hp)(ρ:Ve)(h:Heap):Prop where
 hr:HR prog w base ι σ h
 ff:FramesR base ι h fl
 fr:FrR base ι h env
 lc:LocR NE ρ ι h env
 tp:Tp fl env
section
variable {prog:Program}{w:World}{base h h':Heap}{ι ι':Io}{σ σ':Hp}{env:PEnv}{fl:List PEnv}{NE:List (List Nat×Nat)}{ρ:Ve}
theorem SR.extO {own:List Nat}(S:SR prog w base fl env NE ι σ ρ h)(E:Ext (fls fl) own ι ι' h h')(H:HR prog w base ι' σ' h')(ho:∀b∈own,NotOwn env b∧b∉fls fl)(hk:OwnOk ι h own):SR prog w base fl env NE ι' σ' ρ h' :=
 ⟨H,S.ff.ext E (fun b q z=>absurd z (ho b q).2),S.fr.ext S.ff E fun b q=>(ho b q).1,S.lc.ext S.fr S.ff S.hr.toff E (fun b q=>(ho b q).1) hk,S.tp⟩
theorem SR.ext (S:SR prog w base fl env NE ι σ ρ h)(E:Ext (fls fl) [] ι ι' h h')(H:HR prog w base ι' σ' h'):SR prog w base fl env NE ι' σ' ρ h' :=
 S.extO E H (fun _ q=>nomatch q) soft_nil
theorem SR.mo (S:SR prog w base fl env NE ι σ ρ h)(E:Ext (fls fl) [] ι ι' h h'):Mo ι ι' h h':=E.mo S.ff.soft soft_nil
end
section
variable {prog:Program}{w:World}{base:Heap}{ι:Io}{σ:Hp}{env:PEnv}{fl:List PEnv}{NE:List (List Nat×Nat)}{ρ:Ve}{A:Around}{s:Shared}{Ev:Value→Shared→Prop}
theorem load_var {x:Str}{d:D}{Q:Value→Shared→Prop}(V:VarIs ι s.heap env x d)(hk:env.scope.kind=.function)(h:∀v,VR ι s.heap v d→Q v s)(hn:(x==("__classdict__" : Str))=false) :
  wpAny (model prog w) A (loadName env x) Q Ev s:=by
 cases V with
 |loc k n e v=>exact wpAny_loadName_local hk k n e (h _ v)
 |cell k c n v =>
  rcases k with k|k
  ·exact wpAny_loadName_cell hk k c n (h _ v)
  ·exact wpAny_loadName_free hk k c n (h _ v) hn
theorem HR.same {h':Heap}{b:Nat}(H:HR prog w base ι σ s.heap)(hs:Heap.SameBut b s.heap h')(h1:b∉adr ι)(h2:base.get? b=none)(h3:∀o,s.heap.get? b=some o→∀xs k,o.data≠.seq xs k)(hv:∃o,h'.get? b=some o):HR prog w base ι σ h' :=
 H.but (W:=[b]) (fun a o z e=>(hs.2 a fun q=>z (q▸List.mem_singleton.mpr rfl)).trans e) (fun a ha=>.inr (by rw [List.mem_singleton.mp ha];exact h3)) (fun a ha=>by rw [List.mem_singleton.mp ha];exact ⟨fun z=>h1 (adr_nad z),h2⟩)
  (fun a ha _=>by rw [List.mem_singleton.mp ha];exact hv)
theorem SR.same {h':Heap}{b:Nat}{ρ':Ve}(S:SR prog w base fl env NE ι σ ρ s.heap)(hs:Heap.SameBut b s.heap h')(h1:b∉adr ι)(h2:base.get? b=none)(h3:∀o,s.heap.get? b=some o→∀xs k,o.data≠.seq xs k)
  (hv:∃o,h'.get? b=some o) (hF:b∈fls fl→∃m,h'.Ns b m) (hL:∃m,h'.Ns env.locals m) (hC:∀x c,env.cells.lookup x=some c→∃v,h'.IsCell c v) (hl:Mo ι ι s.heap h'→LocR NE ρ' ι h' env):SR prog w base fl env NE ι σ ρ' h':=by
 have m:Mo ι ι s.heap h':=⟨List.prefix_refl _,fun _ z=>.inl z,fun a o xs n e d _=>(hs.2 a fun q=>h3 o (q▸e) xs n d).trans e⟩
 have E:Ext (fls fl) [b] ι ι s.heap h':=⟨List.prefix_refl _,rfl,fun a o e=>if z:a=b then z▸hv else ⟨o,(hs.2 a z).trans e⟩,fun _ z=>.inl z,fun a o e _ _ q=>(hs.2 a fun z=>q (z▸List.mem_singleton.mpr rfl)).trans e,
  fun a o e _ q=>⟨o.slots,(hs.2 a fun z=>q (z▸List.mem_singleton.mpr rfl)).trans e⟩⟩
 exact ⟨S.hr.same hs h1 h2 h3 hv,S.ff.ext E (fun a ha hf=>by rw [List.mem_singleton.mp ha] at hf ⊢;exact hF hf),⟨S.fr.kind,S.fr.glob,S.fr.blt,hL,hC,S.fr.cinj,S.fr.cov,S.fr.offL,S.fr.offC,S.fr.cd⟩,hl m,S.tp⟩
theorem ns_cell_ne {h:Heap}{a b:Nat}{m:Str→Option Value}{v:Option Value}(n:h.Ns a m)(c:h.IsCell b v):a≠b:=by
 rintro rfl
 obtain ⟨o,_,_,e,d,_⟩:=n
 obtain ⟨o',e',d'⟩:=c
 rw [e] at e'
 cases e'
 rw [d] at d'
 cases d'
theorem store_var {x:Str}{i:Nat}{d:D}{v:Value}{Q:Unit→Shared→Prop}(S:SR prog w base fl env NE ι σ ρ s.heap)(hi:nlook NE x.cps.toList=some i)(hinj:∀y j,nlook NE y=some j→j=i→y=x.cps.toList)
  (hk:env.kindOf x=some .local∨(env.kindOf x=some .cell∧∃c,env.cells.lookup x=some c)) (hv:VR ι s.heap v d)
  (h:∀h' tk' b,(b=env.locals∨∃y,env.cells.lookup y=some b)→(env.kindOf x=some .local→b=env.locals)→Ext (fls fl) [b] ι ι s.heap h'→SR prog w base fl env NE ι σ (ρ.set i (some d)) h'→Q () { s with heap:=h',toks:=tk' }) :
  wpAny (model prog w) A (storeName env x v) Q Ev s:=by
 have other:∀(y:Str) (j:Nat) (e:D),y≠x→nlook NE y.cps.toList=some j→(ρ.set i (some d))[j]? = some (some e)→ρ[j]? = some (some e):=by
  intro y j e hy hj q
  by_cases hij:j=i
  ·exact absurd (by have:=hinj _ _ hj hij;rw [←toS_cps y,←toS_cps x,this]) hy
  ·rwa [List.getElem?_set_ne (fun z=>hij z.symm)] at q
 have here:∀(j:Nat) (e:D),nlook NE x.cps.toList=some j→(ρ.set i (some d))[j]? = some (some e)→e=d:=by
  intro j e hj q
  rw [hi] at hj
  cases hj
  have hlt:i < (ρ.set i (some d)).length:=(List.getElem?_eq_some_iff.mp q).1
  rw [List.length_set] at hlt
  rw [List.getElem?_set_self hlt] at q
  exact (Option.some.inj (Option.some.inj q)).symm
 have ext:∀(b:Nat) (h':Heap),Heap.SameBut b s.heap h'→(∃o,h'.get? b=some o)→Ext (fls fl) [b] ι ι s.heap h':=fun b h' hs hv =>
  ⟨List.prefix_refl _,rfl,fun a o e=>if z:a=b then z▸hv else ⟨o,(hs.2 a z).trans e⟩,fun _ z=>.inl z,fun a o e _ _ q=>(hs.2 a fun z=>q (z▸List.mem_singleton.mpr rfl)).trans e,fun a o e _ q=>⟨o.slots,(hs.2 a fun z=>q (z▸List.mem_singleton.mpr rfl)).trans e⟩⟩
 rcases hk with k|⟨k,c,hc⟩
 ·obtain ⟨m,n⟩:=S.fr.ns
  refine wpAny_storeName_local k n (fun h' hn' hs'=>?_) (by rw [S.fr.kind];rfl)
  have hv':∃o,h'.get? env.locals=some o:=let ⟨o,_,_,e,_⟩:=hn';⟨o,e⟩
  refine h h' _ env.locals (.inl rfl) (fun _=>rfl) (ext _ _ hs' hv') (S.same hs' S.fr.offL.1 S.fr.offL.2 (ns_soft n) hv' (fun _=>⟨_,hn'⟩) ⟨_,hn'⟩ (fun y c e=>let ⟨u,z⟩:=S.fr.cell y c e;⟨u,z.sameBut hs' (ns_cell_ne n z).symm⟩) fun mo=>?_)
  intro y j e hj q
  by_cases hy:y=x
  ·subst hy
   rw [here j e hj q]
   exact .loc k hn' (by simp) (hv.mono mo S.hr.toff)
  ·have V:=S.lc y j e hj (other y j e hy hj q)
   cases V with
   |loc k' n' e' v' =>
    obtain ⟨o1,es1,ep1,a1,b1,c1,d1⟩:=n
    obtain ⟨o2,es2,ep2,a2,b2,c2,d2⟩:=n'
    rw [a1] at a2
    cases a2
    rw [b1] at b2
    cases b2
    exact .loc k' hn' (by rw [if_neg hy];rw [←d1 y,d2 y];exact e') (v'.mono mo S.hr.toff)
   |cell k' c' n' v'=>exact .cell k' c' (n'.sameBut hs' (ns_cell_ne n n').symm) (v'.mono mo S.hr.toff)
 ·obtain ⟨v₀,n⟩:=S.fr.cell x c hc
  obtain ⟨mL,nL⟩:=S.fr.ns
  refine wpAny_storeName_cell S.fr.kind k hc n fun h' hn' hs'=>?_
  have hv':∃o,h'.get? c=some o:=let ⟨o,e,_⟩:=hn';⟨o,e⟩
  refine h h' _ c (.inr ⟨x,hc⟩) (fun q=>by rw [k] at q;cases q) (ext _ _ hs' hv') (S.same hs' (S.fr.offC x c hc).1 (S.fr.offC x c hc).2 (cell_soft n) hv' (fun q=>?_) ⟨mL,nL.sameBut hs' (ns_cell_ne nL n)⟩ (fun y c' e=>?_) fun mo=>?_)
  ·obtain ⟨m,z⟩:=S.ff.ns c q
   exact absurd rfl (ns_cell_ne z n)
  ·by_cases q:c'=c
   ·subst q;exact ⟨_,hn'⟩
   ·obtain ⟨u,z⟩:=S.fr.cell y c' e
    exact ⟨u,z.sameBut hs' q⟩
  ·intro y j e hj q
   by_cases hy:y=x
   ·subst hy
    rw [here j e hj q]
    exact .cell (.inl k) hc hn' (hv.mono mo S.hr.toff)
   ·have V:=S.lc y j e hj (other y j e hy hj q)
    cases V with
    |loc k' n' e' v'=>exact .loc k' (n'.sameBut hs' (ns_cell_ne n' n)) e' (v'.mono mo S.hr.toff)
    |cell k' c' n' v'=>exact .cell k' c' (n'.sameBut hs' fun z=>hy (S.fr.cinj y x c (z▸c') hc)) (v'.mono mo S.hr.toff)
end
end Mine
end
section
set_option maxRecDepth 100000
open PySem PySem.Spec PySem.Calls PyProof.Rows PySem.W
namespace Mine
structure Trc (base:Heap)(lo:Heap)(h:Heap)(e:Nat)(vs:Array Value):Prop where
 ex:∃T oT ts fl,vs[1]? = some (.ref T)∧lo.get? T=none∧T≠e∧base.get? T=none∧h.get? T=some oT∧oT.data=.fields ts∧ts[3]? = some fl∧oT.cls≠.none
structure ExcR (base:Heap)(lo:Heap)(h:Heap)(e:Nat)(C:Nat)(tr:Bool):Prop where
 ex:∃oe vs,h.get? e=some oe∧oe.cls=.ref C∧oe.data=.fields vs∧lo.get? e=none∧base.get? e=none∧((tr=false∧vs[1]? = some .none)∨Trc base lo h e vs)
theorem ExcR.lower {base h:Heap}{lo lo':Heap}{e C:Nat}{tr:Bool}(X:ExcR base lo h e C tr)(hl:∀b o,lo'.get? b=some o→∃o',lo.get? b=some o'):ExcR base lo' h e C tr:=by
 obtain ⟨oe,vs,a,b,c,d,f,g⟩:=X
 refine ⟨oe,vs,a,b,c,dead hl d,f,?_⟩
 rcases g with g|⟨T,oT,ts,fl,g1,g2,g3⟩
 ·exact .inl g
 ·exact .inr ⟨T,oT,ts,fl,g1,dead hl g2,g3⟩
theorem ExcR.loose {base h lo:Heap}{e C:Nat}{tr:Bool}(X:ExcR base lo h e C tr):ExcR base lo h e C false:=by
 obtain ⟨oe,vs,a,b,c,d,f,g⟩:=X
 exact ⟨oe,vs,a,b,c,d,f,g.imp (fun g=>⟨rfl,g.2⟩) id⟩
structure Touch (lo:Heap)(FL:List Nat)(h h':Heap):Prop where
 live:∀b o,h.get? b=some o→∃o',h'.get? b=some o'
 old:∀b o,h.get? b=some o→(∃o',lo.get? b=some o')→b∉FL→h'.get? b=some o
 nf:∀b o,h.get? b=some o→b∉FL→(∀vs,o.data=.fields vs→o.cls=.none)→h'.get? b=some o
 slot:∀b o,h.get? b=some o→b∈FL→∃sl,h'.get? b=some { o with slots:=sl }
theorem Touch.refl (lo:Heap)(FL:List Nat)(h:Heap):Touch lo FL h h:=⟨fun _ o e=>⟨o,e⟩,fun _ _ e _ _=>e,fun _ _ e _ _=>e,fun _ o e _=>⟨o.slots,e⟩⟩
theorem Touch.trans {lo:Heap}{FL:List Nat}{a b c:Heap}(x:Touch lo FL a b)(y:Touch lo FL b c):Touch lo FL a c where
 live:=fun d o e=>let ⟨o',e'⟩:=x.live d o e;y.live d o' e'
 old:=fun d o e h1 h2=>y.old d o (x.old d o e h1 h2) h1 h2
 nf:=fun d o e h1 h2=>y.nf d o (x.nf d o e h1 h2) h1 h2
 slot:=fun d o e h1=>by
  obtain ⟨sl,e1⟩:=x.slot d o e h1
  obtain ⟨sl',e2⟩:=y.slot d _ e1 h1
  exact ⟨sl',e2⟩
theorem Touch.lower {lo lo':Heap}{FL:List Nat}{a b:Heap}(x:Touch lo FL a b)(h:∀b o,lo'.get? b=some o→∃o',lo.get? b=some o'):Touch lo' FL a b :=
 ⟨x.live,fun d o e h1 h2=>x.old d o e (let ⟨o',e'⟩:=h1;h d o' e') h2,x.nf,x.slot⟩
section
variable {prog:Program}{w:World}{base h h' h₀:Heap}{ι ι₀:Io}{σ:Hp}{fl:List PEnv}{own:List Nat}{lo:Heap}
theorem Touch.mo (x:Touch lo (fls fl) h h')(F:FramesR base ι h fl):Mo ι ι h h' :=
 ⟨List.prefix_refl _,fun _ z=>.inl z,fun b o xs n e d _=>x.nf b o e (fun q=>F.soft b q o e xs n d) fun vs q=>by rw [d] at q;cases q⟩
theorem Touch.ext (E:Ext (fls fl) own ι₀ ι h₀ h)(x:Touch h₀ (fls fl) h h'):Ext (fls fl) own ι₀ ι h₀ h' where
 pre:=E.pre
 same:=E.same
 live:=fun b o e=>let ⟨o',e'⟩:=E.live b o e;x.live b o' e'
 new:=E.new
 keep:=fun b o e h1 h2 h3=>x.old b o (E.keep b o e h1 h2 h3) ⟨o,e⟩ h2
 slot:=fun b o e h1 h2=>by
  obtain ⟨sl,e1⟩:=E.slot b o e h1 h2
  obtain ⟨sl',e2⟩:=x.slot b _ e1 h1
  exact ⟨sl',e2⟩
theorem HR.touch (H:HR prog w base ι σ h)(x:Touch lo (fls fl) h h')(F:FramesR base ι h fl)(hlo:∀b o,base.get? b=some o→∃o',lo.get? b=some o'):HR prog w base ι σ h' where
 stay:=fun b o e=>by
  have e1:=H.stay b o e
  refine x.old b o e1 (hlo b o e) fun q=>?_
  have:=(F.ff.mem q).1
  rw [e] at this
  cases this
 len:=H.len
 obj:=fun l o e=>by
  obtain ⟨p,e1,r⟩:=H.obj l o e
  refine ⟨p,e1,r.move (x.mo F) H.toff fun b hb ob q=>?_⟩
  obtain ⟨ob',q',hf,_⟩:=objR_cls r b hb
  rw [q] at q'
  cases q'
  exact x.nf b ob q (fun z=>F.off b z (adr_of e1 hb)) hf
 nd:=H.nd
 off:=H.off
 hids:=fun a ha=>let ⟨h1,o,e⟩:=H.hids a ha;⟨h1,x.live a o e⟩
 sys:=H.sys
 low:=H.low
theorem FramesR.touch (F:FramesR base ι h fl)(x:Touch lo (fls fl) h h'):FramesR base ι h' fl:=by
 have ns:∀b∈fls fl,∃m,h'.Ns b m:=fun b hb=>let ⟨m,n⟩:=F.ns b hb;⟨m,ns_slot n fun o e=>x.slot b o e hb⟩
 refine ⟨F.ff.of_keeps fun b o e hf=>?_,ns,F.off⟩
 by_cases q:b∈fls fl
 ·obtain ⟨sl,e'⟩:=x.slot b o e q
  exact ⟨_,e',rfl⟩
 ·exact ⟨o,x.nf b o e q (fun vs q'=>absurd q' (hf vs)),rfl⟩
end
section
variable {M:Model}{base:Heap}{fl:List PEnv}{A:Around}{s:Shared}{Ev:Value→Shared→Prop}{env:PEnv}{L:Nat}{e C:Nat}{lo:Heap}{tr:Bool}
theorem frameOf_at {Q:Value→Shared→Prop}(hfr:A.frames=some fl)(hd:∃e0 r,fl=e0::r∧e0.frame=env.frame)(hl:s.heap.FunFrames base fl)(hf:env.frame=some L)
  (h:∀h',Heap.SlotsOnly (fls fl) s.heap h'→Q (.ref L) { s with heap:=h' }):wpAny M A (PySem.frameOf env) Q Ev s:=by
 obtain ⟨e0,r,rfl,h0⟩:=hd
 unfold PySem.frameOf
 refine wpAny_bind (wpAny_frameEnvs hfr ?_)
 have hdw:((e0::r).dropWhile fun x=>x.frame != env.frame)=e0::r:=by simp [List.dropWhile,h0]
 rw [hdw]
 unfold frameObject
 refine wpAny_bind (wpAny_bind (wpAny_readyFrames_fun hl fun h₁ hs₁=>wpAny_pure ?_))
 rw [h0,hf]
 exact wpAny_pure (h h₁ hs₁)
theorem slotsOnly_touch {h h':Heap}{FL:List Nat}(x:Heap.SlotsOnly FL h h'):Touch lo FL h h' :=
 ⟨fun b o e=>if q:b∈FL then let ⟨sl,e'⟩:=x.2.2 b o e;⟨_,e'⟩ else ⟨o,(x.2.1 b q).trans e⟩,fun b _ e _ q=>(x.2.1 b q).trans e,fun b _ e q _=>(x.2.1 b q).trans e,fun b o e _=>x.2.2 b o e⟩
theorem newEntry_at {Q:Unit→Shared→Prop}{oe:Obj}{vs:Array Value}{head:Value}{hn:Bool}(hfr:A.frames=some fl)(hd:∃e0 r,fl=e0::r∧e0.frame=env.frame)(hl:s.heap.FunFrames base fl)(hf:env.frame=some L)
  (he:s.heap.get? e=some oe) (hc:oe.cls=.ref C) (hdat:oe.data=.fields vs) (hsz:1 < vs.size) (hlo:lo.get? e=none) (hb:base.get? e=none) (hbase:base.StaysIn s.heap) (hz:∀b o,lo.get? b=some o→∃o',s.heap.get? b=some o')
  (h:∀h',Touch lo (fls fl) s.heap h'→ExcR base lo h' e C true→Q () { s with heap:=h' }) :
  wpAny M A (do setField (.ref e) 1 (←EntryCells.newEntry head (←PySem.frameOf env) .none (rawInt L) .none (←entryPlaceOf L hn))) Q Ev s:=by
 have hene:e∉fls fl:=fun hm=>by
  obtain ⟨_,o,ho,hnf⟩:=hl.mem hm
  rw [he] at ho;cases ho;exact hnf vs hdat
 refine wpAny_bind (frameOf_at hfr hd hl hf fun h₁ hs₁=>?_)
 refine wpAny_bind (wpAny_entryPlaceOf fun pl hpl=>?_)
 unfold EntryCells.newEntry newFields
 refine wpAny_bind (wpAny_newObj_type ?_ (hpl.sizeOk5 _ _ _ _ _))
 have he₁:h₁.get? e=some oe:=(hs₁.2.1 e hene).trans he
 dsimp only
 generalize hT:({ cls:=.type "traceback",dict:=none,data:=.fields ([head,.ref L,.none,rawInt L,.none]++(if pl.isEmpty then List.replicate 6 Value.none else pl)).toArray }:Obj)=oT
 have hTf:oT.isFreed=false:=by rw [←hT];rfl
 have hTd:oT.data=.fields ([head,.ref L,.none,rawInt L,.none]++(if pl.isEmpty then List.replicate 6 Value.none else pl)).toArray:=by rw [←hT]
 have he₂:=Heap.get?_push_of_some (h:=h₁) oT he₁
 refine wpAny_setField he₂ hdat hsz ?_
 have hTe:h₁.objs.size≠e:=Nat.ne_of_gt (Heap.lt_size he₁)
 have hd₃:=Obj.data_mapFields hdat (·.setIfInBounds 1 (Value.ref h₁.objs.size))
 have he₃:=Heap.get?_update_self (Obj.mapFields (·.setIfInBounds 1 (Value.ref h₁.objs.size))) he₂ (Obj.isFreed_of_fields hd₃)
 have hT₃:=(Heap.get?_update_other (h₁.push oT) (Obj.mapFields (·.setIfInBounds 1 (Value.ref h₁.objs.size))) (Ne.symm hTe)).trans (Heap.get?_push_size h₁ hTf)
 have keep:∀b o,b≠e→h₁.get? b=some o→((h₁.push oT).update e (Obj.mapFields (·.setIfInBounds 1 (Value.ref h₁.objs.size)))).get? b=some o:=fun b o hbe hb=>by
  rw [Heap.get?_update_other _ _ (Ne.symm hbe)]
  exact Heap.get?_push_of_some _ hb
 have t2:Touch lo (fls fl) h₁ ((h₁.push oT).update e (Obj.mapFields (·.setIfInBounds 1 (Value.ref h₁.objs.size)))):=by
  refine ⟨live_but ⟨_,he₃⟩ keep,fun b o e1 h1 _=>keep b o (fun q=>by obtain ⟨o',h1⟩:=h1;rw [q,hlo] at h1;cases h1) e1,fun b o e1 _ h2=>keep b o (fun q=>?_) e1,fun b o e1 h1=>⟨o.slots,keep b o (fun q=>hene (q▸h1)) e1⟩⟩
  rw [q,he₁] at e1
  cases e1
  have:=h2 vs hdat
  rw [hc] at this
  cases this
 have b1:base.StaysIn h₁:=fun b o hbo=>(hs₁.2.1 b fun hm=>by rw [(hl.mem hm).1] at hbo;cases hbo).trans (hbase b o hbo)
 have e3:([head,.ref L,.none,rawInt L,.none]++(if pl.isEmpty then List.replicate 6 Value.none else pl)).toArray[3]? = some (rawInt L):=by
  first|(simp;done)|(rcases hpl with rfl|⟨_,_,_,_,_,_,_,rfl⟩<;>simp)
 exact h _ ((slotsOnly_touch hs₁).trans t2) ⟨_,_,he₃,(Obj.cls_mapFields _ _).trans hc,hd₃,hlo,hb,.inr ⟨h₁.objs.size,oT,_,rawInt L,by simp [hsz],dead hz (by rw [hs₁.1];exact Heap.get?_none_of_le (Nat.le_refl _)),hTe,b1.fresh,hT₃,hTd,e3,by rw [←hT];intro q;cases q⟩⟩
theorem noteFrame_at {Q:Unit→Shared→Prop}(hfr:A.frames=some fl)(hd:∃e0 r,fl=e0::r∧e0.frame=env.frame)(hl:s.heap.FunFrames base fl)(hf:env.frame=some L)(X:ExcR base lo s.heap e C tr)(hbase:base.StaysIn s.heap)(hz:∀b o,lo.get? b=some o→∃o',s.heap.get? b=some o')
  (h:∀h',Touch lo (fls fl) s.heap h'→ExcR base lo h' e C true→Q () { s with heap:=h' }):wpAny M A (noteFrame (.ref e) env) Q Ev s:=by
 obtain ⟨oe,vs,he,hc,hdat,hlo,hb,ht⟩:=X
 unfold noteFrame
 simp only [hf]
 rcases ht with ⟨_,h1⟩|⟨T,oT,ts,fv,h1,hTl,hTe,hTb,hT,hTd,h3,hTc⟩
 ·refine wpAny_bind (wpAny_field he hdat h1 ?_)
  rw [if_neg (by decide)]
  exact newEntry_at hfr hd hl hf he hc hdat (Array.getElem?_eq_some_iff.mp h1).1 hlo hb hbase hz h
 ·refine wpAny_bind (wpAny_field he hdat h1 ?_)
  rw [if_pos (show (Value.ref T != Value.none)=true from by simp)]
  refine wpAny_bind (wpAny_field hT hTd h3 ?_)
  by_cases q:(fv==rawInt L)=true
  ·rw [if_pos q]
   exact wpAny_pure (h _ (Touch.refl ..) ⟨oe,vs,he,hc,hdat,hlo,hb,.inr ⟨T,oT,ts,fv,h1,hTl,hTe,hTb,hT,hTd,h3,hTc⟩⟩)
  ·rw [if_neg q]
   refine wpAny_bind (wpAny_setField hT hTd (Array.getElem?_eq_some_iff.mp h3).1 ?_)
   have hTF:T∉fls fl:=fun hm=>by
    obtain ⟨_,o,ho,hnf⟩:=hl.mem hm
    rw [hT] at ho;cases ho;exact hnf ts hTd
   have other:∀b,b≠T→(s.heap.update T (Obj.mapFields (·.setIfInBounds 3 Value.none))).get? b=s.heap.get? b:=fun b hb=>Heap.get?_update_other _ _ (Ne.symm hb)
   have t1:Touch lo (fls fl) s.heap (s.heap.update T (Obj.mapFields (·.setIfInBounds 3 Value.none))):=by
    refine ⟨live_but ⟨_,Heap.get?_update_self _ hT (Obj.isFreed_of_fields (Obj.data_mapFields hTd _))⟩ fun b o q e1=>(other b q).trans e1,fun b o e1 h1 _=>(other b fun q=>by obtain ⟨o',h1⟩:=h1;rw [q,hTl] at h1;cases h1).trans e1,fun b o e1 _ h2=>(other b fun q=>?_).trans e1,fun b o e1 h1=>⟨o.slots,(other b fun q=>hTF (q▸h1)).trans e1⟩⟩
    rw [q,hT] at e1
    cases e1
    exact hTc (h2 ts hTd)
   refine newEntry_at (s:={ s with heap:=s.heap.update T (Obj.mapFields (·.setIfInBounds 3 Value.none)) }) hfr hd (hl.of_keeps fun b o e1 h2=>⟨o,(other b fun q=>by rw [q,hT] at e1;cases e1;exact h2 ts hTd).trans e1,rfl⟩) hf ((other e (Ne.symm hTe)).trans he) hc hdat
    (Array.getElem?_eq_some_iff.mp h1).1 hlo hb (fun b o e1=>(other b fun q=>by rw [q,hTb] at e1;cases e1).trans (hbase b o e1)) (fun b o e1=>let ⟨o',e'⟩:=hz b o e1;t1.live b o' e') fun h' t x=>h h' (t1.trans t) x
theorem setFlight_at {Q:Unit→Shared→Prop}{fr:Option Addr}(hl:s.heap.FunFrames base fl)(X:ExcR base lo s.heap e C tr)
  (h:∀h',Touch lo (fls fl) s.heap h'→ExcR base lo h' e C tr→Q () { s with heap:=h' }):wpAny M A (setFlight (.ref e) fr) Q Ev s:=by
 obtain ⟨oe,vs,he,hc,hdat,hlo,hb,ht⟩:=X
 unfold setFlight
 rcases ht with ⟨z,h1⟩|⟨T,oT,ts,fv,h1,hTl,hTe,hTb,hT,hTd,h3,hTc⟩
 ·refine wpAny_bind (wpAny_field he hdat h1 ?_)
  rw [if_neg (by decide)]
  exact wpAny_pure (h _ (Touch.refl ..) ⟨oe,vs,he,hc,hdat,hlo,hb,.inl ⟨z,h1⟩⟩)
 ·refine wpAny_bind (wpAny_field he hdat h1 ?_)
  rw [if_pos (show (Value.ref T != Value.none)=true from by simp)]
  have hsz3:=(Array.getElem?_eq_some_iff.mp h3).1
  refine wpAny_setField hT hTd hsz3 (h _ ?_ ?_)
  all_goals have other:∀b,b≠T→(s.heap.update T (Obj.mapFields (·.setIfInBounds 3 (fr.elim Value.none fun f=>rawInt f)))).get? b=s.heap.get? b:=fun b hb=>Heap.get?_update_other _ _ (Ne.symm hb)
  ·have hTF:T∉fls fl:=fun hm=>by
    obtain ⟨_,o,ho,hnf⟩:=hl.mem hm
    rw [hT] at ho;cases ho;exact hnf ts hTd
   refine ⟨live_but ⟨_,Heap.get?_update_self _ hT (Obj.isFreed_of_fields (Obj.data_mapFields hTd _))⟩ fun b o q e1=>(other b q).trans e1,fun b o e1 h1 _=>(other b fun q=>by obtain ⟨o',h1⟩:=h1;rw [q,hTl] at h1;cases h1).trans e1,fun b o e1 _ h2=>(other b fun q=>?_).trans e1,fun b o e1 h1=>⟨o.slots,(other b fun q=>hTF (q▸h1)).trans e1⟩⟩
   rw [q,hT] at e1
   cases e1
   exact hTc (h2 ts hTd)
  ·exact ⟨oe,vs,(other e (Ne.symm hTe)).trans he,hc,hdat,hlo,hb,.inr ⟨T,_,_,_,h1,hTl,hTe,hTb,Heap.get?_update_self _ hT (Obj.isFreed_of_fields (Obj.data_mapFields hTd _)),Obj.data_mapFields hTd _,by simp [hsz3];exact rfl,by rw [Obj.cls_mapFields];exact hTc⟩⟩
theorem traced_field {Q:Value→Shared→Prop}(X:ExcR base lo s.heap e C true)(h:∀T,Q (.ref T) s):wpAny M A (field (.ref e) 1) Q Ev s:=by
 obtain ⟨oe,vs,he,hc,hdat,hlo,hb,ht⟩:=X
 rcases ht with ⟨z,_⟩|⟨T,oT,ts,fv,h1,_⟩
 ·cases z
 ·exact wpAny_field he hdat h1 (h T)
end
end Mine
end
section
set_option maxRecDepth 100000
open PySem PySem.Spec PySem.Calls PyProof.Rows PySem.W
namespace Mine
structure Cx (base:Heap)(K:Frag)(mg mb:Str→Option Value):Prop where
 X:K.In base
 g:base.Ns mainGlobals mg
 b:base.Ns builtinsNs mb
 lim:base.NoLimit
 bb:∀x:Str,x ≠ "__name__" → mb x=bootBuiltins x
def clsA (c:Nat):Nat:=match clsT[c]? with
 |some ci=>ci.addr
 |none=>0
structure Room (A:Around)(n:Nat):Prop where
 hh:A.handled=none
 dep:A.depth+8 * n+4 < recursionLimit
 uni:A.units+64 * n+100 < cLine
structure RoomC (A:Around)(n:Nat):Prop where
 hh:A.handled=none
 dep:A.depth+8 * n+2 < recursionLimit
 uni:A.units+64 * n+50 < cLine
section
variable (prog:Program)(w:World)(base:Heap)(fl:List PEnv)
def OutG {α β:Type}(rel:Io→Heap→β→α→Prop)(ι:Io)(s:Shared)(r:R α)(Q:β→Shared→Prop)(E:Value→Shared→Prop):Prop :=
 match r with
 |.ok d σ'=>∀v ι' h' tk',Ext (fls fl) [] ι ι' s.heap h'→HR prog w base ι' σ' h'→rel ι' h' v d→Q v { s with heap:=h',toks:=tk' }
 |.ex c σ'=>∀x ι' h' tk',Ext (fls fl) [] ι ι' s.heap h'→HR prog w base ι' σ' h'→ExcR base s.heap h' x (clsA c) false→E (.ref x) { s with heap:=h',toks:=tk' }
 |.no=>False
end
section
variable {prog:Program}{w:World}{base:Heap}{fl:List PEnv}{α β γ δ:Type}{rel:Io→Heap→β→α→Prop}{rel':Io→Heap→δ→γ→Prop}
variable {ι ι':Io}{s:Shared}{σ σ':Hp}{E:Value→Shared→Prop}{h':Heap}{tk':Nat}
theorem OutG.later {r:R α}{Q:β→Shared→Prop}(O:OutG prog w base fl rel ι s r Q E)(X:Ext (fls fl) [] ι ι' s.heap h'):OutG prog w base fl rel ι' { s with heap:=h',toks:=tk' } r Q E:=by
 cases r with
 |ok d σ'=>exact fun v ι₂ h₂ tk₂ e h r=>O v ι₂ h₂ tk₂ (X.trans e) h r
 |ex c σ'=>exact fun v ι₂ h₂ tk₂ e h r=>O v ι₂ h₂ tk₂ (X.trans e) h (r.lower X.live)
 |no=>exact O
theorem OutG.bind {x:M α}{f:α→M γ}{Q:δ→Shared→Prop}(O:OutG prog w base fl rel' ι s (M.bind x f σ) Q E) :
  OutG prog w base fl rel ι s (x σ) (fun v s₁=>∃d σ₁ ι₁,x σ=.ok d σ₁∧Ext (fls fl) [] ι ι₁ s.heap s₁.heap∧HR prog w base ι₁ σ₁ s₁.heap∧rel ι₁ s₁.heap v d∧OutG prog w base fl rel' ι₁ s₁ (f d σ₁) Q E) E:=by
 unfold M.bind at O
 cases hx:x σ with
 |ok d σ₁ =>
  rw [hx] at O
  exact fun v ι₁ h₁ tk₁ e h r=>⟨d,σ₁,ι₁,rfl,e,h,r,O.later e⟩
 |ex c σ₁=>rw [hx] at O;exact O
 |no=>rw [hx] at O;exact O
theorem OutG.bind0 {x:M α}{f:α→M γ}{Q:δ→Shared→Prop}(O:OutG prog w base fl rel' ι s (M.bind x f σ) Q E) :
  OutG prog w base fl rel ι s (x σ) (fun v s₁=>∃d σ₁ ι₁ t₁,x σ=.ok d σ₁∧s₁={ s with heap:=s₁.heap,toks:=t₁ }∧Ext (fls fl) [] ι ι₁ s.heap s₁.heap∧HR prog w base ι₁ σ₁ s₁.heap∧rel ι₁ s₁.heap v d∧OutG prog w base fl rel' ι s (f d σ₁) Q E) E:=by
 unfold M.bind at O
 cases hx:x σ with
 |ok d σ₁ =>
  rw [hx] at O
  exact fun v ι₁ h₁ tk₁ e h r=>⟨d,σ₁,ι₁,tk₁,rfl,rfl,e,h,r,O⟩
 |ex c σ₁=>rw [hx] at O;exact O
 |no=>rw [hx] at O;exact O
theorem OutG.now {d:α}{v:β}{Q:β→Shared→Prop}(O:OutG prog w base fl rel ι s (.ok d σ) Q E)(H:HR prog w base ι σ s.heap)(r:rel ι s.heap v d):Q v s:=O v ι s.heap s.toks (Ext.refl ..) H r
theorem OutG.tick {d:α}{v:β}{t:Nat}{Q:β→Shared→Prop}(O:OutG prog w base fl rel ι s (.ok d σ) Q E)(H:HR prog w base ι σ s.heap)(r:rel ι s.heap v d):Q v { s with toks:=t }:=O v ι s.heap t (Ext.refl ..) H r
theorem OutG.more {d:α}{v:β}{t:Nat}{Q:β→Shared→Prop}(O:OutG prog w base fl rel ι s (.ok d σ) Q E)(H:HR prog w base ι σ s.heap)(k:∀b o,s.heap.get? b=some o→h'.get? b=some o)(r:rel ι h' v d):Q v { s with heap:=h',toks:=t } :=
 O v ι h' t (Ext.more k) (H.more k) r
theorem keeps_push {h:Heap}{ob:Obj}:∀b o,h.get? b=some o→(h.push ob).get? b=some o:=fun _ _ e=>Heap.get?_push_of_some _ e
theorem HR.mainLt (H:HR prog w base ι σ s.heap):mainGlobals < s.heap.objs.size:=let ⟨o,e⟩:=H.sys;Heap.lt_size (H.stay _ o e)
theorem adr_lt (H:HR prog w base ι σ s.heap){b:Nat}(hb:b∈adr ι):b < s.heap.objs.size:=let ⟨_,e⟩:=H.alive hb;Heap.lt_size e
theorem OutG.tupNew {vs:List Value}{ds:List D}{t:Nat}{Q:Value→Shared→Prop}(O:OutG prog w base fl VR ι s (.ok (.tup ds) σ) Q E)(H:HR prog w base ι σ s.heap)(r:VRs ι s.heap vs ds)(n:Nat) :
  Q (.ref s.heap.objs.size) { s with heap:=s.heap.push { cls:=.type "tuple",data:=.seq vs.toArray n },toks:=t } :=
 O.more H keeps_push (.tup ⟨_,Heap.get?_push_size _ rfl,rfl,_,rfl⟩ (fun q=>absurd (adr_lt H q) (Nat.lt_irrefl _)) (r.mono (Mo.more keeps_push) H.toff))
theorem OutG.lstNew {vs:List Value}{ds:List D}{t:Nat}{Q:Value→Shared→Prop}(O:OutG prog w base fl VR ι s (.ok (.lst ds) σ) Q E)(H:HR prog w base ι σ s.heap)(r:VRs ι s.heap vs ds)(n:Nat) :
  Q (.ref s.heap.objs.size) { s with heap:=s.heap.push { cls:=.type "list",data:=.seq vs.toArray n },toks:=t } :=
 O.more H keeps_push (.lst ⟨_,Heap.get?_push_size _ rfl,rfl,_,rfl⟩ (fun q=>absurd (adr_lt H q) (Nat.lt_irrefl _)) (r.mono (Mo.more keeps_push) H.toff))
theorem OutG.listNew {vs:List Value}{ds:List D}{t:Nat}{Q:Value→Shared→Prop}(O:OutG prog w base fl VR ι s (alloc (.list ds) σ) Q E)(H:HR prog w base ι σ s.heap)(r:VRs ι s.heap vs ds)(n:Nat) :
  Q (.ref s.heap.objs.size) { s with heap:=s.heap.push { cls:=.type "list",data:=.seq vs.toArray n },toks:=t }:=by
 refine O _ (ι.add (s.heap.objs.size,none)) _ t (Ext.alloc keeps_push ?_) (H.alloc keeps_push ?_ ?_ (by simp) (.list (n:=n) (Heap.get?_push_size _ rfl) (r.mono ?_ H.toff))) (.loc (p:=(s.heap.objs.size,none)) (by rw [←H.len];simp))
 ·rintro b (rfl|q)
  ·exact Heap.get?_none_of_le (Nat.le_refl _)
  ·cases q
 ·rintro b (rfl|q)
  ·exact Heap.get?_none_of_le (Nat.le_refl _)
  ·cases q
 ·rintro b (rfl|q)
  ·exact H.mainLt
  ·cases q
 ·refine Mo.alloc keeps_push ?_
  rintro b (rfl|q)
  ·exact Heap.get?_none_of_le (Nat.le_refl _)
  ·cases q
theorem beyond {h h':Heap}(k:∀b o,h.get? b=some o→h'.get? b=some o):h.get? h'.objs.size=none:=by
 cases e:h.get? h'.objs.size with
 |none=>rfl
 |some o=>exact absurd (Heap.lt_size (k _ _ e)) (Nat.lt_irrefl _)
theorem OutG.dictNew {es:List (Str×Value)}{kvs:List (List Nat×D)}{t:Nat}{Q:Value→Shared→Prop}(O:OutG prog w base fl VR ι s (alloc (.dict kvs) σ) Q E)(H:HR prog w base ι σ s.heap)(k:∀b o,s.heap.get? b=some o→h'.get? b=some o){a:Nat}(ha:s.heap.get? a=none)(hlo:mainGlobals < a)
  (hd:h'.DictOf (PySem.strKind prog w) a es) (r:Ents ι s.heap es kvs):Q (.ref a) { s with heap:=h',toks:=t }:=by
 refine O _ (ι.add (a,none)) _ t (Ext.alloc k ?_) (H.alloc k ?_ ?_ (by simp) (.dict hd (r.mono ?_ H.toff))) (.loc (p:=(a,none)) (by rw [←H.len];simp))
 ·rintro b (rfl|q)
  ·exact ha
  ·cases q
 ·rintro b (rfl|q)
  ·exact ha
  ·cases q
 ·rintro b (rfl|q)
  ·exact hlo
  ·cases q
 ·refine Mo.alloc k ?_
  rintro b (rfl|q)
  ·exact ha
  ·cases q
end
end Mine
end
section
set_option maxRecDepth 100000
open PySem PySem.Spec PySem.Calls PyProof.Rows PySem.W
namespace Mine
def isSl:PySem.Expr→Bool
 |.Slice .. => true
 |_=>false
def isStar:PySem.Expr→Bool
 |.Starred .. => true
 |_=>false
def isSet:PySem.Expr→Bool
 |.Set .. => true
 |_=>false
def noSup:PySem.Expr→Bool
 |.Call (.Name x _) [] [] _=>x != "super"
 |_=>true
abbrev NEt:=List (List Nat×Nat)
def nm (s:String):List Nat:=(Str.ofString s).cps.toList
def bltT:List (Str×Value):=[
 ("len",.builtin "len"),("str",.type "str"),("max",.builtin "max"),("int",.type "int"),("tuple",.type "tuple"),("list",.type "list"),
 ("sorted",.builtin "sorted"),("dict",.type "dict"),("zip",.type "zip"),("isinstance",.builtin "isinstance"),("bool",.type "bool"),("Exception",.type "Exception")]
def blt (x:Str):Option Value:=bltT.lookup x
theorem blt_all:bltT.all (fun p=>decide (bootBuiltins p.1=some p.2)&&decide (p.1≠("__name__" : Str)))=true:=by decide +kernel
theorem blt_ok {x:Str}{v:Value}(e:blt x=some v):bootBuiltins x=some v∧x ≠ "__name__" := by
 have hm:=mem_of_lookup e
 have:=List.all_eq_true.mp blt_all _ hm
 simp only [Bool.and_eq_true,decide_eq_true_eq] at this
 exact this
def gv (K:Frag)(x:Str):Option Value:=match nsIn K mainGlobals x with
 |some (some v)=>some v
 |some none=>blt x
 |none=>none
def glob (K:Frag)(sc:PySem.Scope)(x:Str):Option Value:=if sc.names.lookup x=some .globalImplicit∧(x==("__debug__" : Str))=false then gv K x else none
def isTy (v:Option Value)(n:String):Bool:=match v with
 |some (.type m)=>m==n
 |_=>false
def isBu (v:Option Value)(n:String):Bool:=match v with
 |some (.builtin m)=>m==n
 |_=>false
def isRf (v:Option Value)(n:Nat):Bool:=match v with
 |some (.ref m)=>m==n
 |_=>false
mutual
def readK (K:Frag):D→Value→Bool
 |.none,v=>match v with|.none=>true|_=>false
 |.bool b,v=>match v with|.bool c=>b==c|_=>false
 |.int b,v=>match v with|.int c _=>b==c|_=>false
 |.str b,v=>match v with|.str c _=>b==c.cps.toList|_=>false
 |.tup ds,v=>match v with
  |.ref a=>match K.lookup a with
   |some ⟨.type "tuple",_,.seq xs _,_⟩=>readKs K ds xs.toList
   |_=>false
  |_=>false
 |.opq,v=>match v with|.ref _=>true|_=>false
 |_,_=>false
def readKs (K:Frag):List D→List Value→Bool
 |[],vs=>match vs with|[]=>true|_=>false
 |d::ds,vs=>match vs with|v::r=>readK K d v&&readKs K ds r|_=>false
end
def litC (c:Const)(d:D):Bool:=match c,d with
 |.none,.none=>true
 |.bool b,.bool c=>b==c
 |.int i,.int j=>i==j
 |.str x,.str y=>x.cps.toList==y
 |_,_=>false
def relab (scope sc:PySem.Scope):PySem.Scope :=
 { scope with names:=scope.names.map fun (n,k)=>if (k==.free&&sc.kind==.function&&sc.names.lookup n==some .cell) then (n,.cell) else (n,k) }
def chkN (sc:PySem.Scope)(NE:NEt)(i:Nat)(x:Str):Bool :=
 nlook NE x.cps.toList==some i&&NE.all (fun p=>p.2 != i||p.1==x.cps.toList)&&(sc.names.lookup x==some .local||sc.names.lookup x==some .cell)
def chkNs (sc:PySem.Scope)(NE:NEt):List Nat→List PySem.Expr→Bool
 |[],[]=>true
 |i::is,.Name x _::r=>chkN sc NE i x&&chkNs sc NE is r
 |_,_=>false
def chkT (sc:PySem.Scope)(NE:NEt):Tg→PySem.Expr→Bool
 |.n i,.Name x _=>chkN sc NE i x
 |.p is,.Tuple l _ _=>chkNs sc NE is l
 |.q i is,.Tuple [.Name x _,.Tuple l _ _] _ _=>chkN sc NE i x&&chkNs sc NE is l
 |_,_=>false
def tgN:Tg→PySem.Expr→NEt
 |.n i,.Name x _=>[(x.cps.toList,i)]
 |.p is,.Tuple l _ _=>(l.zip is).filterMap fun p=>match p.1 with
  |.Name x _=>some (x.cps.toList,p.2)
  |_=>none
 |_,_=>[]
def isLocN (sc:PySem.Scope):PySem.Expr→Bool
 |.Name x _=>sc.names.lookup x==some .local
 |_=>false
def tgL (sc:PySem.Scope):Tg→PySem.Expr→Bool
 |.n _,e=>isLocN sc e
 |.p _,.Tuple l _ _=>l.all (isLocN sc)
 |_,_=>false
def neC (scope:PySem.Scope)(t:Tg)(target:PySem.Expr)(NE:NEt):NEt:=tgN t target++NE.filter fun p=>scope.names.contains (toS p.1,.free)
def okC (scope sc:PySem.Scope):Bool :=
 scope.kind==.function&&scope.names.all (fun p=>p.2 != .cell&&(scope.names.lookup p.1==some p.2)&&(p.2 != .free||sc.names.lookup p.1==some .cell||sc.names.lookup p.1==some .free))&&scope.names.lookup defN != some .local
def cmOf:Cm→CmpOp
 |.eq=>.Eq|.ne=>.NotEq|.lt=>.Lt|.le=>.LtE|.gt=>.Gt|.ge=>.GtE|.isN=>.Is|.isnN=>.IsNot|.isin=>.In|.nin=>.NotIn
def boOf:Bo→Operator
 |.add=>.Add|.sub=>.Sub|.mul=>.Mult|.fdiv=>.FloorDiv|.mod=>.Mod|.pow=>.Pow|.addm=>.Add
def bmOf:Bm→String
 |.append => "append" | .pop => "pop" | .pop0 => "pop" | .extend => "extend" | .get1 => "get" | .get2 => "get" | .dpop2 => "pop" | .update => "update" | .join => "join"
def isNone:PySem.Expr→Bool
 |.Constant .none _ _=>true
 |_=>false
def nNone (op:Cm)(r:PySem.Expr):Bool:=match op with
 |.isN=>isNone r
 |.isnN=>isNone r
 |_=>true
def chkKeys:List (List Nat)→List (Option PySem.Expr)→Bool
 |[],[]=>true
 |k::ks,some (.Constant (.str x) _ _)::r=>(k==x.cps.toList)&&chkKeys ks r
 |_,_=>false
mutual
def chkE (K:Frag):Ex→PySem.Scope→NEt→PySem.Expr→Bool
 |.lit d,sc,_,e=>match e with
  |.Constant c _ _=>litC c d
  |.Name x _=>match glob K sc x with
   |some v=>readK K d v
   |none=>false
  |_=>false
 |.neg k,_,_,e=>match e with
  |.UnaryOp .USub (.Constant (.int i) _ _) _=>i==(k:Int)
  |_=>false
 |.var i,_,NE,e=>match e with
  |.Name x _=>nlook NE x.cps.toList==some i&&(x==("__debug__" : Str))==false&&(x==("__classdict__" : Str))==false
  |_=>false
 |.tup es,sc,NE,e=>match e with
  |.Tuple l _ _=>chkEs K es sc NE l&&decide (l.length < 1000)
  |_=>false
 |.vlist es,sc,NE,e=>match e with
  |.List l _=>chkEs K es sc NE l&&decide (l.length < 1000)
  |_=>false
 |.mlist es,sc,NE,e=>match e with
  |.List l _=>chkEs K es sc NE l&&decide (l.length < 1000)
  |_=>false
 |.mdict ks es,sc,NE,e=>match e with
  |.Dict keys vals _=>chkKeys ks keys&&chkEs K es sc NE vals&&ks.length==vals.length&&decide (ks.length≤15)
  |_=>false
 |.item a i,sc,NE,e=>match e with
  |.Subscript v sl _=>chkE K a sc NE v&&chkE K i sc NE sl&&isSl sl==false
  |_=>false
 |.lpick es i,sc,NE,e=>match e with
  |.Subscript (.List l _) sl _=>chkEs K es sc NE l&&chkE K i sc NE sl&&isSl sl==false&&decide (l.length < 1000)
  |_=>false
 |.rev a,sc,NE,e=>match e with
  |.Subscript v (.Slice none none (some (.UnaryOp .USub (.Constant (.int i) _ _) _)) _) _=>chkE K a sc NE v&&i==1
  |_=>false
 |.attr a n,sc,NE,e=>match e with
  |.Attribute v x _=>chkE K a sc NE v&&x==nameOf n&&dataN.contains n&&noSup v
  |_=>false
 |.call f es,sc,NE,e=>match e with
  |.Call (.Name x _) args [] _=>(match fnT[f]? with|some fi=>isRf (glob K sc x) fi.addr|none=>false)&&chkEs K es sc NE args
  |_=>false
 |.fresh f es,sc,NE,e=>match e with
  |.Call (.Name x _) args [] _=>(match fnT[f]? with|some fi=>isRf (glob K sc x) fi.addr|none=>false)&&chkEs K es sc NE args
  |_=>false
 |.meth a o es,sc,NE,e=>match e with
  |.Call (.Attribute v x ap) args [] p=>chkE K o sc NE v&&x==nameOf a&&!dataN.contains a&&decide (a < attrN.length)&&chkEs K es sc NE args&&decide (args.length < 30)&&noSup v&&ap.endLine==p.line
  |_=>false
 |.new c es,sc,NE,e=>match e with
  |.Call (.Name x _) args [] _=>isRf (glob K sc x) (clsA c)&&chkEs K es sc NE args&&keepIn K (.ref (clsA c))
  |_=>false
 |.bi b es,sc,NE,e=>match e with
  |.Call (.Name x _) args [] _=>match b with
   |.isBool=>isBu (glob K sc x) "isinstance" && (match args with
    |[a,.Name y _]=>isTy (glob K sc y) "bool" && chkEs K es sc NE [a]
    |_=>false)
   |.dictzip=>isTy (glob K sc x) "dict" && (match args with
    |[.Call (.Name y _) l [] _]=>isTy (glob K sc y) "zip" && chkEs K es sc NE l
    |_=>false)
   |.listzip=>isTy (glob K sc x) "list" && (match args with
    |[.Call (.Name y _) l [] _]=>isTy (glob K sc y) "zip" && chkEs K es sc NE l
    |_=>false)
   |.len=>isBu (glob K sc x) "len" && chkEs K es sc NE args
   |.str=>isTy (glob K sc x) "str" && chkEs K es sc NE args
   |.max=>isBu (glob K sc x) "max" && chkEs K es sc NE args
   |.int=>isTy (glob K sc x) "int" && chkEs K es sc NE args
   |.tuple=>isTy (glob K sc x) "tuple" && chkEs K es sc NE args
   |.list=>isTy (glob K sc x) "list" && chkEs K es sc NE args
   |.sorted=>isBu (glob K sc x) "sorted" && chkEs K es sc NE args
   |.dict=>isTy (glob K sc x) "dict" && chkEs K es sc NE args
  |_=>false
 |.bm b o es,sc,NE,e=>match e with
  |.Call (.Attribute v x ap) args [] p=>chkE K o sc NE v&&x==Str.ofString (bmOf b)&&chkEs K es sc NE args&&decide (args.length < 30)&&noSup v&&ap.endLine==p.line
  |_=>false
 |.andor a es,sc,NE,e=>match e with
  |.BoolOp .And l _=>a&&chkEs K es sc NE l
  |.BoolOp .Or l _=>!a&&chkEs K es sc NE l
  |_=>false
 |.not a,sc,NE,e=>match e with
  |.UnaryOp .Not v _=>chkE K a sc NE v
  |_=>false
 |.cmp op a b,sc,NE,e=>match e with
  |.Compare l [o] [r] _=>o==cmOf op&&chkE K a sc NE l&&chkE K b sc NE r&&behindInMarks o r==false&&nNone op r
  |_=>false
 |.bin op a b,sc,NE,e=>match e with
  |.BinOp l o r _=>o==boOf op&&chkE K a sc NE l&&chkE K b sc NE r
  |_=>false
 |.ite c a b,sc,NE,e=>match e with
  |.IfExp t l r _=>chkE K c sc NE t&&chkE K a sc NE l&&chkE K b sc NE r
  |_=>false
 |.comp x t it,sc,NE,e=>match e with
  |.ListComp elt [⟨target,iter,[],0⟩] scope _=>isSet iter==false&&chkE K it sc NE iter&&okC scope sc&&chkT (relab scope sc) (neC scope t target NE) t target&&tgL (relab scope sc) t target&&chkE K x (relab scope sc) (neC scope t target NE) elt
  |_=>false
 |.compc x t it c,sc,NE,e=>match e with
  |.ListComp elt [⟨target,iter,[f],0⟩] scope _=>isSet iter==false&&chkE K it sc NE iter&&okC scope sc&&chkT (relab scope sc) (neC scope t target NE) t target&&tgL (relab scope sc) t target&&chkE K x (relab scope sc) (neC scope t target NE) elt&&chkE K c (relab scope sc) (neC scope t target NE) f
  |_=>false
 |.compz x i j a b,sc,NE,e=>match e with
  |.ListComp elt [⟨target,.Call (.Name z _) [l,r] [] _,[],0⟩] scope _=>isTy (glob K sc z) "zip" && (isStar l==false)&&chkE K a sc NE l&&(isStar r==false)&&chkE K b sc NE r&&okC scope sc&&chkT (relab scope sc) (neC scope (.p [i,j]) target NE) (.p [i,j]) target&&tgL (relab scope sc) (.p [i,j]) target&&chkE K x (relab scope sc) (neC scope (.p [i,j]) target NE) elt
  |_=>false
 |.stuck,_,_,_=>true
def chkEs (K:Frag):Exs→PySem.Scope→NEt→List PySem.Expr→Bool
 |.nil,_,_,l=>match l with|[]=>true|_=>false
 |.cons x es,sc,NE,l=>match l with|e::r=>isStar e==false&&chkE K x sc NE e&&chkEs K es sc NE r|_=>false
end
def chkHn:Hn→List PySem.Stmt→Bool
 |.cont,[.Continue _]=>true
 |.ret d,[.Return (some (.Constant c _ _)) _]=>litC c d
 |.stuck,_=>true
 |_,_=>false
def notComp:PySem.Expr→Bool
 |.ListComp .. => false
 |.SetComp .. => false
 |.DictComp .. => false
 |_=>true
def swapC:PySem.Expr→PySem.Expr→Bool
 |.Tuple _ _ _,.Tuple vs _ _=>vs.all (foldedForSure 8)||!vs.all (constantsAlone 8)
 |_,_=>true
def bmOk:List Value→Bool
 |[.type a,.type b,.type c]=>a == "Exception" && b == "BaseException" && c == "object"
 |[.ref _,.type a,.type b,.type c]=>a == "Exception" && b == "BaseException" && c == "object"
 |_=>false
def chkX (K:Frag)(C:Nat):Bool:=(match K.lookup C with
 |some ⟨.type "type",_,.cls ⟨_,_,.ref C'::bm,_,_,true,_,_,_,_,false⟩,⟨[_,_,_,_,some (.builtin n),_]⟩⟩=>C'==C&&bmOk bm&&n == "Exception.__new__"
 |_=>false)&&findIn K (.ref C) "__init__" == some (some (.ref 36))&&typeIn K (.ref 36)==some (.type "function")&&keepIn K (.ref C) &&
 findIn K (.ref C) "__setattr__" == some (some (.builtin "object.__setattr__"))&&findIn K (.ref C) "message" == some none&&findIn K (.ref C) "spot" == some none
mutual
def chkS (K:Frag)(sc:PySem.Scope)(NE:NEt):St→PySem.Stmt→Bool
 |.asn t e,s=>match s with
  |.Assign [target] v _=>chkT sc NE t target&&chkE K e sc NE v&&swapC target v
  |_=>false
 |.sattr o a e,s=>match s with
  |.Assign [.Attribute v x _] r _=>chkE K o sc NE v&&x==nameOf a&&dataN.contains a&&chkE K e sc NE r
  |_=>false
 |.sitem o i e,s=>match s with
  |.Assign [.Subscript v sl _] r _=>chkE K o sc NE v&&chkE K i sc NE sl&&chkE K e sc NE r
  |_=>false
 |.ex e,s=>match s with
  |.Expr v _=>chkE K e sc NE v&&notComp v
  |_=>false
 |.iff c a b,s=>match s with
  |.If t x y _=>chkE K c sc NE t&&chkSs K sc NE a x&&chkSs K sc NE b y
  |_=>false
 |.whl c b,s=>match s with
  |.While t x [] _=>chkE K c sc NE t&&chkSs K sc NE b x
  |_=>false
 |.for t e b,s=>match s with
  |.For target it x [] _=>isSet it==false&&chkT sc NE t target&&chkE K e sc NE it&&chkSs K sc NE b x
  |_=>false
 |.ret e,s=>match s with
  |.Return (some v) _=>chkE K e sc NE v
  |.Return none _=>match e with|.lit .none=>true|_=>false
  |_=>false
 |.raise c es,s=>match s with
  |.Raise (some (.Call (.Name x _) args [] _)) none _=>isRf (glob K sc x) (clsA c)&&chkX K (clsA c)&&chkEs K es sc NE args
  |_=>false
 |.try b k hn,s=>match s with
  |.Try x [.ExceptHandler (some (.Name y _)) none hb _] [] [] _=>chkSs K sc NE b x&&isRf (glob K sc y) (clsA k)&&k != 0&&exmOne K (.ref (clsA k)) (.ref (clsA k))==some true&&chkHn hn hb
  |.Try x [.ExceptHandler (some (.Name y _)) (some _) _ _] [] [] _=>chkSs K sc NE b x&&isRf (glob K sc y) (clsA k)&&(match hn with|.stuck=>true|_=>false)
  |_=>false
 |.cont,s=>match s with
  |.Continue _=>true
  |_=>false
 |.deff i,s=>match s with
  |.FunctionDef name ⟨[],args,none,[],[],none,[]⟩ (_::_) [] none [] scope none bind _=>bind==name&&name==defN&&sc.names.lookup defN==some .cell&&args.all (fun a=>a.annotation.isNone)&&scope.names.all (fun p=>p.2 != .free||sc.names.lookup p.1==some .cell||sc.names.lookup p.1==some .free)&&chkN sc NE i name
  |_=>false
 |.stuck,_=>true
def chkSs (K:Frag)(sc:PySem.Scope)(NE:NEt):Sts→List PySem.Stmt→Bool
 |.nil,l=>match l with|[]=>true|_=>false
 |.cons x xs,l=>match l with|s::r=>chkS K sc NE x s&&chkSs K sc NE xs r|_=>false
end
def chkF (K:Frag)(fi:FnI)(names:List (List Nat)):Bool:=match K.lookup fi.addr with
 |some ⟨.type "function",_,.func fd,_⟩=>match fd.body with
  |.stmts body=>chkSs K fd.scope ((names.take fi.nv).zipIdx.reverse.reverse) fi.body body
  |_=>false
 |_=>false
def goodC (K:Frag)(ci:ClsI):Bool:=ci.isExc||(hasDictIn K ci.addr&&plainGet K ci.addr (toS [])&&plainOver K ci.addr&&makesIn K ci.addr &&
 findIn K (.ref ci.addr) "__setattr__" == some (some (.builtin "object.__setattr__")) &&
 dataN.all (fun a=>findIn K (.ref ci.addr) (nameOf a)==some none&&(match takerIn K ci.addr (nameOf a) with|some none=>true|_=>false)) &&
 ci.meths.all (fun p=>match fnT[p.2]? with
  |some fi=>findIn K (.ref ci.addr) (nameOf p.1)==some (some (.ref fi.addr))&&typeIn K (.ref fi.addr)==some (.type "function")
  |none=>false) &&
 (match fnT[ci.init]? with
  |some fi=>findIn K (.ref ci.addr) "__init__" == some (some (.ref fi.addr))&&typeIn K (.ref fi.addr)==some (.type "function")
  |none=>false)&&keepIn K (.ref ci.addr))
def goodK (K:Frag):Bool:=clsT.all (goodC K)&&fnT.all (fun fi=>keepIn K (.ref fi.addr))&&(fnT.zip varN).all fun p=>chkF K p.1 p.2
end Mine
end
section
set_option maxRecDepth 100000
open PySem PySem.Spec PySem.Calls PyProof.Rows PySem.W
namespace Mine
theorem seqIndex_of {ds:List D}{i:Int}{d:D}(e:idx ds i=some d):∃j,seqIndex? i ds.length=some j∧ds[j]? = some d∧-(2 ^ 63)≤i∧i < 2 ^ 63∧(0≤i→j=i.toNat)∧(i < 0→-(ds.length:Int)≤i∧j=(i+ds.length).toNat):=by
 unfold idx at e
 by_cases hm:ds.length≤most
 ·rw [if_pos hm] at e
  unfold most at hm
  by_cases h0:0≤i
  ·rw [if_pos h0] at e
   have hlt:=(List.getElem?_eq_some_iff.mp e).1
   refine ⟨i.toNat,?_,e,by omega,by omega,fun _=>rfl,by omega⟩
   unfold seqIndex?
   have:¬i < 0:=by omega
   simp only [this,if_false]
   have h2:i < (ds.length:Int):=by omega
   simp [h0,h2]
  ·rw [if_neg h0] at e
   by_cases h1:-i≤(ds.length:Int)
   ·rw [if_pos h1] at e
    have hlt:=(List.getElem?_eq_some_iff.mp e).1
    refine ⟨((ds.length:Int)+i).toNat,?_,e,by omega,by omega,by omega,fun _=>⟨by omega,by congr 1;omega⟩⟩
    unfold seqIndex?
    have:i < 0:=by omega
    simp only [this,if_true]
    have h2:0≤i+(ds.length:Int):=by omega
    simp [h2,this]
    congr 1;omega
   ·rw [if_neg h1] at e
    cases e
 ·rw [if_neg hm] at e
  cases e
section
variable {prog:Program}{w:World}{base:Heap}{fl:List PEnv}{ι:Io}{s:Shared}{σ:Hp}{E:Value→Shared→Prop}{A:Around}
theorem Ents.find {h:Heap}{es:List (Str×Value)}{kvs:List (List Nat×D)}(r:Ents ι h es kvs)(x:List Nat) :
  (∃v d,valueAt es (toS x)=some v∧find kvs x=some d∧VR ι h v d)∨(valueAt es (toS x)=none∧find kvs x=none):=by
 induction r with
 |nil=>exact .inr ⟨rfl,rfl⟩
 |@cons k v d es kvs hv _ ih =>
  by_cases q:k=x
  ·subst q
   exact .inl ⟨v,d,by simp [valueAt],by simp [Mine.find],hv⟩
  ·have q':¬toS k=toS x:=fun z=>q (toS_inj z)
   have e1:valueAt ((toS k,v)::es) (toS x)=valueAt es (toS x):=by simp [valueAt,List.find?_cons,q']
   have e2:Mine.find ((k,d)::kvs) x=Mine.find kvs x:=by simp [Mine.find,q]
   rw [e1,e2]
   exact ih
theorem Ents.length {h:Heap}{es:List (Str×Value)}{kvs:List (List Nat×D)}(r:Ents ι h es kvs):es.length=kvs.length:=by
 induction r with
 |nil=>rfl
 |cons _ _ ih=>simp [ih]
theorem Ents.keys {h:Heap}{es:List (Str×Value)}{kvs:List (List Nat×D)}(r:Ents ι h es kvs):es.map (·.1)=kvs.map (fun p=>toS p.1):=by
 induction r with
 |nil=>rfl
 |cons _ _ ih=>simp [ih]
theorem HR.notSys (H:HR prog w base ι σ s.heap){p:Nat×Option Nat}{l:Nat}(e:ι.nums[l]? = some p):(p.1==sysModules)=false:=by
 have:=H.low p.1 (nad_of e (.inl rfl))
 simp only [beq_eq_false_iff_ne]
 exact Nat.ne_of_gt this
theorem sub_plain {slice:PySem.Expr}{o i:Value}(h:isSl slice=false):subscripted slice false o i=operate [o,i] (getItem o i):=by
 cases slice<;>first|rfl|cases h
theorem VR.locAt {v:Value}{l:Nat}{h:Heap}(r:VR ι h v (.loc l)):∃p,ι.nums[l]? = some p∧v=.ref p.1:=by
 cases r with|loc e=>exact ⟨_,e,rfl⟩
theorem VR.intAt {v:Value}{i:Int}{h:Heap}(r:VR ι h v (.int i)):∃t,v=.int i t:=by
 cases r with|int _ t=>exact ⟨t,rfl⟩
theorem VR.strAt {v:Value}{x:List Nat}{h:Heap}(r:VR ι h v (.str x)):∃t,v=.str (toS x) t:=by
 cases r with|str y t=>exact ⟨t,by rw [toS_cps]⟩
theorem VR.boolAt {v:Value}{b:Bool}{h:Heap}(r:VR ι h v (.bool b)):v=.bool b:=by
 cases r;rfl
theorem VR.noneAt {v:Value}{h:Heap}(r:VR ι h v .none):v=.none:=by
 cases r;rfl
theorem VR.tupAt {v:Value}{ds:List D}{h:Heap}(r:VR ι h v (.tup ds)):∃a vs,v=.ref a∧IsTup h a vs.toArray∧VRs ι h vs ds:=by
 cases r with|tup a _ b=>exact ⟨_,_,rfl,a,b⟩
theorem VR.tupOff {v:Value}{ds:List D}{h:Heap}(r:VR ι h v (.tup ds)):∃a vs,v=.ref a∧IsTup h a vs.toArray∧a∉adr ι∧VRs ι h vs ds:=by
 cases r with|tup a n b=>exact ⟨_,_,rfl,a,n,b⟩
theorem VR.lstAt {v:Value}{ds:List D}{h:Heap}(r:VR ι h v (.lst ds)):∃a vs,v=.ref a∧h.IsList a vs.toArray∧a∉adr ι∧VRs ι h vs ds:=by
 cases r with|lst a n b=>exact ⟨_,_,rfl,a,n,b⟩
theorem HR.listAt (H:HR prog w base ι σ s.heap){l:Nat}{p:Nat×Option Nat}{ds:List D}(e:ι.nums[l]? = some p)(q:σ[l]? = some (.list ds)):∃vs n,p.2=none∧s.heap.get? p.1=some (lstObj vs n)∧VRs ι s.heap vs ds:=by
 obtain ⟨p',e',r⟩:=H.obj l _ q
 rw [e] at e'
 cases e'
 cases r with|list a b=>exact ⟨_,_,rfl,a,b⟩
theorem HR.dictAt (H:HR prog w base ι σ s.heap){l:Nat}{p:Nat×Option Nat}{kvs:List (List Nat×D)}(e:ι.nums[l]? = some p)(q:σ[l]? = some (.dict kvs)):∃es,p.2=none∧s.heap.DictOf (PySem.strKind prog w) p.1 es∧Ents ι s.heap es kvs:=by
 obtain ⟨p',e',r⟩:=H.obj l _ q
 rw [e] at e'
 cases e'
 cases r with|dict a b=>exact ⟨_,rfl,a,b⟩
theorem HR.instAt (H:HR prog w base ι σ s.heap){l c:Nat}{p:Nat×Option Nat}{fs:List (Nat×D)}(e:ι.nums[l]? = some p)(q:σ[l]? = some (.inst c fs)) :
  ∃dx ci es n,p.2=some dx∧clsT[c]? = some ci∧ci.isExc=false∧s.heap.get? p.1=some (instObj ci.addr dx)∧s.heap.get? dx=some (dictOf es n)∧Flds w.params ι s.heap es fs:=by
 obtain ⟨p',e',r⟩:=H.obj l _ q
 rw [e] at e'
 cases e'
 cases r with|inst a x b c d=>exact ⟨_,_,_,_,rfl,a,x,b,c,d⟩
theorem isList_of {h:Heap}{a:Addr}{vs:List Value}{n:Nat}(e:h.get? a=some (lstObj vs n)):h.IsList a vs.toArray:=⟨_,e,rfl,n,rfl⟩
theorem item_list {value slice:PySem.Expr}{a:Addr}{vs:List Value}{ds:List D}{d:D}{k:Int}{t:Tok}{Q:Value→Shared→Prop}(hsl:isSl slice=false)(hl:s.heap.IsList a vs.toArray)(r:VRs ι s.heap vs ds)(e:idx ds k=some d)
  (h:∀v,VR ι s.heap v d→Q v s):wpAny (model prog w) A (subscriptTail value slice (.ref a) (.int k t)) Q E s:=by
 obtain ⟨j,_,hj,hlo,hhi,h0,h1⟩:=seqIndex_of e
 obtain ⟨v,hv,rv⟩:=r.get hj
 refine tail_any hl.typeIs PySem.list_getitem_lookup ?_ (sub_plain hsl)
 by_cases hk:0≤k
 ·exact wpAny_getItem_list hl hk hhi (by rw [h0 hk] at hv;simpa using hv) (h v rv)
 ·have hk:k < 0:=by omega
  obtain ⟨h2,h3⟩:=h1 hk
  refine wpAny_getItem_list_neg hl hk ?_ hlo ?_ (h v rv)
  ·simpa [r.length] using h2
  ·rw [h3] at hv
   simpa [r.length] using hv
theorem item_at {value slice:PySem.Expr}{v u:Value}{a i:D}{Q:Value→Shared→Prop}(hsl:isSl slice=false)(H:HR prog w base ι σ s.heap)(ra:VR ι s.heap v a)(ri:VR ι s.heap u i)(O:OutG prog w base fl VR ι s (itemOf a i σ) Q E) :
  wpAny (model prog w) A (subscriptTail value slice v u) Q E s:=by
 unfold itemOf at O
 split at O
 ·rename_i ds k
  obtain ⟨a,vs,rfl,ht,rs⟩:=ra.tupAt
  obtain ⟨t,rfl⟩:=ri.intAt
  split at O
  ·rename_i d e
   obtain ⟨j,hs,hj,hlo,hhi,_⟩:=seqIndex_of e
   obtain ⟨v,hv,rv⟩:=rs.get hj
   exact tail_any ht.typeIs slot_tuple_getitem.lookup (getItem_tuple ht hlo hhi (by simpa [rs.length] using hs) (by simpa using hv) (O.now H rv)) (sub_plain hsl)
  ·exact O.elim
 ·rename_i ds k
  obtain ⟨a,vs,rfl,hl,_,rs⟩:=ra.lstAt
  obtain ⟨t,rfl⟩:=ri.intAt
  split at O
  ·rename_i d e
   exact item_list hsl hl rs e fun v rv=>O.now H rv
  ·exact O.elim
 ·rename_i l k
  obtain ⟨p,e,rfl⟩:=ra.locAt
  obtain ⟨t,rfl⟩:=ri.intAt
  split at O
  ·rename_i ds q
   obtain ⟨vs,n,_,hg,rs⟩:=H.listAt e q
   split at O
   ·rename_i d e
    exact item_list hsl (isList_of hg) rs e fun v rv=>O.now H rv
   ·exact O.elim
  ·exact O.elim
 ·rename_i l x
  obtain ⟨p,e,rfl⟩:=ra.locAt
  obtain ⟨t,rfl⟩:=ri.strAt
  split at O
  ·rename_i kvs q
   obtain ⟨es,_,hd,rs⟩:=H.dictAt e q
   split at O
   ·rename_i d hf
    rcases rs.find x with ⟨v,d',h1,h2,h3⟩|⟨_,h2⟩
    ·rw [hf] at h2
     cases h2
     exact tail_any hd.typeIs slot_dict_getitem.lookup (wpAny_getItem_of (knd:=PySem.strKind prog w) (k:=toS x) (by simp [PySem.strKind,Value.isStrOf]) hd.mapOf h1 (O.tick H h3)) (sub_plain hsl)
    ·rw [hf] at h2
     cases h2
   ·exact O.elim
  ·exact O.elim
 ·exact O.elim
end
end Mine
end
section
set_option maxRecDepth 100000
open PySem PySem.Spec PySem.Calls PyProof.Rows PySem.W
namespace Mine
structure ClsOK (K:Frag)(ci:ClsI):Prop where
 hasDict:hasDictIn K ci.addr=true
 pget:plainGet K ci.addr (toS [])=true
 over:plainOver K ci.addr=true
 makes:makesIn K ci.addr=true
 setattr:findIn K (.ref ci.addr) "__setattr__" = some (some (.builtin "object.__setattr__"))
 data:∀a∈dataN,findIn K (.ref ci.addr) (nameOf a)=some none∧takerIn K ci.addr (nameOf a)=some none
 meths:∀p∈ci.meths,∃fi,fnT[p.2]? = some fi∧findIn K (.ref ci.addr) (nameOf p.1)=some (some (.ref fi.addr))∧typeIn K (.ref fi.addr)=some (.type "function")
 init:∃fi,fnT[ci.init]? = some fi∧findIn K (.ref ci.addr) "__init__" = some (some (.ref fi.addr))∧typeIn K (.ref fi.addr)=some (.type "function")
 keep:keepIn K (.ref ci.addr)=true
theorem clsOK_of {K:Frag}{ci:ClsI}(g:goodC K ci=true)(hx:ci.isExc=false):ClsOK K ci:=by
 unfold goodC at g
 rw [hx,Bool.false_or] at g
 simp only [Bool.and_eq_true,beq_iff_eq] at g
 obtain ⟨⟨⟨⟨⟨⟨⟨⟨g1,g2⟩,g3⟩,g4⟩,g5⟩,g6⟩,g7⟩,g8⟩,g9⟩:=g
 refine ⟨g1,g2,g3,g4,g5,fun a ha=>?_,fun p hp=>?_,?_,g9⟩
 ·have:=List.all_eq_true.mp g6 a ha
  simp only [Bool.and_eq_true,beq_iff_eq] at this
  refine ⟨this.1,?_⟩
  have h2:=this.2
  split at h2
  ·rename_i q;exact q
  ·cases h2
 ·have:=List.all_eq_true.mp g7 p hp
  split at this
  ·rename_i fi q
   simp only [Bool.and_eq_true,beq_iff_eq] at this
   exact ⟨fi,q,this⟩
  ·cases this
 ·split at g8
  ·rename_i fi q
   simp only [Bool.and_eq_true,beq_iff_eq] at g8
   exact ⟨fi,q,g8⟩
  ·cases g8
theorem attrN_nodup:attrN.Nodup:=by decide +kernel
theorem dataN_lt:∀a∈dataN,a < attrN.length:=by decide +kernel
theorem nameOf_inj {a b:Nat}(ha:a < attrN.length)(hb:b < attrN.length)(e:nameOf a=nameOf b):a=b:=by
 unfold nameOf at e
 have e1:=toS_inj e
 rw [List.getD_eq_getElem?_getD,List.getD_eq_getElem?_getD,List.getElem?_eq_getElem ha,List.getElem?_eq_getElem hb,Option.getD_some,Option.getD_some] at e1
 exact (List.getElem_inj attrN_nodup).mp e1
section
variable {prog:Program}{w:World}{base:Heap}{fl:List PEnv}{ι:Io}{s:Shared}{σ:Hp}{E:Value→Shared→Prop}{A:Around}{K:Frag}{mg mb:Str→Option Value}
theorem isStr_str (x y:Str)(t:Tok):(Value.str x t).isStr y=(x==y):=rfl
theorem Flds.get {P:Params}{h:Heap}{es:List DictEntry}{fs:List (Nat×D)}(r:Flds P ι h es fs){a:Nat}(ha:a < attrN.length) :
  (∃v d,getL (nameOf a) es=some (some v)∧fget fs a=some d∧VR ι h v d)∨(getL (nameOf a) es=some none∧fget fs a=none):=by
 induction r with
 |nil=>exact .inr ⟨rfl,rfl⟩
 |@cons v b d t es fs hv hb _ ih =>
  have hb':=dataN_lt b hb
  by_cases q:b=a
  ·subst q
   refine .inl ⟨v,d,?_,by simp [fget],hv⟩
   unfold getL
   rw [List.find?_cons_of_pos (by rw [isStr_str];simp)]
  ·have q':¬nameOf b=nameOf a:=fun z=>q (nameOf_inj hb' ha z)
   have e1:getL (nameOf a) (⟨PyData.keyHash P (nameOf b),.str (nameOf b) t,v⟩::es)=getL (nameOf a) es:=by
    unfold getL
    rw [List.find?_cons_of_neg (by rw [isStr_str];simpa using q')]
    rw [List.any_cons]
    have:DictEntry.refKey (⟨PyData.keyHash P (nameOf b),.str (nameOf b) t,v⟩:DictEntry)=false:=rfl
    rw [this,Bool.false_or]
   have e2:fget ((b,d)::fs) a=fget fs a:=by simp [fget,q]
   rw [e1,e2]
   exact ih
theorem Flds.length {P:Params}{h:Heap}{es:List DictEntry}{fs:List (Nat×D)}(r:Flds P ι h es fs):es.length=fs.length:=by
 induction r with
 |nil=>rfl
 |cons _ _ _ ih=>simp [ih]
theorem Flds.put {P:Params}{h:Heap}{es:List DictEntry}{fs:List (Nat×D)}(r:Flds P ι h es fs){a:Nat}{v:Value}{d:D}{t:Tok}(ha:a∈dataN)(hv:VR ι h v d) :
  Flds P ι h (putL (nameOf a) (PyData.keyHash P (nameOf a)) (.str (nameOf a) t) v es) (fput fs a d):=by
 induction r with
 |nil=>exact .cons hv ha .nil
 |@cons v' b d' t' es fs hv' hb r ih =>
  by_cases q:b=a
  ·subst q
   have e1:putL (nameOf b) (PyData.keyHash P (nameOf b)) (.str (nameOf b) t) v (⟨PyData.keyHash P (nameOf b),.str (nameOf b) t',v'⟩::es)=⟨PyData.keyHash P (nameOf b),.str (nameOf b) t',v⟩::es:=by
    simp [putL,isStr_str]
   have e2:fput ((b,d')::fs) b d=(b,d)::fs:=by simp [fput]
   rw [e1,e2]
   exact .cons hv hb r
  ·have q':¬nameOf b=nameOf a:=fun z=>q (nameOf_inj (dataN_lt b hb) (dataN_lt a ha) z)
   have e1:putL (nameOf a) (PyData.keyHash P (nameOf a)) (.str (nameOf a) t) v (⟨PyData.keyHash P (nameOf b),.str (nameOf b) t',v'⟩::es)=⟨PyData.keyHash P (nameOf b),.str (nameOf b) t',v'⟩::putL (nameOf a) (PyData.keyHash P (nameOf a)) (.str (nameOf a) t) v es:=by
    simp [putL,isStr_str,q']
   have e2:fput ((b,d')::fs) a d=(b,d')::fput fs a d:=by simp [fput,q]
   rw [e1,e2]
   exact .cons hv' hb ih
theorem fput_len (fs:List (Nat×D))(a:Nat)(d:D):(fput fs a d).length≤fs.length+1:=by
 induction fs with
 |nil=>simp [fput]
 |cons p r ih =>
  obtain ⟨b,e⟩:=p
  unfold fput
  split<;>simp<;>omega
theorem goodCls {ci:ClsI}{c:Nat}(g:clsT.all (goodC K)=true)(e:clsT[c]? = some ci)(hx:ci.isExc=false):ClsOK K ci:=clsOK_of (List.all_eq_true.mp g ci (List.mem_of_getElem? e)) hx
theorem inst_of {x dx C:Nat}{es:List DictEntry}{n:Nat}{h:Heap}(e1:h.get? x=some (instObj C dx))(e2:h.get? dx=some (dictOf es n)):InstAt h x (instObj C dx) C (some (dictOf es n)):=⟨e1,rfl,rfl,e2⟩
theorem attr_at {v:Value}{o:D}{a:Nat}{expr:Bool}{Q:Value→Shared→Prop}(C:Cx base K mg mb)(g:clsT.all (goodC K)=true)(ha:a∈dataN)(H:HR prog w base ι σ s.heap)(ro:VR ι s.heap v o)(O:OutG prog w base fl VR ι s (attrOf a o σ) Q E) :
  wpAny (model prog w) A (getAttr v (nameOf a) expr) Q E s:=by
 unfold attrOf at O
 split at O
 ·rename_i l
  obtain ⟨p,e,rfl⟩:=ro.locAt
  split at O
  ·rename_i c fs q
   obtain ⟨dx,ci,es,n,hp,hc,hx,h1,h2,rs⟩:=H.instAt e q
   have CO:=goodCls g hc hx
   split at O
   ·rename_i d hf
    rcases rs.get (dataN_lt a ha) with ⟨u,d',g1,g2,rv⟩|⟨_,g2⟩
    ·rw [hf] at g2
     cases g2
     exact get_value (C.X.keeps H.stay) (inst_of h1 h2) (plainGet_of CO.pget).1 (findObj_own CO.hasDict (CO.data a ha).1 rfl (by rw [lookIn_dict];exact g1)) rv.handed (O.tick H rv)
    ·rw [hf] at g2
     cases g2
   ·exact O.elim
  ·exact O.elim
 ·exact O.elim
theorem meth_at {v:Value}{o:D}{a c f:Nat}{ci:ClsI}{pl:Sem Bool}{Q:Value×List Value→Shared→Prop}(C:Cx base K mg mb)(g:clsT.all (goodC K)=true)(ha:a∉dataN)(hl:a < attrN.length)(H:HR prog w base ι σ s.heap)(ro:VR ι s.heap v o)
  (hc:classOf σ o=some c) (hci:clsT[c]? = some ci) (hf:nget ci.meths a=some f) (h:∀fi,fnT[f]? = some fi→Q (.ref fi.addr,[v]) s):wpAny (model prog w) A (getMethod v (nameOf a) pl) Q E s:=by
 unfold classOf at hc
 split at hc
 ·rename_i l
  obtain ⟨p,e,rfl⟩:=ro.locAt
  split at hc
  ·rename_i c' fs q
   cases hc
   obtain ⟨dx,ci',es,n,hp,hc',hx,h1,h2,rs⟩:=H.instAt e q
   rw [hci] at hc'
   cases hc'
   have CO:=goodCls g hci hx
   have hm:(a,f)∈ci.meths:=by
    revert hf
    generalize ci.meths=l
    induction l with
    |nil=>intro hf;cases hf
    |cons p r ih =>
     obtain ⟨k,u⟩:=p
     intro hf
     unfold nget at hf
     split at hf
     ·rename_i z;cases hf;subst z;exact List.mem_cons_self
     ·exact List.mem_cons_of_mem _ (ih hf)
   obtain ⟨fi,g1,g2,g3⟩:=CO.meths _ hm
   have hn:getL (nameOf a) es=some none:=by
    rcases rs.get hl with ⟨u,d',z1,z2,rv⟩|⟨z1,_⟩
    ·exfalso
     have:∀{es':List DictEntry} {fs':List (Nat×D)},Flds w.params ι s.heap es' fs'→∀d',fget fs' a=some d'→a∈dataN:=by
      intro es' fs' r
      induction r with
      |nil=>intro d' h;cases h
      |@cons v b d t es fs hv hb _ ih =>
       intro d' h
       unfold fget at h
       split at h
       ·rename_i z;subst z;exact hb
       ·exact ih d' h
     exact ha (this rs _ z2)
    ·exact z1
   exact method_fn (C.X.keeps H.stay) (inst_of h1 h2) (plainGet_of CO.pget).1 (plainGet_of CO.pget).2 g2 g3 (by show (lookIn (nameOf a) (dictOf es n)).map _=_;rw [lookIn_dict,hn];rfl) (h fi g1)
  ·cases hc
 ·cases hc
theorem osa_raw {C x dx:Nat}{name:Str}{tk:Tok}{v:Value}{es es':List DictEntry}{n n':Nat}{R:Result→Shared→Prop}(X:K.In s.heap)(h1:s.heap.get? x=some (instObj C dx))(h2:s.heap.get? dx=some (dictOf es n))
  (hp:plainOver K C=true) (ht:takerIn K C name=some none) (hh:hasDictIn K C=true) (hl:(getL name es).isSome=true)
  (e:Obj.putName name (PyData.keyHash w.params name) (.str name s.toks) v (dictOf es n)=dictOf es' n') (hz:es'.length≤1000)
  (h:∀h',h'.objs.size=s.heap.objs.size→h'.get? dx=some (dictOf es' n')→(∀b,b≠dx→h'.get? b=s.heap.get? b)→R (.ok (.ret .none)) { s with heap:=h',toks:=s.toks+1 }) :
  codeAny (model prog w) A (.call (.builtin "object.__setattr__") ⟨[.ref x,.str name tk,v],[]⟩) R s:=by
 refine osa_open X (inst_of h1 h2) hp ht fun b=>?_
 obtain ⟨cd,hc,hd'⟩:=any_some hh
 refine wpAny_bind (wpAny_pure (wpAny_bind (wpAny_bind (wpAny_loadPart h1 (wpAny_bind ((looks_clsIn X hc).here ?_))))))
 rw [hd']
 refine wpAny_pure (a:=some dx) (wpAny_bind (wpAny_pure (wpAny_bind ?_)))
 unfold nsSet
 refine wpAny_bind (wpAny_bind (wpAny_askSetting (wpAny_pure (wpAny_bind (wpAny_mkText (wpAny_bind (wpAny_loadPart h2 ?_)))))))
 have c:(!es.toArray.any (·.key.isStr name)&&es.toArray.any (·.refKey))=false:=by
  rw [←Array.any_toList,←Array.any_toList]
  unfold getL at hl
  split at hl
  ·rename_i en he
   rw [List.any_eq_true.mpr ⟨en,List.mem_of_find?_eq_some he,List.find?_some he⟩];rfl
  ·split at hl
   ·cases hl
   ·rename_i z;rw [Bool.not_eq_true] at z;rw [z,Bool.and_false]
 dsimp only
 rw [aRefKeyMayBeTheName_at,c]
 have hself:=Heap.get?_update_self (Obj.putName name (PyData.keyHash w.params name) (.str name s.toks) v) h2 (by rw [e];rfl)
 rw [e] at hself
 refine wpAny_updatePart h2 ?_
 refine wpAny_bind (wpAny_lookBehind hself (pastItsLine_dict (by rw [List.size_toArray,sizeLine_eq];omega)) ?_)
 exact wpAny_pure (h _ (Heap.size_after_update ..) hself fun b hb=>Heap.get?_update_other _ _ (Ne.symm hb))
theorem store_at {v u:Value}{o d:D}{a:Nat}{σ':Hp}{Q:Unit→Shared→Prop}(C:Cx base K mg mb)(g:clsT.all (goodC K)=true)(ha:a∈dataN)(H:HR prog w base ι σ s.heap)(hF:∀b∈fls fl,b∉adr ι)(ro:VR ι s.heap v o)(rd:VR ι s.heap u d)
  (e:storeAttr o a d σ=some σ') (O:∀h' tk',Ext (fls fl) [] ι ι s.heap h'→HR prog w base ι σ' h'→Q () { s with heap:=h',toks:=tk' }):wpAny (model prog w) A (setAttr v (nameOf a) u) Q E s:=by
 unfold storeAttr at e
 split at e
 ·rename_i l
  obtain ⟨p,ep,rfl⟩:=ro.locAt
  split at e
  ·rename_i c fs q
   split at e
   ·rename_i hlen
    cases e
    obtain ⟨dx,ci,es,n,hp,hc,hx,h1,h2,rs⟩:=H.instAt ep q
    have CO:=goodCls g hc hx
    have X:=C.X.keeps H.stay
    have hsome:(getL (nameOf a) es).isSome=true:=by
     rcases rs.get (dataN_lt a ha) with ⟨u,d',z1,_,_⟩|⟨z1,_⟩<;>rw [z1]<;>rfl
    refine set_plain X (inst_of h1 h2) CO.setattr (osa_raw (s:={ s with toks:=s.toks+1 }) X h1 h2 CO.over (CO.data a ha).2 CO.hasDict hsome (putName_dict ..) ?_ fun h' hz hg ho=>?_)
    ·have:=(rs.put (t:=s.toks+1) ha rd).length
     rw [this]
     exact Nat.le_trans (fput_len ..) (by omega)
    ·have hs:∀b,¬(b=p.1∨p.2=some b)→h'.get? b=s.heap.get? b:=fun b hb=>ho b fun z=>hb (.inr (z▸hp))
     have hne:p.1≠dx:=by
      intro z
      rw [z] at h1
      have:=h1.symm.trans h2
      cases this
     exact O h' _ (Ext.upd ep hF (fun b hb=>by
      rcases hb with rfl|q
      ·exact ⟨_,(ho _ hne).trans h1⟩
      ·rw [hp] at q
       cases q
       exact ⟨_,hg⟩) hs) (H.upd ep q hs (by
      have m:=Mo.upd (ι:=ι) ep hs
      obtain ⟨p1,p2⟩:=p
      cases hp
      exact .inst hc hx ((ho _ hne).trans h1) hg ((rs.put ha rd).mono m H.toff)))
   ·cases e
  ·cases e
 ·cases e
end
end Mine
end
section
set_option maxRecDepth 100000
open PySem PySem.Spec PySem.Calls PyProof.Rows PySem.W
namespace Mine
mutual
def toP:D→PyData
 |.none=>.none
 |.bool b=>.bool b
 |.int i=>.int i
 |.str x=>.str (toS x)
 |.tup ds=>.tuple (toPs ds)
 |.lst ds=>.list (toPs ds)
 |.loc _=>.none
 |.opq=>.none
def toPs:List D→List PyData
 |[]=>[]
 |d::ds=>toP d::toPs ds
end
mutual
theorem plain_lay:∀d:D,d.plain=true→(toP d).canLay0=true
 |.none,_=>by simp [toP,PyData.canLay0]
 |.bool _,_=>by simp [toP,PyData.canLay0]
 |.int _,_=>by simp [toP,PyData.canLay0]
 |.str x,h=>by
  simp only [D.plain] at h
  simp only [toP,PyData.canLay0,toS,PyData.strOk]
  simpa using h
 |.tup ds,h=>by
  simp only [D.plain] at h
  simp only [toP,PyData.canLay0]
  exact plains_lay ds h
 |.lst ds,h=>by
  simp only [D.plain] at h
  simp only [toP,PyData.canLay0]
  exact plains_lay ds h
 |.loc _,h=>by simp [D.plain] at h
 |.opq,h=>by simp [D.plain] at h
theorem plains_lay:∀ds:List D,D.plainAll ds=true→PyData.canLayAll0 (toPs ds)=true
 |[],_=>by simp [toPs,PyData.canLayAll0]
 |d::ds,h=>by
  simp only [D.plainAll,Bool.and_eq_true] at h
  simp only [toPs,PyData.canLayAll0,plain_lay d h.1,plains_lay ds h.2,Bool.and_self]
end
mutual
theorem shal_depth:∀(d:D) (n:Nat),d.shal n=true→(toP d).depth≤n
 |.none,_,_=>by simp [toP,PyData.depth]
 |.bool _,_,_=>by simp [toP,PyData.depth]
 |.int _,_,_=>by simp [toP,PyData.depth]
 |.str _,_,_=>by simp [toP,PyData.depth]
 |.loc _,_,_=>by simp [toP,PyData.depth]
 |.opq,_,_=>by simp [toP,PyData.depth]
 |.tup ds,n,h=>by
  cases n with
  |zero=>simp [D.shal] at h
  |succ n =>
   simp only [D.shal] at h
   simp only [toP,PyData.depth]
   exact Nat.succ_le_succ (shalAll_depth ds n h)
 |.lst ds,n,h=>by
  cases n with
  |zero=>simp [D.shal] at h
  |succ n =>
   simp only [D.shal] at h
   simp only [toP,PyData.depth]
   exact Nat.succ_le_succ (shalAll_depth ds n h)
theorem shalAll_depth:∀(ds:List D) (n:Nat),D.shalAll n ds=true→PyData.depthAll (toPs ds)≤n
 |[],_,_=>by simp [toPs,PyData.depthAll]
 |d::ds,n,h=>by
  simp only [D.shalAll,Bool.and_eq_true] at h
  simp only [toPs,PyData.depthAll]
  exact Nat.max_le.mpr ⟨shal_depth d n h.1,shalAll_depth ds n h.2⟩
end
theorem toS_beq (x y:List Nat):(toS x==toS y)=(x==y):=by
 by_cases h:x=y
 ·subst h;rw [beq_self_eq_true,beq_self_eq_true]
 ·have:¬toS x=toS y:=fun z=>h (toS_inj z)
  rw [beq_eq_false_iff_ne.mpr h,beq_eq_false_iff_ne.mpr this]
mutual
theorem eqb_eqv:∀a b:D,a.plain=true→b.plain=true→PyData.eqv (toP a) (toP b)=a.eqb b
 |a,.loc _,_,h=>by simp [D.plain] at h
 |a,.opq,_,h=>by simp [D.plain] at h
 |.loc _,_,h,_=>by simp [D.plain] at h
 |.opq,_,h,_=>by simp [D.plain] at h
 |.none,b,_,_=>by cases b<;>simp_all [toP,PyData.eqv,D.eqb,D.plain]
 |.bool _,b,_,_=>by cases b<;>simp_all [toP,PyData.eqv,D.eqb,D.plain]
 |.int _,b,_,_=>by cases b<;>simp_all [toP,PyData.eqv,D.eqb,D.plain]
 |.str x,.str y,_,_=>by simp only [toP,PyData.eqv,D.eqb];exact toS_beq x y
 |.str _,.none,_,_=>by simp [toP,PyData.eqv,D.eqb]
 |.str _,.bool _,_,_=>by simp [toP,PyData.eqv,D.eqb]
 |.str _,.int _,_,_=>by simp [toP,PyData.eqv,D.eqb]
 |.str _,.tup _,_,_=>by simp [toP,PyData.eqv,D.eqb]
 |.str _,.lst _,_,_=>by simp [toP,PyData.eqv,D.eqb]
 |.tup xs,.tup ys,h1,h2=>by
  simp only [D.plain] at h1 h2
  simp only [toP,PyData.eqv,D.eqb]
  exact eqbAll_eqv xs ys h1 h2
 |.tup _,.none,_,_=>by simp [toP,PyData.eqv,D.eqb]
 |.tup _,.bool _,_,_=>by simp [toP,PyData.eqv,D.eqb]
 |.tup _,.int _,_,_=>by simp [toP,PyData.eqv,D.eqb]
 |.tup _,.str _,_,_=>by simp [toP,PyData.eqv,D.eqb]
 |.tup _,.lst _,_,_=>by simp [toP,PyData.eqv,D.eqb]
 |.lst xs,.lst ys,h1,h2=>by
  simp only [D.plain] at h1 h2
  simp only [toP,PyData.eqv,D.eqb]
  exact eqbAll_eqv xs ys h1 h2
 |.lst _,.none,_,_=>by simp [toP,PyData.eqv,D.eqb]
 |.lst _,.bool _,_,_=>by simp [toP,PyData.eqv,D.eqb]
 |.lst _,.int _,_,_=>by simp [toP,PyData.eqv,D.eqb]
 |.lst _,.str _,_,_=>by simp [toP,PyData.eqv,D.eqb]
 |.lst _,.tup _,_,_=>by simp [toP,PyData.eqv,D.eqb]
theorem eqbAll_eqv:∀a b:List D,D.plainAll a=true→D.plainAll b=true→PyData.eqvAll (toPs a) (toPs b)=D.eqbAll a b
 |[],[],_,_=>by simp [toPs,PyData.eqvAll,D.eqbAll]
 |[],_::_,_,_=>by simp [toPs,PyData.eqvAll,D.eqbAll]
 |_::_,[],_,_=>by simp [toPs,PyData.eqvAll,D.eqbAll]
 |x::xs,y::ys,h1,h2=>by
  simp only [D.plainAll,Bool.and_eq_true] at h1 h2
  simp only [toPs,PyData.eqvAll,D.eqbAll,eqb_eqv x y h1.1 h2.1,eqbAll_eqv xs ys h1.2 h2.2]
end
theorem any_eqv (a:D)(ha:a.plain=true):∀ds:List D,D.plainAll ds=true→((toPs ds).any fun y=>PyData.eqv y (toP a))=anyEq a ds
 |[],_=>by simp [toPs,anyEq]
 |d::ds,h=>by
  simp only [D.plainAll,Bool.and_eq_true] at h
  simp only [toPs,List.any_cons,anyEq,eqb_eqv d a h.1 ha,any_eqv a ha ds h.2]
section
variable {prog:Program}{w:World}{base:Heap}{fl:List PEnv}{ι:Io}{s:Shared}{σ:Hp}{E:Value→Shared→Prop}{A:Around}
mutual
theorem VR.reads {h:Heap}:∀{v:Value} {d:D},VR ι h v d→d.plain=true→∃as,Reads h v (toP d) as
 |_,_,.none,_=>⟨[],by simp only [toP];exact .none⟩
 |_,_,.bool b,_=>⟨[],by simp only [toP];exact .bool b⟩
 |_,_,.int i t,_=>⟨[],by simp only [toP];exact .int i t⟩
 |_,_,.str x t,_=>⟨[],by simp only [toP,toS_cps];exact .str x t⟩
 |_,_,.tup ⟨o,e1,c,n,q⟩ _ r,h=>by
  simp only [D.plain] at h
  obtain ⟨as,ra⟩:=VRs.reads r h
  simp only [toP]
  exact ⟨as,.tuple e1 c q (by simpa using ra)⟩
 |_,_,.lst ⟨o,e1,c,n,q⟩ _ r,h=>by
  simp only [D.plain] at h
  obtain ⟨as,ra⟩:=VRs.reads r h
  simp only [toP]
  exact ⟨_::as,.list e1 c q (by simpa using ra)⟩
 |_,_,.loc _,h=>by simp [D.plain] at h
 |_,_,.opq,h=>by simp [D.plain] at h
theorem VRs.reads {h:Heap}:∀{vs:List Value} {ds:List D},VRs ι h vs ds→D.plainAll ds=true→∃as,ReadsAll h vs (toPs ds) as
 |_,_,.nil,_=>⟨[],by simp only [toPs];exact .nil⟩
 |_,_,.cons a r,h=>by
  simp only [D.plainAll,Bool.and_eq_true] at h
  obtain ⟨as,ra⟩:=VR.reads a h.1
  obtain ⟨bs,rb⟩:=VRs.reads r h.2
  simp only [toPs]
  exact ⟨_,.cons ra rb⟩
end
theorem opnd_reads {v:Value}{d x:D}(H:HR prog w base ι σ s.heap)(r:VR ι s.heap v d)(e:opnd σ d=some x)(hp:x.plain=true):∃as,Reads s.heap v (toP x) as:=by
 unfold opnd at e
 split at e
 ·rename_i l
  obtain ⟨p,ep,rfl⟩:=r.locAt
  split at e
  ·rename_i ds q
   cases e
   obtain ⟨vs,n,_,hg,rs⟩:=H.listAt ep q
   simp only [D.plain] at hp
   obtain ⟨as,ra⟩:=VRs.reads rs hp
   simp only [toP]
   exact ⟨_::as,.list hg rfl rfl (by simpa using ra)⟩
  ·cases e
 ·cases e
  exact r.reads hp
theorem okEq_room {x y:D}(h:okEq x y=true):x.plain=true∧y.plain=true∧min (toP x).depth (toP y).depth≤60:=by
 simp only [okEq,Bool.and_eq_true,Bool.or_eq_true] at h
 refine ⟨h.1.1,h.1.2,?_⟩
 rcases h.2 with q|q
 ·exact Nat.le_trans (Nat.min_le_right _ _) (shal_depth _ _ q)
 ·exact Nat.le_trans (Nat.min_le_left _ _) (shal_depth _ _ q)
theorem okIn_room {a:D}{ds:List D}(h:okIn a ds=true):a.plain=true∧D.plainAll ds=true∧min (PyData.depthAll (toPs ds)) (toP a).depth≤60:=by
 simp only [okIn,Bool.and_eq_true,Bool.or_eq_true] at h
 refine ⟨h.1.1,h.1.2,?_⟩
 rcases h.2 with q|q
 ·exact Nat.le_trans (Nat.min_le_right _ _) (shal_depth _ _ q)
 ·exact Nat.le_trans (Nat.min_le_left _ _) (shalAll_depth _ _ q)
def isNb:D→Bool
 |.none=>true
 |_=>false
theorem isN_of {h:Heap}{v:Value}{a:D}(r:VR ι h v a):(v==Value.none)=isNb a:=by cases r<;>rfl
theorem cmp_at {n:Nat}{op:Cm}{v u:Value}{a b:D}{Q:Value→Shared→Prop}(Rm:Room A n)(H:HR prog w base ι σ s.heap)(ra:VR ι s.heap v a)(rb:VR ι s.heap u b)(hn:(op=.isN∨op=.isnN)→u=.none)
  (O:OutG prog w base fl VR ι s (cmpD op a b σ) Q E):wpAny (model prog w) A (compareOp (cmOf op) v u) Q E s:=by
 have hu:A.units+100 < cLine:=by have:=Rm.uni;omega
 unfold cmpD at O
 cases op with
 |eq =>
  simp only at O
  split at O
  ·rename_i x y ex ey
   split at O
   ·rename_i ok
    obtain ⟨h1,h2,h3⟩:=okEq_room ok
    obtain ⟨as,r1⟩:=opnd_reads H ra ex h1
    obtain ⟨bs,r2⟩:=opnd_reads H rb ey h2
    exact PySem.SeqAt.compareEq_reads r1 r2 (plain_lay _ h1) (plain_lay _ h2) (by omega) (O.now H (by rw [eqb_eqv _ _ h1 h2];exact .bool _))
   ·exact O.elim
  ·exact O.elim
 |ne =>
  simp only at O
  split at O
  ·rename_i x y ex ey
   split at O
   ·rename_i ok
    obtain ⟨h1,h2,h3⟩:=okEq_room ok
    obtain ⟨as,r1⟩:=opnd_reads H ra ex h1
    obtain ⟨bs,r2⟩:=opnd_reads H rb ey h2
    exact PySem.SeqAt.compareNe_reads r1 r2 (plain_lay _ h1) (plain_lay _ h2) (by omega) (O.now H (by rw [eqb_eqv _ _ h1 h2];exact .bool _))
   ·exact O.elim
  ·exact O.elim
 |lt =>
  simp only at O
  split at O
  ·obtain ⟨t,rfl⟩:=ra.intAt
   obtain ⟨t',rfl⟩:=rb.intAt
   exact PyProof.Rows.lt_int (O.now H (.bool _))
  ·exact O.elim
 |le =>
  simp only at O
  split at O
  ·obtain ⟨t,rfl⟩:=ra.intAt
   obtain ⟨t',rfl⟩:=rb.intAt
   exact PyProof.Rows.le_int (O.now H (.bool _))
  ·exact O.elim
 |gt =>
  simp only at O
  split at O
  ·obtain ⟨t,rfl⟩:=ra.intAt
   obtain ⟨t',rfl⟩:=rb.intAt
   exact PyProof.Rows.gt_int (O.now H (.bool _))
  ·exact O.elim
 |ge =>
  simp only at O
  split at O
  ·obtain ⟨t,rfl⟩:=ra.intAt
   obtain ⟨t',rfl⟩:=rb.intAt
   exact PyProof.Rows.ge_int (O.now H (.bool _))
  ·exact O.elim
 |isN =>
  cases hn (.inl rfl)
  refine is_none ?_
  rw [isN_of ra]
  cases a<;>first|exact O.elim|exact O.now H (.bool _)
 |isnN =>
  cases hn (.inr rfl)
  refine isNot_none ?_
  rw [isN_of ra]
  cases a<;>first|exact O.elim|exact O.now H (.bool _)
 |isin =>
  simp only at O
  split at O
  ·rename_i ds
   split at O
   ·rename_i ok
    obtain ⟨h1,h2,h3⟩:=okIn_room ok
    obtain ⟨as,r1⟩:=ra.reads h1
    obtain ⟨bs,r2⟩:=rb.reads (d:=.tup ds) (by simp only [D.plain];exact h2)
    simp only [toP] at r2
    exact PySem.SeqAt.in_tuple_reads r2 r1 (plains_lay _ h2) (plain_lay _ h1) (by omega) (O.now H (by rw [any_eqv _ h1 _ h2];exact .bool _))
   ·exact O.elim
  ·rename_i ds
   split at O
   ·rename_i ok
    obtain ⟨h1,h2,h3⟩:=okIn_room ok
    obtain ⟨as,r1⟩:=ra.reads h1
    obtain ⟨bs,r2⟩:=rb.reads (d:=.lst ds) (by simp only [D.plain];exact h2)
    simp only [toP] at r2
    exact PySem.SeqAt.in_list_reads r2 r1 (plains_lay _ h2) (plain_lay _ h1) (by omega) (O.now H (by rw [any_eqv _ h1 _ h2];exact .bool _))
   ·exact O.elim
  ·rename_i l
   obtain ⟨p,ep,rfl⟩:=rb.locAt
   split at O
   ·rename_i kvs x q
    obtain ⟨t,rfl⟩:=ra.strAt
    obtain ⟨es,_,hd,rs⟩:=H.dictAt ep q
    refine wpAny_in_of (knd:=PySem.strKind prog w) (k:=toS x) (by simp [PySem.strKind,Value.isStrOf]) (H.notSys ep) hd.mapOf ?_
    have e1:(valueAt es (toS x)).isSome=(find kvs x).isSome:=by
     rcases rs.find x with ⟨v,d,z1,z2,_⟩|⟨z1,z2⟩<;>rw [z1,z2]<;>rfl
    rw [e1]
    exact O.tick H (.bool _)
   ·exact O.elim
  ·exact O.elim
 |nin =>
  simp only at O
  split at O
  ·rename_i ds
   split at O
   ·rename_i ok
    obtain ⟨h1,h2,h3⟩:=okIn_room ok
    obtain ⟨as,r1⟩:=ra.reads h1
    obtain ⟨bs,r2⟩:=rb.reads (d:=.tup ds) (by simp only [D.plain];exact h2)
    simp only [toP] at r2
    exact PySem.SeqAt.notIn_tuple_reads r2 r1 (plains_lay _ h2) (plain_lay _ h1) (by omega) (O.now H (by rw [any_eqv _ h1 _ h2];exact .bool _))
   ·exact O.elim
  ·rename_i ds
   split at O
   ·rename_i ok
    obtain ⟨h1,h2,h3⟩:=okIn_room ok
    obtain ⟨as,r1⟩:=ra.reads h1
    obtain ⟨bs,r2⟩:=rb.reads (d:=.lst ds) (by simp only [D.plain];exact h2)
    simp only [toP] at r2
    exact PySem.SeqAt.notIn_list_reads r2 r1 (plains_lay _ h2) (plain_lay _ h1) (by omega) (O.now H (by rw [any_eqv _ h1 _ h2];exact .bool _))
   ·exact O.elim
  ·rename_i l
   obtain ⟨p,ep,rfl⟩:=rb.locAt
   split at O
   ·rename_i kvs x q
    obtain ⟨t,rfl⟩:=ra.strAt
    obtain ⟨es,_,hd,rs⟩:=H.dictAt ep q
    refine wpAny_notIn_of (knd:=PySem.strKind prog w) (k:=toS x) (by simp [PySem.strKind,Value.isStrOf]) (H.notSys ep) hd.mapOf ?_
    have e1:(valueAt es (toS x)).isSome=(find kvs x).isSome:=by
     rcases rs.find x with ⟨v,d,z1,z2,_⟩|⟨z1,z2⟩<;>rw [z1,z2]<;>rfl
    rw [e1]
    exact O.tick H (.bool _)
   ·exact O.elim
  ·exact O.elim
end
end Mine
end
section
set_option maxRecDepth 100000
open PySem PySem.Spec PySem.Calls PyProof.Rows PySem.W
namespace Mine
theorem tup_seq_mul:seqRepeat? (.type "tuple")=pure (some (.builtin "tuple.__mul__")):=by
 unfold seqRepeat?
 rw [PySem.seqSlot_of (T := "tuple") (name := "__mul__") (id := "tuple.__mul__") PySem.F.slot_tuple_mul.lookup (by decide +kernel),PySem.seqSlot_of (T := "tuple") (name := "__rmul__") (id := "tuple.__rmul__") PySem.F.slot_tuple_rmul.lookup (by decide +kernel)]
 rfl
theorem tup_noFill_mul:fillsNumberSlot (.type "tuple") "mul" = pure false :=
 PySem.fillsNumberSlot_seq (id := "tuple.__mul__") (r:=some (.builtin "tuple.__rmul__")) PySem.F.slot_tuple_mul.lookup (by decide +kernel) PySem.F.slot_tuple_rmul.lookup (by decide +kernel)
theorem int_rmul_tup (a:Int)(t:Tok)(l:Addr)(items:Array Value)(n:Nat)(dd:Option Addr)(sl:Array (Option Value)) :
  Meets (Builtin.«int.__rmul__» ⟨[.int a t,.ref l],[]⟩) (fun _ R s=>s.heap.get? l=some { cls:=.type "tuple",dict:=dd,data:=.seq items n,slots:=sl }∧R (.ok (.ret Value.notImplemented)) s) :=
 .of_wp fun prog w A R s h=>by obtain ⟨hp,g,d,tk,os⟩:=s;obtain ⟨hl,h⟩:=h;wp_walk;exact ⟨_,rfl,h⟩
theorem tup_mul0 (l:Addr)(items:Array Value)(n:Nat)(u:Tok)(dd:Option Addr)(sl:Array (Option Value))(hc:items.isEmpty=false) :
  Meets (Builtin.«tuple.__mul__» ⟨[.ref l,.int 0 u],[]⟩) (fun _ R s=>s.heap.get? l=some { cls:=.type "tuple",dict:=dd,data:=.seq items n,slots:=sl }∧R (.ok (.ret (Value.ref s.heap.objs.size))) { s with heap:=s.heap.push { cls:=Value.type "tuple",data:=Data.seq #[] },toks:=s.toks }) :=
 .of_wp fun prog w A R s h=>by
  obtain ⟨hp,g,d,tk,os⟩:=s
  obtain ⟨hl,h⟩:=h
  have f1:=AutoSeq1.idx_int
  wp_walk using wpAny_loadPart' hl
  exact ⟨_,rfl,h⟩
theorem sizeLine_ge:100000≤sizeLine:=by rw [sizeLine_eq];decide
section
variable {prog:Program}{w:World}{base:Heap}{fl:List PEnv}{ι:Io}{s:Shared}{σ:Hp}{E:Value→Shared→Prop}{A:Around}
theorem add_tups {l b:Addr}{vs ws:List Value}{Q:Value→Shared→Prop}(hl:IsTup s.heap l vs.toArray)(hb:IsTup s.heap b ws.toArray)(h1:0 < vs.length)(h2:0 < ws.length)(hz:vs.length+ws.length≤100000)
  (h:Q (.ref s.heap.objs.size) { s with heap:=s.heap.push { cls:=.type "tuple",data:=.seq (vs++ws).toArray } }):wpAny (model prog w) A (binaryOp .Add (.ref l) (.ref b)) Q E s:=by
 obtain ⟨⟨cls,dd,data,sl⟩,ho,hc,n,hd⟩:=id hl
 obtain ⟨⟨cls2,dd2,data2,sl2⟩,ho2,hc2,n2,hd2⟩:=id hb
 simp only at hc hd hc2 hd2
 subst hc hd hc2 hd2
 have e:vs.toArray++ws.toArray=(vs++ws).toArray:=by simp
 refine concat_meets ⟨_,ho,rfl⟩ ⟨_,ho2,rfl⟩ noFill_tuple_add seq_tuple_add PySem.F.slot_tuple_add PySem.F.entry_tuple_add (PySem.F.args_tuple_add_2 _ _)
  (tuple_addW2 l b vs.toArray ws.toArray n n2 dd dd2 sl sl2 (by cases vs<;>simp_all) (by cases ws<;>simp_all) (by have:=sizeLine_ge;simpa using Nat.le_trans hz this)) ⟨ho,ho2,?_⟩
 rw [e]
 exact h
theorem add_lsts {l b:Addr}{vs ws:List Value}{Q:Value→Shared→Prop}(hl:s.heap.IsList l vs.toArray)(hb:s.heap.IsList b ws.toArray)(hz:vs.length+ws.length≤100000)
  (h:Q (.ref s.heap.objs.size) { s with heap:=s.heap.push { cls:=.type "list",data:=.seq (vs++ws).toArray } }):wpAny (model prog w) A (binaryOp .Add (.ref l) (.ref b)) Q E s:=by
 obtain ⟨⟨cls,dd,data,sl⟩,ho,hc,n,hd⟩:=id hl
 obtain ⟨⟨cls2,dd2,data2,sl2⟩,ho2,hc2,n2,hd2⟩:=id hb
 simp only at hc hd hc2 hd2
 subst hc hd hc2 hd2
 have e:vs.toArray++ws.toArray=(vs++ws).toArray:=by simp
 refine concat_meets ⟨_,ho,rfl⟩ ⟨_,ho2,rfl⟩ noFill_list_add seq_list_add PySem.F.slot_list_add PySem.F.entry_list_add (PySem.F.args_list_add_2 _ _)
  (list_addW l b vs.toArray ws.toArray n n2 dd dd2 sl sl2 (by have:=sizeLine_ge;simpa using Nat.le_trans hz this)) ⟨ho,ho2,?_⟩
 rw [e]
 exact h
theorem mul_tup0 {l:Addr}{vs:List Value}{u:Tok}{Q:Value→Shared→Prop}(hl:IsTup s.heap l vs.toArray)(h1:0 < vs.length)
  (h:Q (.ref s.heap.objs.size) { s with heap:=s.heap.push { cls:=.type "tuple",data:=.seq #[] } }):wpAny (model prog w) A (binaryOp .Mult (.ref l) (.int 0 u)) Q E s:=by
 obtain ⟨⟨cls,dd,data,sl⟩,ho,hc,n,hd⟩:=id hl
 simp only at hc hd
 subst hc hd
 refine wpAny_binaryOp_repeat_ref (T := "tuple") (U := "int") (by decide) ⟨_,ho,rfl⟩ (fun s'=>typeIs_int s' 0 u) tup_noFill_mul PySem.F.fills_int_mul PySem.F.slot_int_rmul tup_seq_mul PySem.F.slot_int_index.lookup ?_
 refine call_meets PySem.F.slot_int_rmul (typeIs_int _ _ _) PySem.F.entry_int_rmul (PySem.F.args_int_rmul_2 _ _) (int_rmul_tup 0 u l vs.toArray n dd sl) ⟨ho,?_⟩
 refine ⟨rfl,⟨_,ho,rfl⟩,?_⟩
 exact call_meets PySem.F.slot_tuple_mul ⟨_,ho,rfl⟩ PySem.F.entry_tuple_mul (PySem.F.args_tuple_mul_2 _ _) (tup_mul0 l vs.toArray n u dd sl (by cases vs<;>simp_all)) ⟨ho,h⟩
theorem lst_of {v:Value}{d:D}{ds:List D}(H:HR prog w base ι σ s.heap)(r:VR ι s.heap v d)(e:lsAt σ d=some ds):∃a vs,v=.ref a∧s.heap.IsList a vs.toArray∧VRs ι s.heap vs ds:=by
 cases d<;>simp only [lsAt,itemsAt] at e<;>try (cases e;done)
 ·cases e
  obtain ⟨a,vs,h1,h2,_,h3⟩:=r.lstAt
  exact ⟨a,vs,h1,h2,h3⟩
 ·rename_i l
  obtain ⟨p,ep,rfl⟩:=r.locAt
  split at e
  ·rename_i ds' q
   cases e
   obtain ⟨vs,n,_,hg,rs⟩:=H.listAt ep q
   exact ⟨_,vs,rfl,isList_of hg,rs⟩
  ·cases e
theorem items_of {v:Value}{d:D}{ds:List D}(H:HR prog w base ι σ s.heap)(r:VR ι s.heap v d)(e:itemsAt σ d=some ds):∃a vs,v=.ref a∧VRs ι s.heap vs ds∧((IsTup s.heap a vs.toArray∧a∉adr ι)∨s.heap.IsList a vs.toArray):=by
 by_cases q:∃ts,d=.tup ts
 ·obtain ⟨ts,rfl⟩:=q
  simp only [itemsAt] at e
  cases e
  obtain ⟨a,vs,h1,h2,h4,h3⟩:=r.tupOff
  exact ⟨a,vs,h1,h3,.inl ⟨h2,h4⟩⟩
 ·obtain ⟨a,vs,h1,h2,h3⟩:=lst_of H r (by cases d<;>first|exact e|exact absurd ⟨_,rfl⟩ q)
  exact ⟨a,vs,h1,h3,.inr h2⟩
theorem toS_append (x y:List Nat):toS x++toS y=toS (x++y):=by
 show (⟨x.toArray++y.toArray⟩:Str)=⟨(x++y).toArray⟩
 simp
theorem VR.strS {h:Heap}(x:List Nat)(t:Tok):VR ι h (.str (toS x) t) (.str x):=by
 have:=VR.str (ι:=ι) (h:=h) (toS x) t
 rwa [cps_toS] at this
theorem natBits {y:Int}(h:y.natAbs < 4294967296):Builtin.Int.intBits y≤64:=intBits_le_64 (by omega) (by omega)
theorem bin_at {op:Bo}{v u:Value}{a b:D}{Q:Value→Shared→Prop}(H:HR prog w base ι σ s.heap)(ra:VR ι s.heap v a)(rb:VR ι s.heap u b)
  (O:OutG prog w base fl VR ι s (binD op a b σ) Q E):wpAny (model prog w) A (binaryOp (boOf op) v u) Q E s:=by
 unfold binD at O
 split at O
 ·obtain ⟨t,rfl⟩:=ra.intAt
  obtain ⟨t',rfl⟩:=rb.intAt
  exact add_int (O.tick H (.int _ _))
 ·obtain ⟨t,rfl⟩:=ra.intAt
  obtain ⟨t',rfl⟩:=rb.intAt
  exact sub_int (O.tick H (.int _ _))
 ·obtain ⟨t,rfl⟩:=ra.intAt
  obtain ⟨t',rfl⟩:=rb.intAt
  split at O
  ·rename_i hy
   exact mul_int (O.tick H (.int _ _)) (.of_right (natBits hy))
  ·exact O.elim
 ·obtain ⟨t,rfl⟩:=ra.intAt
  obtain ⟨t',rfl⟩:=rb.intAt
  split at O
  ·exact O.elim
  ·rename_i hy
   exact floordiv_int (by omega) (O.tick H (.int _ _)) (  .inl (PyProof.noPylong_small (by omega)))
 ·obtain ⟨t,rfl⟩:=ra.intAt
  obtain ⟨t',rfl⟩:=rb.intAt
  split at O
  ·exact O.elim
  ·rename_i hy
   exact mod_int' hy (O.tick H (.int _ _))
 ·obtain ⟨t,rfl⟩:=ra.intAt
  obtain ⟨t',rfl⟩:=rb.intAt
  split at O
  ·rename_i hy
   obtain ⟨rfl,rfl⟩:=hy
   refine pow_int (by decide) (by decide +kernel) ?_
   exact O.tick H (.int _ _)
  ·exact O.elim
 ·obtain ⟨t,rfl⟩:=ra.strAt
  obtain ⟨t',rfl⟩:=rb.strAt
  unfold cat at O
  split at O
  ·rename_i hz
   refine PyProof.Rows.add_str (fun t' tk=>?_) ?_
   ·rw [toS_append]
    exact O.tick H (.strS _ _)
   ·show (toS _).cps.size+(toS _).cps.size≤_
    simp only [toS,List.size_toArray]
    exact Nat.le_trans hz sizeLine_ge
  ·exact O.elim
 ·obtain ⟨a,vs,rfl,h1,r1⟩:=ra.tupAt
  obtain ⟨b,ws,rfl,h2,r2⟩:=rb.tupAt
  split at O
  ·rename_i hz
   refine add_tups h1 h2 (by rw [r1.length];exact hz.2.1) (by rw [r2.length];exact hz.2.2) (by rw [r1.length,r2.length];exact hz.1) ?_
   exact O.tupNew H (r1.append r2) 0
  ·exact O.elim
 ·split at O
  ·rename_i ds es e1 e2
   obtain ⟨a,vs,rfl,h1,r1⟩:=lst_of H ra e1
   obtain ⟨b,ws,rfl,h2,r2⟩:=lst_of H rb e2
   split at O
   ·rename_i hz
    exact add_lsts h1 h2 (by rw [r1.length,r2.length];exact hz) (O.lstNew H (r1.append r2) 0)
   ·exact O.elim
  ·exact O.elim
 ·split at O
  ·rename_i ds es e1 e2
   obtain ⟨a,vs,rfl,h1,r1⟩:=lst_of H ra e1
   obtain ⟨b,ws,rfl,h2,r2⟩:=lst_of H rb e2
   split at O
   ·rename_i hz
    exact add_lsts h1 h2 (by rw [r1.length,r2.length];exact hz) (O.listNew H (r1.append r2) 0)
   ·exact O.elim
  ·exact O.elim
 ·obtain ⟨a,vs,rfl,h1,r1⟩:=ra.tupAt
  obtain ⟨t',rfl⟩:=rb.intAt
  split at O
  ·rename_i hy
   obtain ⟨rfl,hz⟩:=hy
   exact mul_tup0 h1 (by rw [r1.length];exact hz) (O.tupNew (vs:=[]) H .nil 0)
  ·exact O.elim
 ·exact O.elim
end
end Mine
end
section
set_option maxRecDepth 100000
open PySem PySem.Spec PySem.Calls PyProof.Rows PySem.W
namespace Mine
theorem ltS_eq:∀a b:List Nat,ltS a b=decide (a < b)
 |[],[]=>by simp [ltS]
 |[],_::_=>by simp [ltS]
 |_::_,[]=>by simp [ltS]
 |a::r,b::t=>by
  rw [ltS]
  by_cases h:a < b
  ·rw [if_pos h]
   exact (decide_eq_true (List.cons_lt_cons_iff.mpr (.inl h))).symm
  ·rw [if_neg h]
   by_cases e:a=b
   ·subst e
    rw [if_pos rfl,ltS_eq r t]
    have:(a::r < a::t)↔r < t:=⟨fun q=>(List.cons_lt_cons_iff.mp q).elim (fun z=>absurd z (Nat.lt_irrefl _)) (·.2),fun q=>List.cons_lt_cons_iff.mpr (.inr ⟨rfl,q⟩)⟩
    exact decide_eq_decide.mpr this.symm
   ·rw [if_neg e]
    exact (decide_eq_false fun q=>(List.cons_lt_cons_iff.mp q).elim h fun z=>e z.1).symm
def leS (a b:List Nat):Prop:=¬b < a
theorem insS_perm (x:List Nat):∀l,(insS x l).Perm (x::l)
 |[]=>.refl _
 |y::r=>by
  rw [insS]
  split
  ·exact (List.Perm.cons y (insS_perm x r)).trans (.swap x y r)
  ·exact .refl _
theorem sortS_perm:∀l,(sortS l).Perm l
 |[]=>.refl _
 |x::r=>(insS_perm x (sortS r)).trans (.cons x (sortS_perm r))
theorem insS_sorted (x:List Nat):∀l,l.Pairwise leS→(insS x l).Pairwise leS
 |[],_=>by simp [insS]
 |y::r,h=>by
  obtain ⟨h1,h2⟩:=List.pairwise_cons.mp h
  rw [insS]
  split
  ·rename_i q
   rw [ltS_eq,decide_eq_true_eq] at q
   refine List.pairwise_cons.mpr ⟨fun z hz=>?_,insS_sorted x r h2⟩
   rcases List.mem_cons.mp ((insS_perm x r).mem_iff.mp hz) with rfl|hz
   ·exact fun w=>List.lt_irrefl _ (List.lt_trans w q)
   ·exact h1 z hz
  ·rename_i q
   rw [ltS_eq,decide_eq_true_eq] at q
   refine List.pairwise_cons.mpr ⟨fun z hz=>?_,h⟩
   rcases List.mem_cons.mp hz with rfl|hz
   ·exact q
   ·intro w
    have h3:=h1 z hz
    rcases List.le_total y z with u|u
    ·exact q (List.lt_of_le_of_lt u w)
    ·rcases List.le_iff_lt_or_eq.mp u with v|v
     ·exact h3 v
     ·exact q (v▸w)
theorem sortS_sorted:∀l,(sortS l).Pairwise leS
 |[]=>by simp [sortS]
 |x::r=>insS_sorted x _ (sortS_sorted r)
theorem sort_one {l m:List (List Nat)}(h1:l.Perm m)(h2:l.Pairwise leS):l=sortS m :=
 List.Perm.eq_of_pairwise (fun a b _ _ x y=>List.le_antisymm (List.not_lt.mp x) (List.not_lt.mp y)) h2 (sortS_sorted m) (h1.trans (sortS_perm m).symm)
theorem sortedS_pair:∀(l:List Str),sortedS l=true→(l.map fun x=>x.cps.toList).Pairwise leS
 |[],_=>by simp
 |x::r,h=>by
  have key:∀(r:List Str) (p:Str),risingS p r=true→∀z∈p::r,z=p∨leS p.cps.toList z.cps.toList:=by
   intro r
   induction r with
   |nil=>intro p _ z hz;exact .inl (by simpa using hz)
   |cons y r ih =>
    intro p h z hz
    unfold risingS at h
    simp only [Bool.and_eq_true,Bool.not_eq_true'] at h
    rw [ltCps_eq,decide_eq_false_iff_not] at h
    rcases List.mem_cons.mp hz with q|hz
    ·exact .inl q
    ·rcases ih y h.2 z hz with q|q
     ·exact .inr (q▸h.1)
     ·refine .inr fun w=>?_
      rcases List.le_iff_lt_or_eq.mp (List.not_lt.mp h.1) with v|v
      ·exact q (List.lt_trans w v)
      ·exact q (v▸w)
  have step:∀(r:List Str) (p:Str),risingS p r=true→((p::r).map fun x=>x.cps.toList).Pairwise leS:=by
   intro r
   induction r with
   |nil=>intro p _;simp
   |cons y r ih =>
    intro p h
    have h':=h
    unfold risingS at h'
    simp only [Bool.and_eq_true] at h'
    rw [List.map_cons]
    refine List.pairwise_cons.mpr ⟨fun z hz=>?_,ih y h'.2⟩
    obtain ⟨u,hu,rfl⟩:=List.mem_map.mp hz
    rcases key (y::r) p h u (List.mem_cons_of_mem _ hu) with q|q
    ·subst q;exact List.lt_irrefl _
    ·exact q
  exact step r x h
section
variable {prog:Program}{w:World}{base:Heap}{fl:List PEnv}{ι:Io}{s:Shared}{σ:Hp}{E:Value→Shared→Prop}{A:Around}
theorem sorted_dict {d:Addr}{kvs:List (Str×Value)}{Q:Value→Shared→Prop}(hh:A.handled=none)(lo:(d==sysModules)=false)(hd:s.heap.DictOf (PySem.strKind prog w) d kvs)(hz:kvs.length < 60)
  (h:∀h' tk D vs e,(∀b o,s.heap.get? b=some o→h'.get? b=some o)→s.heap.get? D=none→h'.get? D=some (lstObj vs e)→StrsAre vs ((sortS (kvs.map fun p=>p.1.cps.toList)).map toS)→Q (.ref D) { s with heap:=h',toks:=tk }) :
  wpAny (model prog w) A (call (.builtin "sorted") [.ref d]) Q E s:=by
 obtain ⟨ep,hat⟩:=hd.dictAt
 refine call_function_entry kind_sorted plain_sorted entry_sorted (args_sorted1 _) ?_
 unfold Builtin.«sorted»
 refine wpAny_bind (m:=checkCount "sorted" 1 1 _) (wpAny_pure ?_)
 refine wpAny_bind (kdu_collect (A:=A.in1) (kdl_dict (knd:=PySem.strKind prog w) (kvs:=kvs) (ep:=ep) lo) hh hat (kdl_size (by omega)) fun h' tk acc hk hacc=>?_)
 have hl:acc.toList.length=kvs.length:=by rw [Array.length_toList];exact hacc.1
 refine wpAny_bind (wpAny_newList ?_ (by rw [hl];exact kdl_size (by omega)))
 have hS:StrsAre acc.toList (kvs.map (·.1)):=by
  have key:∀(l:List (Str×Value)) (vs:List Value),vs.length=l.length→(∀(j:Nat) (v:Value),vs[j]? = some v→∃(k:Str) (x:Value),l[j]? = some (k,x)∧∃t,v=Value.str k t)→StrsAre vs (l.map (·.1)):=by
   intro l
   induction l with
   |nil=>intro vs hl _;cases vs with
    |nil=>exact .nil
    |cons _ _=>simp at hl
   |cons p l ih =>
    intro vs hl hv
    cases vs with
    |nil=>simp at hl
    |cons v vs =>
     obtain ⟨k,x,e,t,rfl⟩:=hv 0 v rfl
     simp at e
     subst e
     exact .cons k t (ih vs (by simpa using hl) fun j u hu=>by simpa using hv (j+1) u (by simpa using hu))
  refine key kvs _ hl fun j v e=>?_
  obtain ⟨k,x,h1,h2⟩:=hacc.2 j v (by rw [←Array.getElem?_toList];exact e)
  exact ⟨k,x,h1,Value.isStrOf_shape h2⟩
 have hoL:(h'.push (lstObj acc.toList 0)).get? h'.objs.size=some (seqObj "list" acc.toList.toArray 0):=Heap.get?_push_size _ rfl
 refine wpAny_bind (wpAny_holding (wpAny_call_entry slot_list_sort ⟨_,hoL,rfl⟩ entry_list_sort (list_sort_treeK strKind_oneLt hoL hS.keysOf (fun v₁ v₂ rest e=>keyKind_strs (by rw [←e];exact hS)) (by rw [hl];omega) fun st' hp hs=>⟨_,rfl,?_⟩) (args_list_sort _)))
 obtain ⟨ss',a1,a2,a3⟩:=sorted_out_str hS hp hs
 obtain ⟨e,he⟩:=sortedHeap_at (out:=(arrOf st').map (·.2)) hoL
 have hlt:∀b,b < h'.objs.size→b≠h'.objs.size∧b < (h'.push (lstObj acc.toList 0)).objs.size:=fun b hb=>⟨Nat.ne_of_lt hb,by rw [Heap.size_push];exact Nat.lt_succ_of_lt hb⟩
 refine wpAny_pure ⟨_,rfl,h (sortedHeap (h'.push (lstObj acc.toList 0)) h'.objs.size acc.toList ((arrOf st').map (·.2))) tk h'.objs.size ((arrOf st').map (·.2)).toList e (fun b o q=>?_) ?_ ?_ ?_⟩
 ·have q':=hk b o q
  obtain ⟨n1,n2⟩:=hlt b (Heap.lt_size q')
  rw [sortedHeap_old n1 n2]
  exact Heap.get?_push_of_some _ q'
 ·exact beyond hk
 ·rw [he]
 ·have e1:ss'.map (fun x=>x.cps.toList)=sortS (kvs.map fun p=>p.1.cps.toList):=by
   refine sort_one ?_ (sortedS_pair _ a3)
   have:=a2.map (fun x:Str=>x.cps.toList)
   rwa [List.map_map] at this
  rw [←e1,List.map_map]
  have e2:ss'.map (toS ∘ fun x=>x.cps.toList)=ss':=by
   have:(toS ∘ fun x:Str=>x.cps.toList)=id:=by funext x;exact toS_cps x
   rw [this,List.map_id]
  rw [e2]
  exact a1
end
end Mine
end
section
set_option maxRecDepth 100000
open PySem PySem.Spec PySem.Calls PyProof.Rows PySem.W
namespace Mine
def biV:Bi→Value
 |.len=>.builtin "len"
 |.str=>.type "str"
 |.isBool=>.builtin "isinstance"
 |.max=>.builtin "max"
 |.int=>.type "int"
 |.tuple=>.type "tuple"
 |.list=>.type "list"
 |.sorted=>.builtin "sorted"
 |.dict=>.type "dict"
 |.dictzip=>.type "dict"
 |.listzip=>.type "list"
section
variable {prog:Program}{w:World}{base:Heap}{fl:List PEnv}{ι:Io}{s:Shared}{σ:Hp}{E:Value→Shared→Prop}{A:Around}
theorem VRs.one {h:Heap}{vs:List Value}{d:D}(r:VRs ι h vs [d]):∃v,vs=[v]∧VR ι h v d:=by
 cases r with
 |cons a r=>cases r;exact ⟨_,rfl,a⟩
theorem VRs.two {h:Heap}{vs:List Value}{d e:D}(r:VRs ι h vs [d,e]):∃v u,vs=[v,u]∧VR ι h v d∧VR ι h u e:=by
 cases r with
 |cons a r =>
  obtain ⟨u,rfl,b⟩:=r.one
  exact ⟨_,_,rfl,a,b⟩
theorem strsAre_vr {h:Heap}:∀{vs:List Value} {l:List (List Nat)},StrsAre vs (l.map toS)→VRs ι h vs (l.map D.str)
 |_,[],.nil=>.nil
 |_,x::r,.cons _ t q=>.cons (.strS x t) (strsAre_vr q)
theorem isBool_at {d:D}{v:Value}{Q:Value→Shared→Prop}(H:HR prog w base ι σ s.heap)(r:VR ι s.heap v d)(O:OutG prog w base fl VR ι s (biD .isBool [d] σ) Q E) :
  wpAny (model prog w) A (call (.builtin "isinstance") [v,.type "bool"]) Q E s:=by
 cases d with
 |bool c =>
  rw [r.boolAt]
  exact IsiPair.bool_bool (O.now H (.bool _))
 |int c =>
  obtain ⟨t,rfl⟩:=r.intAt
  exact IsiPair.int_bool (O.tick H (.bool _))
 |none=>exact O.elim
 |str _=>exact O.elim
 |tup _=>exact O.elim
 |lst _=>exact O.elim
 |loc _=>exact O.elim
 |opq=>exact O.elim
theorem strI_log {i:Int}(h:0≤i∧i < 1000):i.natAbs.log2 < 1920:=by
 by_cases h0:i.natAbs=0
 ·rw [h0];decide
 ·have:i.natAbs.log2 < 10:=(Nat.log2_lt h0).mpr (by omega)
  omega
theorem bi_at {b:Bi}{n:Nat}{as:List D}{vs:List Value}{Q:Value→Shared→Prop}(h1:b≠.isBool)(h2:b≠.dictzip)(h3:b≠.listzip)(Rm:Room A n)(H:HR prog w base ι σ s.heap)(r:VRs ι s.heap vs as)
  (O:OutG prog w base fl VR ι s (biD b as σ) Q E):wpAny (model prog w) A (call (biV b) vs) Q E s:=by
 have big:=sizeLine_ge
 cases b with
 |isBool=>exact absurd rfl h1
 |dictzip=>exact absurd rfl h2
 |listzip=>exact absurd rfl h3
 |len =>
  match as,O with
  |[],O=>exact O.elim
  |_::_::_,O=>exact O.elim
  |[d],O =>
   obtain ⟨v,rfl,rv⟩:=r.one
   simp only [biD] at O
   split at O
   ·rename_i ds e
    obtain ⟨a,us,rfl,rs,q⟩:=items_of H rv e
    split at O
    ·rename_i hz
     unfold most at hz
     have hl:(us.toArray.size:Int)=ds.length:=by rw [List.size_toArray,rs.length]
     rcases q with ⟨q,_⟩|q
     ·refine PyProof.Rows.len_tuple q (by rw [hl];omega) ?_
      rw [hl]
      exact O.tick H (.int _ _)
     ·refine call_len_list q (by rw [hl];omega) ?_
      rw [hl]
      exact O.tick H (.int _ _)
    ·exact O.elim
   ·exact O.elim
 |str =>
  match as,O with
  |[],O=>exact O.elim
  |d::_::_,O=>cases d<;>exact O.elim
  |[d],O =>
   obtain ⟨v,rfl,rv⟩:=r.one
   cases d with
   |int i =>
    obtain ⟨t,rfl⟩:=rv.intAt
    simp only [biD] at O
    split at O
    ·rename_i hi
     exact PySem.P.str_of_int (strI_log hi) (O.tick H (.str _ _))
    ·exact O.elim
   |bool c=>exact O.elim
   |none=>exact O.elim
   |str _=>exact O.elim
   |tup _=>exact O.elim
   |lst _=>exact O.elim
   |loc _=>exact O.elim
   |opq=>exact O.elim
 |max =>
  match as,r,O with
  |[.int a,.int c],r,O =>
   obtain ⟨v,u,rfl,r1,r2⟩:=r.two
   obtain ⟨t,rfl⟩:=r1.intAt
   obtain ⟨t',rfl⟩:=r2.intAt
   refine max_two_ints Rm.hh fun h' tk hk=>?_
   by_cases q:c > a
   ·simp only [biD,if_pos q] at O ⊢
    exact O.more H hk (.int _ _)
   ·simp only [biD,if_neg q] at O ⊢
    exact O.more H hk (.int _ _)
 |int =>
  match as,r,O with
  |[.bool c],r,O =>
   obtain ⟨v,rfl,r1⟩:=r.one
   rw [r1.boolAt]
   exact call_int_bool (O.tick H (.int _ _))
 |tuple =>
  match as,O with
  |[],O=>exact O.elim
  |_::_::_,O=>exact O.elim
  |[d],O =>
   obtain ⟨v,rfl,rv⟩:=r.one
   simp only [biD] at O
   split at O
   ·rename_i ds e
    obtain ⟨a,us,rfl,rs,q⟩:=items_of H rv e
    split at O
    ·rename_i hz
     unfold most at hz
     have hl:us.toArray.size=ds.length:=by rw [List.size_toArray,rs.length]
     rcases q with ⟨q,z⟩|q
     ·exact call_tuple_tup q (O.now H (.tup q z rs))
     ·refine call_tuple_list q (fun h' hk=>?_) (by rw [hl];omega)
      have hk':∀b o,s.heap.get? b=some o→(h'.push { cls:=.type "tuple",data:=.seq us.toArray }).get? b=some o:=fun b o e=>Heap.get?_push_of_some _ (hk b o e)
      exact O.more H hk' (.tup ⟨_,Heap.get?_push_size _ rfl,rfl,_,rfl⟩ (fun z=>by obtain ⟨o,e⟩:=H.alive z;exact absurd (Heap.lt_size (hk _ _ e)) (Nat.lt_irrefl _)) (rs.mono (Mo.more hk') H.toff))
    ·exact O.elim
   ·exact O.elim
 |list =>
  match as,O with
  |[],O=>exact O.elim
  |_::_::_,O=>exact O.elim
  |[d],O =>
   obtain ⟨v,rfl,rv⟩:=r.one
   simp only [biD] at O
   split at O
   ·rename_i ds e
    obtain ⟨a,us,rfl,rs,q⟩:=items_of H rv e
    split at O
    ·rename_i hz
     unfold most at hz
     have hl:us.toArray.size=ds.length:=by rw [List.size_toArray,rs.length]
     have fin:∀h' c',(∀b o',s.heap.get? b=some o'→h'.get? b=some o')→h'.get? s.heap.objs.size=some { cls:=.type "list",dict:=none,data:=.seq us.toArray c',slots:=#[] }→Q (.ref s.heap.objs.size) { s with heap:=h' }:=fun h' c' hk hg =>
      O.more H hk (.lst ⟨_,hg,rfl,_,rfl⟩ (fun z=>absurd (adr_lt H z) (Nat.lt_irrefl _)) (rs.mono (Mo.more hk) H.toff))
     rcases q with ⟨⟨o,e1,e2,n,e3⟩,_⟩|⟨o,e1,e2,n,e3⟩
     ·exact call_list_seq a (.inr rfl) e1 e2 e3 fin (by rw [hl];omega)
     ·exact call_list_seq a (.inl rfl) e1 e2 e3 fin (by rw [hl];omega)
    ·exact O.elim
   ·exact O.elim
 |sorted =>
  match as,O with
  |[],O=>exact O.elim
  |_::_::_,O=>exact O.elim
  |[d],O =>
   obtain ⟨v,rfl,rv⟩:=r.one
   simp only [biD] at O
   split at O
   ·rename_i kvs e
    unfold dictAt at e
    split at e
    ·rename_i l
     obtain ⟨p,ep,rfl⟩:=rv.locAt
     split at e
     ·rename_i q
      cases e
      obtain ⟨es,_,hd,rs⟩:=H.dictAt ep q
      split at O
      ·rename_i hz
       refine sorted_dict Rm.hh (H.notSys ep) hd (by rw [rs.length];exact hz) fun h' tk D vs e hk hD hg hS=>?_
       have e1:(es.map fun p=>p.1.cps.toList)=kvs.map (·.1):=by
        have:=rs.keys
        have e2:(es.map fun p=>p.1.cps.toList)=(es.map (·.1)).map fun x:Str=>x.cps.toList:=by rw [List.map_map];rfl
        rw [e2,this,List.map_map]
        congr 1
       rw [e1] at hS
       exact O.more H hk (.lst ⟨_,hg,rfl,_,rfl⟩ (fun z=>by obtain ⟨o,e⟩:=H.alive z;rw [hD] at e;cases e) (strsAre_vr hS))
      ·exact O.elim
     ·cases e
    ·cases e
   ·exact O.elim
 |dict =>
  match as,O with
  |[],O=>exact O.elim
  |_::_::_,O=>exact O.elim
  |[d],O =>
   obtain ⟨v,rfl,rv⟩:=r.one
   simp only [biD] at O
   split at O
   ·rename_i kvs e
    unfold dictAt at e
    split at e
    ·rename_i l
     obtain ⟨p,ep,rfl⟩:=rv.locAt
     split at e
     ·rename_i q
      cases e
      obtain ⟨es,_,hd,rs⟩:=H.dictAt ep q
      split at O
      ·rename_i hz
       unfold most at hz
       refine PySem.kt_call_dict (knd:=PySem.strKind prog w) (H.notSys ep) hd (by rw [rs.length];omega) fun h' hd' hs=>?_
       refine O.dictNew H (fun b o e=>?_) (Heap.get?_none_of_le (Nat.le_refl _)) H.mainLt hd' rs
       rw [hs.2 b (Nat.ne_of_lt (Heap.lt_size e))]
       exact Heap.get?_push_of_some _ e
      ·exact O.elim
     ·cases e
    ·cases e
   ·exact O.elim
end
end Mine
end
section
set_option maxRecDepth 100000
open PySem PySem.Spec PySem.Calls PyProof.Rows PySem.W
namespace Mine
def bmId:Bm→String
 |.append => "list.append" | .pop => "list.pop" | .pop0 => "list.pop" | .extend => "list.extend" | .get1 => "dict.get" | .get2 => "dict.get" | .dpop2 => "dict.pop" | .update => "dict.update" | .join => "str.join"
section
variable {prog:Program}{w:World}{base:Heap}{fl:List PEnv}{ι:Io}{s:Shared}{σ:Hp}{E:Value→Shared→Prop}{A:Around}
theorem bm_get {b:Bm}{o:D}{v:Value}{pl:Sem Bool}{Q:Value×List Value→Shared→Prop}(H:HR prog w base ι σ s.heap)(r:VR ι s.heap v o)(hk:isK σ o (bmK b)=true)(h:Q (.builtin (bmId b),[v]) s) :
  wpAny (model prog w) A (getMethod v (Str.ofString (bmOf b)) pl) Q E s:=by
 have onL:bmK b=.list→s.TypeIs v "list" ∧ ∀a,v=.ref a→∃ob,s.heap.get? a=some ob∧ob.dict=none:=fun e=>by
  rw [e] at hk
  cases o with
  |loc l =>
   obtain ⟨p,ep,rfl⟩:=r.locAt
   simp only [isK] at hk
   split at hk
   ·rename_i ds q
    obtain ⟨vs,n,_,hg,_⟩:=H.listAt ep q
    exact ⟨⟨_,hg,rfl⟩,fun a e=>by cases e;exact ⟨_,hg,rfl⟩⟩
   ·cases hk
  |_=>cases hk
 have onD:bmK b=.dict→s.TypeIs v "dict" ∧ ∀a,v=.ref a→∃ob,s.heap.get? a=some ob∧ob.dict=none:=fun e=>by
  rw [e] at hk
  cases o with
  |loc l =>
   obtain ⟨p,ep,rfl⟩:=r.locAt
   simp only [isK] at hk
   split at hk
   ·rename_i ds q
    obtain ⟨es,_,hd,_⟩:=H.dictAt ep q
    exact ⟨hd.typeIs,fun a e=>by cases e;exact hd.mapOf.noDict _ rfl⟩
   ·cases hk
  |_=>cases hk
 have onS:bmK b=.str→s.TypeIs v "str" ∧ ∀a,v=.ref a→∃ob,s.heap.get? a=some ob∧ob.dict=none:=fun e=>by
  rw [e] at hk
  cases o with
  |str x =>
   obtain ⟨t,rfl⟩:=r.strAt
   exact ⟨typeIs_str _ _ _,fun a e=>by cases e⟩
  |_=>cases hk
 cases b with
 |append=>exact getMethod_builtin (onL rfl).1 PySem.F.plainAttrs_list PySem.F.slot_list_append PySem.F.type_list_append (onL rfl).2 h
 |pop=>exact getMethod_builtin (onL rfl).1 PySem.F.plainAttrs_list PySem.F.slot_list_pop PySem.F.type_list_pop (onL rfl).2 h
 |pop0=>exact getMethod_builtin (onL rfl).1 PySem.F.plainAttrs_list PySem.F.slot_list_pop PySem.F.type_list_pop (onL rfl).2 h
 |extend=>exact getMethod_builtin (onL rfl).1 PySem.F.plainAttrs_list PySem.F.slot_list_extend PySem.F.type_list_extend (onL rfl).2 h
 |get1=>exact getMethod_builtin (onD rfl).1 PySem.F.plainAttrs_dict PySem.F.slot_dict_get PySem.F.type_dict_get (onD rfl).2 h
 |get2=>exact getMethod_builtin (onD rfl).1 PySem.F.plainAttrs_dict PySem.F.slot_dict_get PySem.F.type_dict_get (onD rfl).2 h
 |dpop2=>exact getMethod_builtin (onD rfl).1 PySem.F.plainAttrs_dict PySem.F.slot_dict_pop PySem.F.type_dict_pop (onD rfl).2 h
 |update=>exact getMethod_builtin (onD rfl).1 PySem.F.plainAttrs_dict PySem.F.slot_dict_update PySem.F.type_dict_update (onD rfl).2 h
 |join=>exact getMethod_builtin (onS rfl).1 PySem.F.plainAttrs_str PySem.F.slot_str_join PySem.F.type_str_join (onS rfl).2 h
end
end Mine
end
section
set_option maxRecDepth 100000
open PySem PySem.Spec PySem.Calls PyProof.Rows PySem.W
namespace Mine
def putV:List (Str×Value)→Str→Value→List (Str×Value)
 |[],k,v=>[(k,v)]
 |(k',v')::r,k,v=>if k'=k then (k,v)::r else (k',v')::putV r k v
theorem stored_eq {k:Str}{v:Value}:∀{es:List (Str×Value)},(es.map (·.1)).Nodup→stored es k v=putV es k v
 |[],_=>by simp [stored,putV]
 |(k',v')::r,hn=>by
  obtain ⟨h1,h2⟩:=List.nodup_cons.mp hn
  have ih:=stored_eq (k:=k) (v:=v) h2
  unfold putV
  by_cases q:k'=k
  ·subst q
   rw [if_pos rfl]
   have hm:(r.map fun kv=>if kv.1=k' then (kv.1,v) else kv)=r:=by
    conv=>rhs;rw [←List.map_id r]
    refine List.map_congr_left fun p hp=>?_
    have:p.1≠k':=fun z=>h1 (z▸List.mem_map_of_mem (f:=(·.1)) hp)
    simp [this]
   simp [stored,hm]
  ·rw [if_neg q,←ih]
   simp only [stored,List.any_cons,q,decide_false,Bool.false_or,List.map_cons,if_false]
   split<;>rfl
theorem putV_keys {k:Str}{v:Value}:∀{es:List (Str×Value)} {x:Str},x∈(putV es k v).map (·.1)→x=k∨x∈es.map (·.1)
 |[],x,h=>by simpa [putV] using h
 |(k',v')::r,x,h=>by
  unfold putV at h
  split at h
  ·rename_i q
   simp only [List.map_cons,List.mem_cons] at h ⊢
   rcases h with h|h
   ·exact .inl h
   ·exact .inr (.inr h)
  ·simp only [List.map_cons,List.mem_cons] at h ⊢
   rcases h with h|h
   ·exact .inr (.inl h)
   ·rcases putV_keys h with h|h
    ·exact .inl h
    ·exact .inr (.inr h)
theorem putV_nodup {k:Str}{v:Value}:∀{es:List (Str×Value)},(es.map (·.1)).Nodup→((putV es k v).map (·.1)).Nodup
 |[],_=>by simp [putV]
 |(k',v')::r,hn=>by
  obtain ⟨h1,h2⟩:=List.nodup_cons.mp hn
  unfold putV
  split
  ·rename_i q
   subst q
   exact hn
  ·rename_i q
   exact List.nodup_cons.mpr ⟨fun z=>(putV_keys z).elim q h1,putV_nodup h2⟩
section
variable {prog:Program}{w:World}{base:Heap}{fl:List PEnv}{ι:Io}{s:Shared}{σ:Hp}{E:Value→Shared→Prop}{A:Around}
theorem Ents.put {h:Heap}{es:List (Str×Value)}{kvs:List (List Nat×D)}(r:Ents ι h es kvs){x:List Nat}{v:Value}{d:D}(hv:VR ι h v d):Ents ι h (putV es (toS x) v) (putK kvs x d):=by
 induction r with
 |nil=>exact .cons hv .nil
 |@cons k u e es kvs hu r ih =>
  unfold putV putK
  by_cases q:k=x
  ·subst q
   rw [if_pos rfl,if_pos rfl]
   exact .cons hv r
  ·rw [if_neg q,if_neg (fun z=>q (toS_inj z))]
   exact .cons hu ih
theorem Ents.drop {h:Heap}{es:List (Str×Value)}{kvs:List (List Nat×D)}(r:Ents ι h es kvs)(hn:(es.map (·.1)).Nodup)(x:List Nat):Ents ι h (without es (toS x)) (dropK kvs x):=by
 induction r with
 |nil=>exact .nil
 |@cons k u e es kvs hu r ih =>
  obtain ⟨h1,h2⟩:=List.nodup_cons.mp hn
  unfold dropK
  by_cases q:k=x
  ·subst q
   rw [if_pos rfl]
   have:without ((toS k,u)::es) (toS k)=without es (toS k):=by simp [without]
   rw [this,without_of_not_mem _ _ h1]
   exact r
  ·rw [if_neg q]
   have:without ((toS k,u)::es) (toS x)=(toS k,u)::without es (toS x):=by
    have:¬toS k=toS x:=fun z=>q (toS_inj z)
    simp [without,this]
   rw [this]
   exact .cons hu (ih h2)
theorem Ents.merge {h:Heap}{more:List (Str×Value)}{more':List (List Nat×D)}(r:Ents ι h more more'):∀{es:List (Str×Value)} {kvs:List (List Nat×D)},Ents ι h es kvs→(es.map (·.1)).Nodup→Ents ι h (merged es more) (putAll kvs more'):=by
 induction r with
 |nil=>exact fun a _=>a
 |@cons k u e es kvs hu _ ih =>
  intro es' kvs' a hn
  have:merged es' ((toS k,u)::es)=merged (stored es' (toS k) u) es:=rfl
  rw [this,stored_eq hn]
  unfold putAll
  exact ih (a.put hu) (putV_nodup hn)
theorem dictOf_nodup {h:Heap}{a:Addr}{es:List (Str×Value)}(x:h.DictOf (PySem.strKind prog w) a es):(es.map (·.1)).Nodup:=let ⟨_,_,_,_,_,_,_,_,hn⟩:=x;hn
theorem upd_list {l:Nat}{p:Nat×Option Nat}{ds ds':List D}{vs':List Value}{n':Nat}{h':Heap}(H:HR prog w base ι σ s.heap)(hF:∀b∈fls fl,b∉adr ι)(ep:ι.nums[l]? = some p)(q:σ[l]? = some (.list ds))
  (hs:Heap.SameBut p.1 s.heap h') (hg:h'.get? p.1=some (lstObj vs' n')) (r:VRs ι s.heap vs' ds'):Ext (fls fl) [] ι ι s.heap h'∧HR prog w base ι (σ.set l (.list ds')) h'∧Mo ι ι s.heap h':=by
 obtain ⟨_,_,hp2,_,_⟩:=H.listAt ep q
 have hs':∀b,¬(b=p.1∨p.2=some b)→h'.get? b=s.heap.get? b:=fun b hb=>hs.2 b fun z=>hb (.inl z)
 refine ⟨Ext.upd ep hF (fun b hb=>?_) hs',H.upd ep q hs' ?_,Mo.upd ep hs'⟩
 ·rcases hb with rfl|z
  ·exact ⟨_,hg⟩
  ·rw [hp2] at z;cases z
 ·obtain ⟨p1,p2⟩:=p
  cases hp2
  exact .list hg (r.mono (Mo.upd ep hs') H.toff)
theorem upd_dict {l:Nat}{p:Nat×Option Nat}{kvs kvs':List (List Nat×D)}{es':List (Str×Value)}{h':Heap}(H:HR prog w base ι σ s.heap)(hF:∀b∈fls fl,b∉adr ι)(ep:ι.nums[l]? = some p)(q:σ[l]? = some (.dict kvs))
  (hs:Heap.SameBut p.1 s.heap h') (hg:h'.DictOf (PySem.strKind prog w) p.1 es') (r:Ents ι s.heap es' kvs'):Ext (fls fl) [] ι ι s.heap h'∧HR prog w base ι (σ.set l (.dict kvs')) h'∧Mo ι ι s.heap h':=by
 obtain ⟨_,hp2,_,_⟩:=H.dictAt ep q
 have hs':∀b,¬(b=p.1∨p.2=some b)→h'.get? b=s.heap.get? b:=fun b hb=>hs.2 b fun z=>hb (.inl z)
 refine ⟨Ext.upd ep hF (fun b hb=>?_) hs',H.upd ep q hs' ?_,Mo.upd ep hs'⟩
 ·rcases hb with rfl|z
  ·obtain ⟨o,_,_,e,_⟩:=hg
   exact ⟨o,e⟩
  ·rw [hp2] at z;cases z
 ·obtain ⟨p1,p2⟩:=p
  cases hp2
  exact .dict hg (r.mono (Mo.upd ep hs') H.toff)
theorem joinS_eq (sep:List Nat):∀(x:List Nat) (r:List (List Nat)),joinS sep (x::r)=x++r.flatMap (fun p=>sep++p)
 |x,[]=>by simp [joinS]
 |x,y::r=>by
  rw [joinS,joinS_eq sep y r]
  ·simp
  ·simp
theorem glued_eq (sep:List Nat)(ss:List (List Nat)):PySem.Builtin.Str.glued (toS sep) (ss.map toS)=toS (joinS sep ss):=by
 cases ss with
 |nil=>simp [PySem.Builtin.Str.glued,joinS,toS,Str.empty]
 |cons x r =>
  rw [joinS_eq]
  unfold PySem.Builtin.Str.glued
  have key:∀(r:List (List Nat)) (acc:List Nat),(r.map toS).foldl (fun acc (p:Str)=>acc++(toS sep).cps++p.cps) acc.toArray=(acc++r.flatMap (fun p=>sep++p)).toArray:=by
   intro r
   induction r with
   |nil=>intro acc;simp
   |cons y r ih =>
    intro acc
    have:acc.toArray++(toS sep).cps++(toS y).cps=(acc++(sep++y)).toArray:=by simp [toS]
    rw [List.map_cons,List.foldl_cons,this,ih]
    simp
  simp only [List.map_cons,List.drop_succ_cons,List.drop_zero,List.headD_cons]
  show (⟨_⟩:Str)=⟨_⟩
  congr 1
  exact key r x
theorem strs_of:∀{h:Heap} {vs:List Value} {ds:List D} {ss:List (List Nat)},VRs ι h vs ds→strsOf ds=some ss→StrsAre vs (ss.map toS)
 |_,_,[],ss,.nil,e=>by cases e;exact .nil
 |h,_,d::ds,ss,.cons a r,e=>by
  cases d with
  |str x =>
   simp only [strsOf] at e
   cases e2:strsOf ds with
   |none=>rw [e2] at e;cases e
   |some l =>
    rw [e2] at e
    cases e
    obtain ⟨t,rfl⟩:=a.strAt
    exact .cons _ _ (strs_of r e2)
  |_=>cases e
theorem lastInit_spec:∀{l i:List D} {x:D},lastInit l=some (i,x)→l=i++[x]
 |[],_,_,h=>by cases h
 |[y],_,_,h=>by cases h;rfl
 |y::z::r,i,x,h=>by
  unfold lastInit at h
  split at h
  ·rename_i i' l' e
   cases h
   rw [lastInit_spec e]
   rfl
  ·cases h
theorem VRs.zero {h:Heap}{vs:List Value}(r:VRs ι h vs []):vs=[]:=by cases r;rfl
theorem ext_tup (l:Addr)(items:Array Value)(n:Nat)(b:Addr)(items2:Array Value)(n2:Nat)(dd:Option Addr)(sl:Array (Option Value))(hs0:¬(!items.isEmpty&&Builtin.List.listTooLong (items.size+items2.size))=true)(hs1:items.size≤sizeLine)(hs2:items.size+items2.size≤sizeLine+1) :
  Meets (Builtin.«list.extend» ⟨[.ref l,.ref b],[]⟩) (fun _ R s=>s.heap.get? l=some { cls:=.type "list",dict:=none,data:=.seq items n,slots:=#[] }∧s.heap.get? b=some { cls:=.type "tuple",dict:=dd,data:=.seq items2 n2,slots:=sl }∧R (.ok (.ret Value.none)) { s with heap:=s.heap.update l (Obj.mapSeq fun x=>x++items2),toks:=s.toks }) :=
 .of_wp fun prog w A R s h=>by
  obtain ⟨hp,g,d,tk,os⟩:=s
  obtain ⟨hl,hb,h⟩:=h
  have f4:=AutoSeq1.sub_tuple_list
  have hz':(items++items2).size≤sizeLine+1:=by rw [Array.size_append];exact hs2
  wp_walk using (wpAny_updateSeq hl rfl (hz:=hs1) (_hz':=hz')),wpAny_loadPart' hl,wpAny_loadPart' hb
  exact ⟨_,rfl,h⟩
theorem ext_lst (l:Addr)(items:Array Value)(n:Nat)(b:Addr)(items2:Array Value)(n2:Nat)(dd:Option Addr)(sl:Array (Option Value))(hs0:¬(!items.isEmpty&&Builtin.List.listTooLong (items.size+items2.size))=true)(hs1:items.size≤sizeLine)(hs2:items.size+items2.size≤sizeLine+1) :
  Meets (Builtin.«list.extend» ⟨[.ref l,.ref b],[]⟩) (fun _ R s=>s.heap.get? l=some { cls:=.type "list",dict:=none,data:=.seq items n,slots:=#[] }∧s.heap.get? b=some { cls:=.type "list",dict:=dd,data:=.seq items2 n2,slots:=sl }∧R (.ok (.ret Value.none)) { s with heap:=s.heap.update l (Obj.mapSeq fun x=>x++items2),toks:=s.toks }) :=
 .of_wp fun prog w A R s h=>by
  obtain ⟨hp,g,d,tk,os⟩:=s
  obtain ⟨hl,hb,h⟩:=h
  have f3:=AutoSeq1.sub_list_list
  have hz':(items++items2).size≤sizeLine+1:=by rw [Array.size_append];exact hs2
  wp_walk using (wpAny_updateSeq hl rfl (hz:=hs1) (_hz':=hz')),wpAny_loadPart' hl,wpAny_loadPart' hb
  exact ⟨_,rfl,h⟩
theorem bm_at {b:Bm}{o:D}{v:Value}{as:List D}{us:List Value}{Q:Value→Shared→Prop}(H:HR prog w base ι σ s.heap)(hF:∀b∈fls fl,b∉adr ι)(ro:VR ι s.heap v o)(ra:VRs ι s.heap us as)
  (O:OutG prog w base fl VR ι s (bmD b o as σ) Q E):wpAny (model prog w) A (call (.builtin (bmId b)) (v::us)) Q E s:=by
 have big:=sizeLine_ge
 unfold bmD at O
 split at O
 ·rename_i l x
  obtain ⟨p,ep,rfl⟩:=ro.locAt
  obtain ⟨u,rfl,ru⟩:=ra.one
  split at O
  ·rename_i ds q
   obtain ⟨vs,n,hp2,hg,rs⟩:=H.listAt ep q
   split at O
   ·rename_i hz
    unfold most at hz
    refine call_meets PySem.F.slot_list_append ⟨_,hg,rfl⟩ PySem.F.entry_list_append (PySem.F.args_list_append_2 _ _) (PySem.list_append p.1 vs.toArray n u (by rw [List.size_toArray,rs.length];omega)) ⟨hg,?_⟩
    have e:=PySem.IsL.update (show PySem.IsL s.heap p.1 vs.toArray n from hg) (fun x=>x.push u)
    rw [List.push_toArray] at e
    obtain ⟨E1,H1,M1⟩:=upd_list (fl:=fl) (ds':=ds++[x]) H hF ep q (Heap.SameBut.update ..) e (rs.append (.cons ru .nil))
    exact O _ ι _ _ E1 H1 .none
   ·exact O.elim
  ·exact O.elim
 ·rename_i l
  obtain ⟨p,ep,rfl⟩:=ro.locAt
  cases ra.zero
  split at O
  ·rename_i ds q
   obtain ⟨vs,n,hp2,hg,rs⟩:=H.listAt ep q
   split at O
   ·rename_i i x hl
    split at O
    ·rename_i hz
     unfold most at hz
     have e1:=lastInit_spec hl
     subst e1
     obtain ⟨ws,ys,rfl,r1,r2⟩:=rs.split
     obtain ⟨y,rfl,ry⟩:=r2.one
     have hz':(ws++[y]).toArray.size≤sizeLine:=by
      have:=rs.length
      rw [List.size_toArray,this]
      omega
     have hk:(ws++[y]).toArray.size - 1=ws.length:=by rw [List.size_toArray,List.length_append];rfl
     have hy:(ws++[y]).toArray[(ws++[y]).toArray.size - 1]? = some y:=by rw [hk];simp
     refine call_meets PySem.F.slot_list_pop ⟨_,hg,rfl⟩ PySem.F.entry_list_pop (PySem.F.args_list_pop_1 _) (PySem.MeetsSeq.list_pop_last p.1 _ n y hy hz') ⟨hg,?_⟩
     have e:=PySem.IsL.update (show PySem.IsL s.heap p.1 (ws++[y]).toArray n from hg) (fun xs=>xs.eraseIdxIfInBounds ((ws++[y]).toArray.size - 1))
     have e2:(ws++[y]).toArray.eraseIdxIfInBounds ((ws++[y]).toArray.size - 1)=ws.toArray:=by rw [hk,kl_erase,List.append_nil]
     rw [e2] at e
     obtain ⟨E1,H1,M1⟩:=upd_list (fl:=fl) (ds':=i) H hF ep q (Heap.SameBut.update ..) e r1
     exact O _ ι _ _ E1 H1 (ry.mono M1 H.toff)
    ·exact O.elim
   ·exact O.elim
  ·exact O.elim
 ·rename_i l
  obtain ⟨p,ep,rfl⟩:=ro.locAt
  obtain ⟨u,rfl,ru⟩:=ra.one
  obtain ⟨t,rfl⟩:=ru.intAt
  split at O
  ·rename_i x r q
   obtain ⟨vs,n,hp2,hg,rs⟩:=H.listAt ep q
   split at O
   ·rename_i hz
    unfold most at hz
    cases rs with
    |@cons y ys _ _ ry rr =>
    have hz':([]++y::ys).toArray.size≤sizeLine:=by
     have:=rr.length
     rw [List.size_toArray,List.nil_append,List.length_cons,this]
     have:r.length+1≤100001:=by omega
     refine Nat.le_trans this ?_
     rw [sizeLine_eq];decide
    refine call_meets PySem.F.slot_list_pop ⟨_,hg,rfl⟩ PySem.F.entry_list_pop (PySem.F.args_list_pop_2 _ _) (PySem.MeetsSeq.list_pop_at p.1 ([]++y::ys).toArray n 0 t 0 y (by decide) (by simp [seqIndex?]) (by simp) hz') ⟨hg,?_⟩
    have e:=PySem.IsL.update (show PySem.IsL s.heap p.1 ([]++y::ys).toArray n from hg) (fun xs=>xs.eraseIdxIfInBounds 0)
    have e2:([]++y::ys).toArray.eraseIdxIfInBounds 0=ys.toArray:=kl_erase [] ys y
    rw [e2] at e
    obtain ⟨E1,H1,M1⟩:=upd_list (fl:=fl) (ds':=r) H hF ep q (Heap.SameBut.update ..) e rr
    exact O _ ι _ _ E1 H1 (ry.mono M1 H.toff)
   ·exact O.elim
  ·exact O.elim
 ·rename_i l x
  obtain ⟨p,ep,rfl⟩:=ro.locAt
  obtain ⟨u,rfl,ru⟩:=ra.one
  split at O
  ·rename_i ds es q ei
   obtain ⟨vs,n,hp2,hg,rs⟩:=H.listAt ep q
   split at O
   ·rename_i hz
    unfold most at hz
    obtain ⟨a,ws,rfl,rw',hw⟩:=items_of H ru (ds:=es) (by
     unfold items at ei
     split at ei
     ·cases ei;rfl
     ·cases ei;rfl
     ·cases ei)
    have l1:=rs.length
    have l2:=rw'.length
    have hsz:vs.toArray.size+ws.toArray.size≤sizeLine:=by
     rw [List.size_toArray,List.size_toArray,l1,l2];omega
    have e:=PySem.IsL.update (show PySem.IsL s.heap p.1 vs.toArray n from hg) (fun x=>x++ws.toArray)
    have e2:vs.toArray++ws.toArray=(vs++ws).toArray:=by simp
    rw [e2] at e
    obtain ⟨E1,H1,M1⟩:=upd_list (fl:=fl) (ds':=ds++es) H hF ep q (Heap.SameBut.update ..) e (rs.append rw')
    rcases hw with ⟨⟨ob,g1,g2,m,g3⟩,_⟩|⟨ob,g1,g2,m,g3⟩
    ·obtain ⟨cls,dd,data,sl⟩:=ob
     simp only at g2 g3
     subst g2 g3
     refine call_meets PySem.F.slot_list_extend ⟨_,hg,rfl⟩ PySem.F.entry_list_extend (PySem.F.args_list_extend_2 _ _) (ext_tup p.1 vs.toArray n a ws.toArray m dd sl (extend_door hsz) (Nat.le_trans (Nat.le_add_right _ _) hsz) (Nat.le_succ_of_le hsz)) ⟨hg,g1,?_⟩
     exact O _ ι _ _ E1 H1 .none
    ·obtain ⟨cls,dd,data,sl⟩:=ob
     simp only at g2 g3
     subst g2 g3
     refine call_meets PySem.F.slot_list_extend ⟨_,hg,rfl⟩ PySem.F.entry_list_extend (PySem.F.args_list_extend_2 _ _) (ext_lst p.1 vs.toArray n a ws.toArray m dd sl (extend_door hsz) (Nat.le_trans (Nat.le_add_right _ _) hsz) (Nat.le_succ_of_le hsz)) ⟨hg,g1,?_⟩
     exact O _ ι _ _ E1 H1 .none
   ·exact O.elim
  ·exact O.elim
 ·rename_i l x
  obtain ⟨p,ep,rfl⟩:=ro.locAt
  obtain ⟨u,rfl,ru⟩:=ra.one
  obtain ⟨t,rfl⟩:=ru.strAt
  split at O
  ·rename_i kvs q
   obtain ⟨es,hp2,hd,rs⟩:=H.dictAt ep q
   refine call_meetsIn PySem.F.slot_dict_get hd.typeIs PySem.F.entry_dict_get (PySem.F.args_dict_get_2 _ _) (meets_dict_get (PySem.strKind prog w) (k:=toS x) p.1 (by simp [PySem.strKind,Value.isStrOf]) (H.notSys ep)) ⟨_,hd.mapOf,?_⟩
   refine O.tick H ?_
   rcases rs.find x with ⟨v,d,h1,h2,h3⟩|⟨h1,h2⟩
   ·rw [h1,h2];exact h3
   ·rw [h1,h2];exact .none
  ·exact O.elim
 ·rename_i l x d
  obtain ⟨p,ep,rfl⟩:=ro.locAt
  obtain ⟨u,u2,rfl,ru,ru2⟩:=ra.two
  obtain ⟨t,rfl⟩:=ru.strAt
  split at O
  ·rename_i kvs q
   obtain ⟨es,hp2,hd,rs⟩:=H.dictAt ep q
   refine call_meetsIn PySem.F.slot_dict_get hd.typeIs PySem.F.entry_dict_get (PySem.F.args_dict_get_3 _ _ _) (meets_dict_get_default (PySem.strKind prog w) (k:=toS x) p.1 (by simp [PySem.strKind,Value.isStrOf]) (H.notSys ep) u2) ⟨_,hd.mapOf,?_⟩
   refine O.tick H ?_
   rcases rs.find x with ⟨v,d,h1,h2,h3⟩|⟨h1,h2⟩
   ·rw [h1,h2];exact h3
   ·rw [h1,h2];exact ru2
  ·exact O.elim
 ·rename_i l x d
  obtain ⟨p,ep,rfl⟩:=ro.locAt
  obtain ⟨u,u2,rfl,ru,ru2⟩:=ra.two
  obtain ⟨t,rfl⟩:=ru.strAt
  split at O
  ·rename_i kvs q
   obtain ⟨es,hp2,hd,rs⟩:=H.dictAt ep q
   split at O
   ·rename_i v0 hf
    split at O
    ·rename_i hz
     unfold most at hz
     rcases rs.find x with ⟨v,d',h1,h2,h3⟩|⟨h1,h2⟩
     ·rw [hf] at h2
      cases h2
      refine call_meetsIn PySem.F.slot_dict_pop hd.typeIs PySem.F.entry_dict_pop (PySem.F.args_dict_pop_3 _ _ _) (meets_dict_pop_there (PySem.strKind prog w) (k:=toS x) p.1 (by simp [PySem.strKind,Value.isStrOf]) [u2] (.inr ⟨_,rfl⟩) rfl) ⟨es,v,hd,by rw [rs.length];omega,h1,fun h' hd' hs=>?_⟩
      obtain ⟨E1,H1,M1⟩:=upd_dict (fl:=fl) H hF ep q hs hd' (rs.drop (dictOf_nodup hd) x)
      exact O _ ι _ _ E1 H1 (h3.mono M1 H.toff)
     ·rw [hf] at h2
      cases h2
    ·exact O.elim
   ·rename_i hf
    rcases rs.find x with ⟨v,d',h1,h2,h3⟩|⟨h1,h2⟩
    ·rw [hf] at h2
     cases h2
    ·refine call_meetsIn PySem.F.slot_dict_pop hd.typeIs PySem.F.entry_dict_pop (PySem.F.args_dict_pop_3 _ _ _) (meets_dict_pop_default (PySem.strKind prog w) (k:=toS x) p.1 (by simp [PySem.strKind,Value.isStrOf]) (H.notSys ep) rfl u2) ⟨es,hd,h1,?_⟩
     exact O.tick H ru2
  ·exact O.elim
 ·rename_i l l'
  obtain ⟨p,ep,rfl⟩:=ro.locAt
  obtain ⟨u,rfl,ru⟩:=ra.one
  obtain ⟨p',ep',rfl⟩:=ru.locAt
  split at O
  ·exact O.elim
  ·rename_i hne
   split at O
   ·rename_i kvs more q q'
    obtain ⟨es,hp2,hd,rs⟩:=H.dictAt ep q
    obtain ⟨es',hp2',hd',rs'⟩:=H.dictAt ep' q'
    split at O
    ·rename_i hz
     unfold most at hz
     have hd0:p.1≠p'.1:=fun z=>hne (adr_one H ep ep' (b:=p.1) (.inl rfl) (.inl z))
     refine call_meetsIn PySem.F.slot_dict_update hd.typeIs PySem.F.entry_dict_update (PySem.F.args_dict_update_2 _ _) (meets_dict_update (PySem.strKind prog w) p.1 p'.1 hd0 (H.notSys ep')) ⟨es,es',hd,hd',by rw [rs.length,rs'.length];omega,fun h' hm _ hs=>?_⟩
     obtain ⟨E1,H1,M1⟩:=upd_dict (fl:=fl) H hF ep q hs hm (rs'.merge rs (dictOf_nodup hd))
     exact O _ ι _ _ E1 H1 .none
    ·exact O.elim
   ·exact O.elim
 ·rename_i sep ds
  obtain ⟨t,rfl⟩:=ro.strAt
  obtain ⟨u,rfl,ru⟩:=ra.one
  obtain ⟨a,vs,rfl,ht,rs⟩:=ru.tupAt
  split at O
  ·rename_i ss hs
   split at O
   ·rename_i hz
    unfold most at hz
    refine join_tuple (ys:=ss.map toS) ht (by simpa using strs_of rs hs) ?_ fun t' k=>?_
    ·have e1:((ss.map toS).map (·.length))=ss.map List.length:=by
      rw [List.map_map]
      refine List.map_congr_left fun x _=>?_
      show (toS x).cps.size=x.length
      simp [toS]
     have e2:(toS sep).length=sep.length:=by
      show (toS sep).cps.size=sep.length
      simp [toS]
     rw [e1,e2,List.length_map]
     omega
    ·show Q (.str (PySem.Builtin.Str.glued (toS sep) (ss.map toS)) t') _
     rw [glued_eq]
     exact O.tick H (.strS _ _)
   ·exact O.elim
  ·exact O.elim
 ·exact O.elim
end
end Mine
end
section
set_option maxRecDepth 100000
open PySem PySem.Spec PySem.Calls PyProof.Rows PySem.W
namespace Mine
theorem range_rev (n:Nat):sliceRange ((n:Int) - 1) (-1) (-1)=(List.range n).reverse:=by
 unfold sliceRange
 rw [if_neg (by decide)]
 have hc:((if (n:Int) - 1 > -1 then ((n:Int) - 1 - -1 - -1 - 1) / - -1 else 0:Int)).toNat=n:=by
  by_cases h:n=0
  ·subst h;rfl
  ·rw [if_pos (by omega)]
   have:((n:Int) - 1 - -1 - -1 - 1) / - -1=n:=by
    have e:((n:Int) - 1 - -1 - -1 - 1)=n+0:=by omega
    rw [e]
    simp
   rw [this]
   simp
 simp only [hc]
 refine List.ext_getElem (by simp) fun i h1 h2=>?_
 simp at h1
 simp
 omega
theorem pick_rev (vs:List Value):(slicePick vs.toArray none none (some (-1))).toList=vs.reverse:=by
 unfold slicePick
 simp only [sliceBounds,Option.getD_some]
 rw [if_neg (by decide),if_neg (by decide),range_rev]
 simp only [List.filterMap_reverse,List.getElem?_toArray]
 congr 1
 refine List.ext_getElem? fun i=>?_
 have key:∀(l:List Value),(List.range l.length).filterMap (fun k=>l[k]?)=l:=by
  intro l
  induction l with
  |nil=>rfl
  |cons x r ih =>
   rw [List.length_cons,List.range_succ_eq_map,List.filterMap_cons]
   simp only [List.getElem?_cons_zero,List.filterMap_map]
   congr 1
 rw [List.size_toArray,key]
section
variable {prog:Program}{w:World}{base:Heap}{fl:List PEnv}{ι:Io}{s:Shared}{σ:Hp}{E:Value→Shared→Prop}{A:Around}
theorem rev_at {value:PySem.Expr}{l u:Option PySem.Expr}{st:PySem.Expr}{p:Pos}{sl:Addr}{vs:List Value}{ds:List D}{a:Addr}{t:Tok}{Q:Value→Shared→Prop}(H:HR prog w base ι σ s.heap)(hl:s.heap.IsList a vs.toArray)(rs:VRs ι s.heap vs ds)(hz:ds.length≤most)
  (hs:s.heap.IsSliceOf sl .none .none (.int (-1) t)) (O:OutG prog w base fl VR ι s (.ok (.lst ds.reverse) σ) Q E):wpAny (model prog w) A (subscriptTail value (.Slice l u (some st) p) (.ref a) (.ref sl)) Q E s:=by
 have e:slicePick vs.toArray none none (some (-1))=vs.reverse.toArray:=by
  rw [←pick_rev,Array.toArray_toList]
 refine tail_any hl.typeIs PySem.list_getitem_lookup (wpAny_getItem_list_slice hl hs .none .none (.int _ _) (by decide) ?_ ?_) rfl
 ·rw [e]
  exact O.lstNew H rs.rev 0
 ·have:=rs.length
  have:=sizeLine_ge
  unfold most at hz
  rw [List.size_toArray]
  omega
theorem item_store {v u x:Value}{o i d:D}{σ':Hp}{Q:Unit→Shared→Prop}(H:HR prog w base ι σ s.heap)(hF:∀b∈fls fl,b∉adr ι)(ro:VR ι s.heap v o)(ri:VR ι s.heap u i)(rd:VR ι s.heap x d)
  (e:storeItem o i d σ=some σ') (O:∀h' tk',Ext (fls fl) [] ι ι s.heap h'→HR prog w base ι σ' h'→Q () { s with heap:=h',toks:=tk' }):wpAny (model prog w) A (setItem v u x) Q E s:=by
 have big:=sizeLine_ge
 unfold storeItem at e
 split at e
 ·rename_i l k
  obtain ⟨p,ep,rfl⟩:=ro.locAt
  obtain ⟨t,rfl⟩:=ri.intAt
  split at e
  ·rename_i ds q
   split at e
   ·rename_i hk
    cases e
    obtain ⟨h0,h1,h2⟩:=hk
    unfold most at h2
    obtain ⟨vs,n,hp2,hg,rs⟩:=H.listAt ep q
    have hl:=rs.length
    refine ki_setAt (items:=vs.toArray) (n:=n) hg h0 (by omega) (by rw [List.size_toArray,hl];omega) ?_
    have e1:=PySem.IsL.update (show PySem.IsL s.heap p.1 vs.toArray n from hg) (fun xs=>xs.setIfInBounds k.toNat x)
    have e2:vs.toArray.setIfInBounds k.toNat x=(vs.set k.toNat x).toArray:=by simp
    rw [e2] at e1
    have rs':VRs ι s.heap (vs.set k.toNat x) (ds.set k.toNat d):=by
     have key:∀(j:Nat) {vs:List Value} {ds:List D},VRs ι s.heap vs ds→VRs ι s.heap (vs.set j x) (ds.set j d):=by
      intro j vs ds r
      induction vs generalizing ds j with
      |nil=>cases r;exact .nil
      |cons v vs ih =>
       cases r with
       |cons a r =>
        cases j with
        |zero=>exact .cons rd r
        |succ j=>exact .cons a (ih j r)
     exact key _ rs
    obtain ⟨E1,H1,_⟩:=upd_list (fl:=fl) H hF ep q (Heap.SameBut.update ..) e1 rs'
    exact O _ _ E1 H1
   ·cases e
  ·cases e
 ·rename_i l y
  obtain ⟨p,ep,rfl⟩:=ro.locAt
  obtain ⟨t,rfl⟩:=ri.strAt
  split at e
  ·rename_i kvs q
   split at e
   ·rename_i hz
    cases e
    unfold most at hz
    obtain ⟨es,hp2,hd,rs⟩:=H.dictAt ep q
    refine wpAny_setItem_pairs (knd:=PySem.strKind prog w) (k:=toS y) (by simp [PySem.strKind,Value.isStrOf]) hd (fun h' hm hs=>?_) (by rw [rs.length];omega)
    rw [stored_eq (dictOf_nodup hd)] at hm
    obtain ⟨E1,H1,_⟩:=upd_dict (fl:=fl) H hF ep q hs hm (rs.put rd)
    exact O _ _ E1 H1
   ·cases e
  ·cases e
 ·cases e
end
end Mine
end
section
set_option maxRecDepth 100000
open PySem PySem.Spec PySem.Calls PyProof.Rows PySem.W
namespace Mine
def CallOK (prog:Program)(w:World)(base:Heap)(n:Nat)(cf:Nat→List D→M D):Prop :=
 ∀(f:Nat) (fi:FnI) (vs:List Value) (as:List D) (fl:List PEnv) (A:Around) (E:Value→Shared→Prop) (s:Shared) (ι:Io) (σ:Hp) (Q:Value→Shared→Prop),fnT[f]? = some fi→A.frames=some fl→RoomC A n →
  HR prog w base ι σ s.heap→FramesR base ι s.heap fl→VRs ι s.heap vs as→OutG prog w base fl VR ι s (cf f as σ) Q E→codeAny (model prog w) A (.call (.ref fi.addr) ⟨vs,[]⟩) (wants Q E) s
structure Wd (prog:Program)(w:World)(base:Heap)(K:Frag)(mg mb:Str→Option Value)(n:Nat)(cf:Nat→List D→M D):Prop where
 C:Cx base K mg mb
 g:clsT.all (goodC K)=true
 k:fnT.all (fun fi=>keepIn K (.ref fi.addr))=true
 call:CallOK prog w base n cf
section
variable (prog:Program)(w:World)(base:Heap)(K:Frag)(n:Nat)(cf:Nat→List D→M D)
def EvOK (e:Ex):Prop:=∀(fl:List PEnv) (A:Around) (sc:PySem.Scope) (NE:NEt) (x:PySem.Expr) (env:PEnv) (ι:Io) (s:Shared) (σ:Hp) (ρ:Ve) (Q:Value→Shared→Prop) (E:Value→Shared→Prop),
 chkE K e sc NE x=true→A.frames=some fl→Room A n→env.scope=sc→SR prog w base fl env NE ι σ ρ s.heap→OutG prog w base fl VR ι s (evE clsT cf e ρ σ) Q E→wpAny (model prog w) A (eval x env) Q E s
def EvsOK (es:Exs):Prop:=∀(fl:List PEnv) (A:Around) (sc:PySem.Scope) (NE:NEt) (l:List PySem.Expr) (pos:Pos) (env:PEnv) (ι:Io) (s:Shared) (σ:Hp) (ρ:Ve) (Q:List Value→Shared→Prop) (E:Value→Shared→Prop),
 chkEs K es sc NE l=true→A.frames=some fl→Room A n→env.scope=sc→SR prog w base fl env NE ι σ ρ s.heap→OutG prog w base fl VRs ι s (evEs clsT cf es ρ σ) Q E→wpAny (model prog w) A (spliced (backTo pos (starEach l env))) Q E s
def evB (e:Ex)(ρ:Ve):M Bool:=(evE clsT cf e ρ).bind fun d=>match d with
 |.bool b=>M.ret b
 |_=>M.fail
def relB (_:Io)(_:Heap)(b c:Bool):Prop:=b=c
def TrOK (e:Ex):Prop:=∀(fl:List PEnv) (A:Around) (sc:PySem.Scope) (NE:NEt) (x:PySem.Expr) (env:PEnv) (ι:Io) (s:Shared) (σ:Hp) (ρ:Ve) (Q:Bool→Shared→Prop) (E:Value→Shared→Prop),
 chkE K e sc NE x=true→A.frames=some fl→Room A n→env.scope=sc→SR prog w base fl env NE ι σ ρ s.heap→OutG prog w base fl relB ι s (evB cf e ρ σ) Q E→wpAny (model prog w) A (PySem.isTrue x env (eval x env)) Q E s
end
section
variable {prog:Program}{w:World}{base:Heap}{K:Frag}{mg mb:Str→Option Value}{n:Nat}{cf:Nat→List D→M D}
variable {fl:List PEnv}{ι:Io}{s:Shared}{σ:Hp}{ρ:Ve}{A:Around}{env:PEnv}{NE:NEt}{E:Value→Shared→Prop}
theorem Wd.In (W:Wd prog w base K mg mb n cf){h:Heap}(st:base.StaysIn h):K.In h:=W.C.X.keeps st
mutual
theorem readK_vr (X:K.In base)(H:HR prog w base ι σ s.heap):∀(d:D) (v:Value),readK K d v=true→VR ι s.heap v d
 |.none,v,h=>by cases v<;>first|(cases h;done)|exact .none
 |.bool b,v,h=>by
  cases v<;>first|(cases h;done)|skip
  simp only [readK,beq_iff_eq] at h
  subst h
  exact .bool _
 |.int b,v,h=>by
  cases v<;>first|(cases h;done)|skip
  simp only [readK,beq_iff_eq] at h
  subst h
  exact .int _ _
 |.str b,v,h=>by
  cases v<;>first|(cases h;done)|skip
  simp only [readK,beq_iff_eq] at h
  subst h
  exact .str _ _
 |.tup ds,v,h=>by
  cases v<;>first|(cases h;done)|skip
  rename_i a
  simp only [readK] at h
  split at h
  ·rename_i dd xs m sl e
   have e1:=H.stay a _ (X a _ e)
   refine .tup (vs:=xs.toList) ⟨_,e1,rfl,m,by simp⟩ (fun z=>?_) (readKs_vr X H ds xs.toList h)
   have:=H.off a z
   rw [X a _ e] at this
   cases this
  ·cases h
 |.lst ds,v,h=>by cases v<;>cases h
 |.loc l,v,h=>by cases v<;>cases h
 |.opq,v,h=>by
  cases v<;>first|(cases h;done)|exact .opq
theorem readKs_vr (X:K.In base)(H:HR prog w base ι σ s.heap):∀(ds:List D) (vs:List Value),readKs K ds vs=true→VRs ι s.heap vs ds
 |[],vs,h=>by
  cases vs with
  |nil=>exact .nil
  |cons _ _=>cases h
 |d::ds,vs,h=>by
  cases vs with
  |nil=>cases h
  |cons v vs =>
   simp only [readKs,Bool.and_eq_true] at h
   exact .cons (readK_vr X H d v h.1) (readKs_vr X H ds vs h.2)
end
theorem glob_at {x:Str}{v:Value}{Q:Value→Shared→Prop}(W:Wd prog w base K mg mb n cf)(S:SR prog w base fl env NE ι σ ρ s.heap)(e:glob K env.scope x=some v)(pos:Pos)(h:Q v s):wpAny (model prog w) A (eval (.Name x pos) env) Q E s:=by
 unfold glob at e
 split at e
 ·rename_i hk
  refine Calls.Name_function_global S.fr.kind hk.1 ?_ hk.2
  have hg:s.heap.Ns env.globals mg:=by rw [S.fr.glob];exact W.C.g.at' fun o e=>S.hr.stay _ o e
  have hb:s.heap.Ns env.builtins mb:=by rw [S.fr.blt];exact W.C.b.at' fun o e=>S.hr.stay _ o e
  unfold gv at e
  split at e
  ·rename_i u q
   cases e
   exact loadGlobal_global hg (mg_of W.C.X W.C.g q) h
  ·rename_i q
   obtain ⟨h1,h2⟩:=blt_ok e
   exact loadGlobal_builtin hg (mg_none_of W.C.X W.C.g q) hb (by rw [W.C.bb x h2,h1]) h
  ·cases e
 ·cases e
theorem ev_lit {d:D}(W:Wd prog w base K mg mb n cf):EvOK prog w base K n cf (.lit d):=by
 intro fl A sc NE x env ι s σ ρ Q E hc hf Rm hsc S O
 cases x<;>first|(cases hc;done)|skip
 ·rename_i c k pos
  simp only [chkE] at hc
  unfold litC at hc
  split at hc
  ·exact Constant_none (O.now S.hr .none)
  ·rw [beq_iff_eq] at hc
   subst hc
   exact Constant_bool (O.now S.hr (.bool _))
  ·rw [beq_iff_eq] at hc
   subst hc
   exact wpAny_Constant_int (O.tick S.hr (.int _ _))
  ·rw [beq_iff_eq] at hc
   subst hc
   exact Constant_str (O.tick S.hr (.str _ _))
  ·cases hc
 ·rename_i x pos
  simp only [chkE] at hc
  split at hc
  ·rename_i v e
   subst hsc
   exact glob_at W S e pos (O.now S.hr (readK_vr W.C.X S.hr d v hc))
  ·cases hc
theorem ev_neg {k:Nat}(W:Wd prog w base K mg mb n cf):EvOK prog w base K n cf (.neg k):=by
 intro fl A sc NE x env ι s σ ρ Q E hc hf Rm hsc S O
 simp only [chkE] at hc
 split at hc
 ·rw [beq_iff_eq] at hc
  subst hc
  exact UnaryOp_ (wpAny_Constant_int (PySem.P.neg_int (O.tick S.hr (.int _ _))))
 ·cases hc
theorem ev_var {i:Nat}(W:Wd prog w base K mg mb n cf):EvOK prog w base K n cf (.var i):=by
 intro fl A sc NE x env ι s σ ρ Q E hc hf Rm hsc S O
 simp only [chkE] at hc
 split at hc
 ·rename_i x pos
  simp only [Bool.and_eq_true,beq_iff_eq] at hc
  obtain ⟨⟨h1,h2⟩,h3⟩:=hc
  rw [evE] at O
  cases e:ρ[i]? with
  |none=>rw [e] at O;exact O.elim
  |some o =>
   rw [e] at O
   cases o with
   |none=>exact O.elim
   |some d=>exact wpAny_Name (load_var (S.lc x i d h1 e) S.fr.kind (fun v r=>O.now S.hr r) h3) h2
 ·cases hc
theorem ev_stuck:EvOK prog w base K n cf .stuck:=by
 intro fl A sc NE x env ι s σ ρ Q E hc hf Rm hsc S O
 exact O.elim
end
end Mine
end
section
set_option maxRecDepth 100000
open PySem PySem.Spec PySem.Calls PyProof.Rows PySem.W
namespace Mine
theorem M.assoc {α β γ:Type}(x:M α)(f:α→M β)(g:β→M γ):(x.bind f).bind g=x.bind fun a=>(f a).bind g:=by
 funext h
 simp only [M.bind]
 cases x h<;>rfl
section
variable {prog:Program}{w:World}{base:Heap}{K:Frag}{mg mb:Str→Option Value}{n:Nat}{cf:Nat→List D→M D}
variable {fl:List PEnv}{ι:Io}{s:Shared}{σ:Hp}{ρ:Ve}{A:Around}{env:PEnv}{NE:NEt}{sc:PySem.Scope}{x:PySem.Expr}{E:Value→Shared→Prop}
theorem EvOK.step {e:Ex}{γ δ:Type}{rel:Io→Heap→δ→γ→Prop}{f:D→M γ}{Q:δ→Shared→Prop}{Q':Value→Shared→Prop}(h:EvOK prog w base K n cf e)
  (hc:chkE K e sc NE x=true) (hf:A.frames=some fl) (Rm:Room A n) (hsc:env.scope=sc) (S:SR prog w base fl env NE ι σ ρ s.heap) (O:OutG prog w base fl rel ι s ((evE clsT cf e ρ).bind f σ) Q E)
  (k:∀v s₁ d σ₁ ι₁,SR prog w base fl env NE ι₁ σ₁ ρ s₁.heap→VR ι₁ s₁.heap v d→OutG prog w base fl rel ι₁ s₁ (f d σ₁) Q E→Q' v s₁):wpAny (model prog w) A (eval x env) Q' E s :=
 wpAny_mono (h fl A sc NE x env ι s σ ρ _ E hc hf Rm hsc S O.bind) (fun v s₁ h₁=>by
  obtain ⟨d,σ₁,ι₁,_,e1,H1,r,O1⟩:=h₁
  exact k v s₁ d σ₁ ι₁ (S.ext e1 H1) r O1) fun _ _ e=>e
theorem EvsOK.step {es:Exs}{γ δ:Type}{rel:Io→Heap→δ→γ→Prop}{f:List D→M γ}{Q:δ→Shared→Prop}{Q':List Value→Shared→Prop}{l:List PySem.Expr}{pos:Pos}(h:EvsOK prog w base K n cf es)
  (hc:chkEs K es sc NE l=true) (hf:A.frames=some fl) (Rm:Room A n) (hsc:env.scope=sc) (S:SR prog w base fl env NE ι σ ρ s.heap) (O:OutG prog w base fl rel ι s ((evEs clsT cf es ρ).bind f σ) Q E)
  (k:∀vs s₁ ds σ₁ ι₁,evEs clsT cf es ρ σ=.ok ds σ₁→SR prog w base fl env NE ι₁ σ₁ ρ s₁.heap→VRs ι₁ s₁.heap vs ds→OutG prog w base fl rel ι₁ s₁ (f ds σ₁) Q E→Q' vs s₁):wpAny (model prog w) A (spliced (backTo pos (starEach l env))) Q' E s :=
 wpAny_mono (h fl A sc NE l pos env ι s σ ρ _ E hc hf Rm hsc S O.bind) (fun v s₁ h₁=>by
  obtain ⟨d,σ₁,ι₁,he,e1,H1,r,O1⟩:=h₁
  exact k v s₁ d σ₁ ι₁ he (S.ext e1 H1) r O1) fun _ _ e=>e
theorem TrOK.step {e:Ex}{γ δ:Type}{rel:Io→Heap→δ→γ→Prop}{f:Bool→M γ}{Q:δ→Shared→Prop}{Q':Bool→Shared→Prop}(h:TrOK prog w base K n cf e)
  (hc:chkE K e sc NE x=true) (hf:A.frames=some fl) (Rm:Room A n) (hsc:env.scope=sc) (S:SR prog w base fl env NE ι σ ρ s.heap) (O:OutG prog w base fl rel ι s ((evB cf e ρ).bind f σ) Q E)
  (k:∀b s₁ σ₁ ι₁,SR prog w base fl env NE ι₁ σ₁ ρ s₁.heap→OutG prog w base fl rel ι₁ s₁ (f b σ₁) Q E→Q' b s₁):wpAny (model prog w) A (PySem.isTrue x env (eval x env)) Q' E s :=
 wpAny_mono (h fl A sc NE x env ι s σ ρ _ E hc hf Rm hsc S O.bind) (fun v s₁ h₁=>by
  obtain ⟨d,σ₁,ι₁,_,e1,H1,r,O1⟩:=h₁
  cases r
  exact k v s₁ σ₁ ι₁ (S.ext e1 H1) O1) fun _ _ e=>e
def Exs.len:Exs→Nat
 |.nil=>0
 |.cons _ es=>es.len+1
theorem evEs_len:∀{es:Exs} {ρ:Ve} {h h':Hp} {ds:List D},evEs clsT cf es ρ h=.ok ds h'→ds.length=es.len
 |.nil,_,_,_,_,e=>by
  rw [evEs] at e
  cases e
  rfl
 |.cons x es,ρ,h,h',ds,e=>by
  rw [evEs] at e
  simp only [M.bind] at e
  split at e
  ·rename_i d h1 e1
   split at e
   ·rename_i ds' h2 e2
    cases e
    simp [Exs.len,evEs_len e2]
   ·cases e
   ·cases e
  ·cases e
  ·cases e
theorem chkEs_len:∀{es:Exs} {sc:PySem.Scope} {NE:NEt} {l:List PySem.Expr},chkEs K es sc NE l=true→l.length=es.len
 |.nil,_,_,l,e=>by
  cases l with
  |nil=>rfl
  |cons _ _=>cases e
 |.cons x es,sc,NE,l,e=>by
  cases l with
  |nil=>cases e
  |cons y r =>
   simp only [chkEs,Bool.and_eq_true] at e
   simp [Exs.len,chkEs_len e.2]
theorem star_false {e:PySem.Expr}{r:List PySem.Expr}(h:isStar e=false):starEach (e::r) env=(false,eval e env)::starEach r env:=by
 cases e<;>first|rfl|cases h
theorem ev_tup {es:Exs}(h:EvsOK prog w base K n cf es):EvOK prog w base K n cf (.tup es):=by
 intro fl A sc NE x env ι s σ ρ Q E hc hf Rm hsc S O
 simp only [chkE] at hc
 split at hc
 ·simp only [Bool.and_eq_true,decide_eq_true_eq] at hc
  rw [evE] at O
  refine wpAny_Tuple (h.step hc.1 hf Rm hsc S O fun vs s₁ ds σ₁ ι₁ he S1 r O1=>⟨?_,O1.tupNew S1.hr r 0⟩)
  have:=chkEs_len hc.1
  rw [r.length,evEs_len he,←this]
  exact Nat.le_trans (Nat.le_of_lt hc.2) (Nat.le_trans (by decide) sizeLine_ge)
 ·cases hc
theorem ev_vlist {es:Exs}(h:EvsOK prog w base K n cf es):EvOK prog w base K n cf (.vlist es):=by
 intro fl A sc NE x env ι s σ ρ Q E hc hf Rm hsc S O
 simp only [chkE] at hc
 split at hc
 ·simp only [Bool.and_eq_true,decide_eq_true_eq] at hc
  rw [evE] at O
  refine wpAny_List (h.step hc.1 hf Rm hsc S O fun vs s₁ ds σ₁ ι₁ he S1 r O1=>⟨?_,O1.lstNew S1.hr r 0⟩)
  have:=chkEs_len hc.1
  rw [r.length,evEs_len he,←this]
  exact Nat.le_trans (Nat.le_of_lt hc.2) (Nat.le_trans (by decide) sizeLine_ge)
 ·cases hc
theorem ev_mlist {es:Exs}(h:EvsOK prog w base K n cf es):EvOK prog w base K n cf (.mlist es):=by
 intro fl A sc NE x env ι s σ ρ Q E hc hf Rm hsc S O
 simp only [chkE] at hc
 split at hc
 ·simp only [Bool.and_eq_true,decide_eq_true_eq] at hc
  rw [evE] at O
  refine wpAny_List (h.step hc.1 hf Rm hsc S O fun vs s₁ ds σ₁ ι₁ he S1 r O1=>⟨?_,O1.listNew S1.hr r 0⟩)
  have:=chkEs_len hc.1
  rw [r.length,evEs_len he,←this]
  exact Nat.le_trans (Nat.le_of_lt hc.2) (Nat.le_trans (by decide) sizeLine_ge)
 ·cases hc
theorem ev_item {e i:Ex}(h1:EvOK prog w base K n cf e)(h2:EvOK prog w base K n cf i):EvOK prog w base K n cf (.item e i):=by
 intro fl A sc NE x env ι s σ ρ Q E hc hf Rm hsc S O
 simp only [chkE] at hc
 split at hc
 ·simp only [Bool.and_eq_true,beq_iff_eq] at hc
  rw [evE] at O
  refine Subscript_ (h1.step hc.1.1 hf Rm hsc S O fun v s₁ a σ₁ ι₁ S1 r1 O1=>?_)
  refine wpAny_mono (h2 fl A sc NE _ env ι₁ s₁ σ₁ ρ _ E hc.1.2 hf Rm hsc S1 O1.bind) (fun u s₂ h₂=>?_) fun _ _ e=>e
  obtain ⟨k,σ₂,ι₂,_,e2,H2,r2,O2⟩:=h₂
  exact item_at hc.2 H2 (r1.mono (S1.mo e2) S1.hr.toff) r2 O2
 ·cases hc
theorem ev_lpick {es:Exs}{i:Ex}(h1:EvsOK prog w base K n cf es)(h2:EvOK prog w base K n cf i):EvOK prog w base K n cf (.lpick es i):=by
 intro fl A sc NE x env ι s σ ρ Q E hc hf Rm hsc S O
 simp only [chkE] at hc
 split at hc
 ·simp only [Bool.and_eq_true,beq_iff_eq,decide_eq_true_eq] at hc
  obtain ⟨⟨⟨c1,c2⟩,c3⟩,c4⟩:=hc
  rw [evE] at O
  refine Subscript_ (wpAny_List (h1.step c1 hf Rm hsc S O fun vs s₁ ds σ₁ ι₁ he S1 r1 O1=>⟨?_,?_⟩))
  ·have:=chkEs_len c1
   rw [r1.length,evEs_len he,←this]
   exact Nat.le_trans (Nat.le_of_lt c4) (Nat.le_trans (by decide) sizeLine_ge)
  ·have E1:Ext (fls fl) [] ι₁ ι₁ s₁.heap (s₁.heap.push (lstObj vs 0)):=Ext.more keeps_push
   have H1:=S1.hr.more (h':=s₁.heap.push (lstObj vs 0)) keeps_push
   have S2:=S1.ext E1 H1
   have r2:VR ι₁ (s₁.heap.push (lstObj vs 0)) (.ref s₁.heap.objs.size) (.lst ds):=.lst ⟨_,Heap.get?_push_size _ rfl,rfl,_,rfl⟩ (fun q=>absurd (adr_lt S1.hr q) (Nat.lt_irrefl _)) (r1.mono (Mo.more keeps_push) S1.hr.toff)
   have O2:=O1.later (tk':=s₁.toks) E1
   refine wpAny_mono (h2 fl A sc NE _ env ι₁ _ σ₁ ρ _ E c2 hf Rm hsc S2 O2.bind) (fun u s₂ h₂=>?_) fun _ _ e=>e
   obtain ⟨k,σ₂,ι₂,_,e2,H2,r3,O3⟩:=h₂
   exact item_at c3 H2 (r2.mono (S2.mo e2) S2.hr.toff) r3 O3
 ·cases hc
theorem ev_rev {e:Ex}(h1:EvOK prog w base K n cf e):EvOK prog w base K n cf (.rev e):=by
 intro fl A sc NE x env ι s σ ρ Q E hc hf Rm hsc S O
 simp only [chkE] at hc
 split at hc
 ·rename_i v i k1 p1 p2 p3 p4
  simp only [Bool.and_eq_true,beq_iff_eq] at hc
  obtain ⟨c1,rfl⟩:=hc
  rw [evE] at O
  refine Subscript_ (h1.step c1 hf Rm hsc S O fun v s₁ a σ₁ ι₁ S1 r1 O1=>?_)
  refine wpAny_Slice (wpAny_pure (wpAny_pure ?_))
  refine UnaryOp_ (wpAny_Constant_int (PySem.P.neg_int ?_))
  cases a with
  |lst ds =>
   simp only at O1
   split at O1
   ·rename_i hz
    obtain ⟨a,vs,rfl,hl,hn,rs⟩:=r1.lstAt
    have O2:=O1.later (h':=s₁.heap.push { cls:=.type "slice",data:=.fields #[.none,.none,.int (-1) (s₁.toks+1)] }) (tk':=s₁.toks+1+1) (Ext.more keeps_push)
    exact rev_at (S1.hr.more keeps_push) (hl.push _) (rs.mono (Mo.more keeps_push) S1.hr.toff) hz (Heap.IsSliceOf.new ..) O2
   ·exact O1.elim
  |_=>exact O1.elim
 ·cases hc
theorem base_of {o:PySem.Expr}{a:Str}{W:Sem Value}(h:noSup o=true):attributeBase o a env W=W:=by
 unfold attributeBase
 split
 ·rename_i id _ pos
  have:(id != ("super" : Str))=true:=h
  rw [this]
  rfl
 ·rfl
theorem ev_attr {e:Ex}{a:Nat}(W:Wd prog w base K mg mb n cf)(h1:EvOK prog w base K n cf e):EvOK prog w base K n cf (.attr e a):=by
 intro fl A sc NE x env ι s σ ρ Q E hc hf Rm hsc S O
 simp only [chkE] at hc
 split at hc
 ·simp only [Bool.and_eq_true,beq_iff_eq] at hc
  obtain ⟨⟨⟨c1,c2⟩,c3⟩,c4⟩:=hc
  subst c2
  rw [evE] at O
  refine Attribute_any_ (h1.step c1 hf Rm hsc S O fun v s₁ o σ₁ ι₁ S1 r1 O1=>?_) (by rw [arm_eval_Attribute,base_of c4])
  exact attr_at W.C W.g (List.contains_iff_mem.mp c3) S1.hr r1 O1
 ·cases hc
theorem cmp_core {op:Cm}{a b:Ex}{l r:PySem.Expr}{Q:Value→Shared→Prop}(h1:EvOK prog w base K n cf a)(h2:EvOK prog w base K n cf b)(c2:chkE K a sc NE l=true)(c3:chkE K b sc NE r=true)
  (c5:nNone op r=true) (hf:A.frames=some fl) (Rm:Room A n) (hsc:env.scope=sc) (S:SR prog w base fl env NE ι σ ρ s.heap)
  (O:OutG prog w base fl VR ι s (evE clsT cf (.cmp op a b) ρ σ) Q E):wpAny (model prog w) A (eval l env) (fun v s₁=>wpAny (model prog w) A (eval r env) (fun u s₂=>wpAny (model prog w) A (compareOp (cmOf op) v u) Q E s₂) E s₁) E s:=by
 rw [evE] at O
 refine h1.step c2 hf Rm hsc S O fun v s₁ d σ₁ ι₁ S1 r1 O1=>?_
 by_cases hn:op=.isN∨op=.isnN
 ·have hr:∃k p,r=.Constant .none k p:=by
   have:isNone r=true:=by rcases hn with rfl|rfl<;>exact c5
   cases r<;>first|(cases this;done)|skip
   rename_i c k p
   cases c<;>first|(cases this;done)|exact ⟨_,_,rfl⟩
  obtain ⟨k,p,rfl⟩:=hr
  refine Constant_none ?_
  have hb:∀y,b=.lit y→True:=fun _ _=>trivial
  cases b<;>first|(cases c3;done)|skip
  ·rename_i y
   simp only [chkE] at c3
   cases y<;>first|(cases c3;done)|skip
   exact cmp_at Rm S1.hr r1 .none (fun _=>rfl) (by rw [evE] at O1;exact O1)
  ·exact O1.elim
 ·refine wpAny_mono (h2 fl A sc NE _ env ι₁ s₁ σ₁ ρ _ E c3 hf Rm hsc S1 O1.bind) (fun u s₂ h₂=>?_) fun _ _ e=>e
  obtain ⟨k,σ₂,ι₂,_,e2,H2,r2,O2⟩:=h₂
  exact cmp_at Rm H2 (r1.mono (S1.mo e2) S1.hr.toff) r2 (fun z=>absurd z hn) O2
theorem ev_cmp {op:Cm}{a b:Ex}(h1:EvOK prog w base K n cf a)(h2:EvOK prog w base K n cf b):EvOK prog w base K n cf (.cmp op a b):=by
 intro fl A sc NE x env ι s σ ρ Q E hc hf Rm hsc S O
 simp only [chkE] at hc
 split at hc
 ·rename_i l o r pos
  simp only [Bool.and_eq_true,beq_iff_eq] at hc
  obtain ⟨⟨⟨⟨c1,c2⟩,c3⟩,c4⟩,c5⟩:=hc
  have ho:o=cmOf op:=by
   revert c1
   cases o<;>cases op<;>decide
  subst ho
  exact wpAny_Compare1 (cmp_core h1 h2 c2 c3 c5 hf Rm hsc S O) c4
 ·cases hc
theorem ev_bin {op:Bo}{a b:Ex}(h1:EvOK prog w base K n cf a)(h2:EvOK prog w base K n cf b):EvOK prog w base K n cf (.bin op a b):=by
 intro fl A sc NE x env ι s σ ρ Q E hc hf Rm hsc S O
 simp only [chkE] at hc
 split at hc
 ·rename_i l o r pos
  simp only [Bool.and_eq_true] at hc
  obtain ⟨⟨c1,c2⟩,c3⟩:=hc
  have ho:o=boOf op:=by
   revert c1
   cases o<;>cases op<;>decide
  subst ho
  rw [evE] at O
  refine wpAny_BinOp (h1.step c2 hf Rm hsc S O fun v s₁ d σ₁ ι₁ S1 r1 O1=>?_)
  refine wpAny_mono (h2 fl A sc NE _ env ι₁ s₁ σ₁ ρ _ E c3 hf Rm hsc S1 O1.bind) (fun u s₂ h₂=>?_) fun _ _ e=>e
  obtain ⟨k,σ₂,ι₂,_,e2,H2,r2,O2⟩:=h₂
  exact bin_at H2 (r1.mono (S1.mo e2) S1.hr.toff) r2 O2
 ·cases hc
end
end Mine
end
section
set_option maxRecDepth 100000
open PySem PySem.Spec PySem.Calls PyProof.Rows PySem.W
namespace Mine
section
variable {prog:Program}{w:World}{base:Heap}{K:Frag}{mg mb:Str→Option Value}{n:Nat}{cf:Nat→List D→M D}
variable {fl:List PEnv}{ι:Io}{s:Shared}{σ:Hp}{ρ:Ve}{A:Around}{env:PEnv}{NE:NEt}{sc:PySem.Scope}{x:PySem.Expr}{E:Value→Shared→Prop}
theorem truthy_bool {b:Bool}{M:Model}{Q:Bool→Shared→Prop}(h:Q b s):wpAny M A (truthy (.bool b)) Q E s:=by
 unfold truthy
 exact wpAny_pure h
def chkB (d:D):M Bool:=match d with
 |.bool b=>M.ret b
 |_=>M.fail
theorem evB_eq (e:Ex):evB cf e ρ=(evE clsT cf e ρ).bind chkB:=by
 unfold evB
 congr 1
theorem chkB_ok {d:D}{v:Value}{γ δ:Type}{rel:Io→Heap→δ→γ→Prop}{f:Bool→M γ}{Q:δ→Shared→Prop}(r:VR ι s.heap v d)(O:OutG prog w base fl rel ι s (((chkB d).bind f) σ) Q E):∃b,v=.bool b∧OutG prog w base fl rel ι s (f b σ) Q E:=by
 cases d with
 |bool b=>exact ⟨b,r.boolAt,O⟩
 |_=>exact O.elim
theorem chkB_ret {d:D}{v:Value}{Q:Bool→Shared→Prop}(H:HR prog w base ι σ s.heap)(r:VR ι s.heap v d)(O:OutG prog w base fl relB ι s (chkB d σ) Q E):∃b,v=.bool b∧Q b s:=by
 cases d with
 |bool b=>exact ⟨b,r.boolAt,O.now H rfl⟩
 |_=>exact O.elim
theorem tr_plain {e:Ex}(h:EvOK prog w base K n cf e)(hp:∀sc NE x env whole,chkE K e sc NE x=true→PySem.isTrue x env whole=(do let v ←whole;standAt x.pos;holding [v] (truthy v))):TrOK prog w base K n cf e:=by
 intro fl A sc NE x env ι s σ ρ Q E hc hf Rm hsc S O
 rw [evB_eq] at O
 refine isTrue_plain (h.step hc hf Rm hsc S O fun v s₁ d σ₁ ι₁ S1 r O1=>?_) (hp sc NE x env _ hc)
 obtain ⟨b,rfl,q⟩:=chkB_ret S1.hr r O1
 exact truthy_bool q
theorem tr_stuck:TrOK prog w base K n cf .stuck:=by
 intro fl A sc NE x env ι s σ ρ Q E hc hf Rm hsc S O
 exact O.elim
theorem ev_ite {c a b:Ex}(h0:TrOK prog w base K n cf c)(h1:EvOK prog w base K n cf a)(h2:EvOK prog w base K n cf b):EvOK prog w base K n cf (.ite c a b):=by
 intro fl A sc NE x env ι s σ ρ Q E hc hf Rm hsc S O
 simp only [chkE] at hc
 split at hc
 ·simp only [Bool.and_eq_true] at hc
  obtain ⟨⟨c0,c1⟩,c2⟩:=hc
  have e:evE clsT cf (.ite c a b) ρ=(evB cf c ρ).bind fun t=>if t=true then evE clsT cf a ρ else evE clsT cf b ρ:=by
   rw [evE,evB_eq,M.assoc]
   congr 1
   funext d
   cases d<;>try rfl
   rename_i t
   cases t<;>rfl
  rw [e] at O
  refine IfExp_ (h0.step c0 hf Rm hsc S O fun t s₁ σ₁ ι₁ S1 O1=>?_)
  cases t with
  |true=>exact h1 fl A sc NE _ env ι₁ s₁ σ₁ ρ Q E c1 hf Rm hsc S1 O1
  |false=>exact h2 fl A sc NE _ env ι₁ s₁ σ₁ ρ Q E c2 hf Rm hsc S1 O1
 ·cases hc
theorem tr_ite {c a b:Ex}(h0:TrOK prog w base K n cf c)(h1:TrOK prog w base K n cf a)(h2:TrOK prog w base K n cf b):TrOK prog w base K n cf (.ite c a b):=by
 intro fl A sc NE x env ι s σ ρ Q E hc hf Rm hsc S O
 simp only [chkE] at hc
 split at hc
 ·simp only [Bool.and_eq_true] at hc
  obtain ⟨⟨c0,c1⟩,c2⟩:=hc
  have e:evB cf (.ite c a b) ρ=(evB cf c ρ).bind fun t=>if t=true then evB cf a ρ else evB cf b ρ:=by
   rw [evB_eq,evE,evB_eq,M.assoc,M.assoc]
   congr 1
   funext d
   cases d<;>try rfl
   rename_i t
   cases t
   ·rw [evB_eq];rfl
   ·rw [evB_eq];rfl
  rw [e] at O
  refine isTrue_IfExp (h0.step c0 hf Rm hsc S O fun t s₁ σ₁ ι₁ S1 O1=>?_)
  cases t with
  |true=>exact h1 fl A sc NE _ env ι₁ s₁ σ₁ ρ Q E c1 hf Rm hsc S1 O1
  |false=>exact h2 fl A sc NE _ env ι₁ s₁ σ₁ ρ Q E c2 hf Rm hsc S1 O1
 ·cases hc
theorem ev_not {e:Ex}(h:EvOK prog w base K n cf e):EvOK prog w base K n cf (.not e):=by
 intro fl A sc NE x env ι s σ ρ Q E hc hf Rm hsc S O
 simp only [chkE] at hc
 split at hc
 ·rw [evE] at O
  refine UnaryOp_ (h.step hc hf Rm hsc S O fun v s₁ d σ₁ ι₁ S1 r O1=>not_of ?_)
  cases d with
  |bool b =>
   rw [r.boolAt]
   exact truthy_bool (O1.now S1.hr (.bool _))
  |_=>exact O1.elim
 ·cases hc
theorem tr_not {e:Ex}(h:TrOK prog w base K n cf e):TrOK prog w base K n cf (.not e):=by
 intro fl A sc NE x env ι s σ ρ Q E hc hf Rm hsc S O
 simp only [chkE] at hc
 split at hc
 ·have e:evB cf (.not e) ρ=(evB cf e ρ).bind fun b=>M.ret !b:=by
   rw [evB_eq,evE,evB_eq,M.assoc,M.assoc]
   congr 1
   funext d
   cases d<;>rfl
  rw [e] at O
  refine isTrue_not (h.step hc hf Rm hsc S O fun t s₁ σ₁ ι₁ S1 O1=>?_)
  exact O1.now S1.hr rfl
 ·cases hc
theorem OutG.mono {α β:Type}{rel:Io→Heap→β→α→Prop}{r:R α}{Q Q':β→Shared→Prop}(O:OutG prog w base fl rel ι s r Q E)(h:∀v s',Q v s'→Q' v s'):OutG prog w base fl rel ι s r Q' E:=by
 cases r with
 |ok d σ'=>exact fun v ι' h' tk' a b c=>h _ _ (O v ι' h' tk' a b c)
 |ex c σ'=>exact O
 |no=>exact O
theorem tr_cmp {op:Cm}{a b:Ex}(h1:EvOK prog w base K n cf a)(h2:EvOK prog w base K n cf b):TrOK prog w base K n cf (.cmp op a b):=by
 intro fl A sc NE x env ι s σ ρ Q E hc hf Rm hsc S O
 rw [evB_eq] at O
 simp only [chkE] at hc
 split at hc
 ·rename_i l o r pos
  simp only [Bool.and_eq_true,beq_iff_eq] at hc
  obtain ⟨⟨⟨⟨c1,c2⟩,c3⟩,c4⟩,c5⟩:=hc
  have ho:o=cmOf op:=by
   revert c1
   cases o<;>cases op<;>decide
  subst ho
  refine wpAny_isTrue_Compare1 (cmp_core (Q:=fun c s₃=>wpAny (model prog w) A (truthy c) Q E s₃) h1 h2 c2 c3 c5 hf Rm hsc S (O.bind.mono fun v s₁ h₁=>?_)) c4
  obtain ⟨d,σ₁,ι₁,_,e1,H1,r1,O1⟩:=h₁
  obtain ⟨b,rfl,q⟩:=chkB_ret H1 r1 O1
  exact truthy_bool q
 ·cases hc
def AllOK (prog:Program)(w:World)(base:Heap)(K:Frag)(n:Nat)(cf:Nat→List D→M D):Exs→Prop
 |.nil=>True
 |.cons e es=>(EvOK prog w base K n cf e∧TrOK prog w base K n cf e)∧AllOK prog w base K n cf es
theorem evs_all:∀{es:Exs},AllOK prog w base K n cf es→EvsOK prog w base K n cf es
 |.nil,_=>by
  intro fl A sc NE l pos env ι s σ ρ Q E hc hf Rm hsc S O
  cases l with
  |nil=>exact args_nil (O.now S.hr .nil)
  |cons _ _=>cases hc
 |.cons e es,h=>by
  intro fl A sc NE l pos env ι s σ ρ Q E hc hf Rm hsc S O
  cases l with
  |nil=>cases hc
  |cons y r =>
   simp only [chkEs,Bool.and_eq_true,beq_iff_eq] at hc
   rw [evEs] at O
   refine args_cons (h.1.1.step hc.1.2 hf Rm hsc S O fun v s₁ d σ₁ ι₁ S1 r1 O1=>?_) (star_false hc.1.1)
   refine wpAny_mono (evs_all h.2 fl A sc NE _ _ env ι₁ s₁ σ₁ ρ _ E hc.2 hf Rm hsc S1 O1.bind) (fun vs s₂ h₂=>?_) fun _ _ e=>e
   obtain ⟨ds,σ₂,ι₂,_,e2,H2,r2,O2⟩:=h₂
   exact O2.now H2 (.cons (r1.mono (S1.mo e2) S1.hr.toff) r2)
theorem evAO_one {a:Bool}{e:Ex}:evAO clsT cf a (.cons e .nil) ρ=evE clsT cf e ρ:=by rw [evAO]
theorem evAO_more {a:Bool}{e e2:Ex}{es:Exs}:evAO clsT cf a (.cons e (.cons e2 es)) ρ=(evE clsT cf e ρ).bind fun d=>(chkB d).bind fun b=>if b=a then evAO clsT cf a (.cons e2 es) ρ else M.ret (.bool b):=by
 rw [evAO]
 ·congr 1
  funext d
  cases d<;>rfl
 ·intro h;cases h
theorem ao_all {a:Bool}:∀{es:Exs},AllOK prog w base K n cf es→∀{l:List PySem.Expr} {pos:Pos} {s:Shared} {ι:Io} {σ:Hp} {Q:Value→Shared→Prop},chkEs K es sc NE l=true→A.frames=some fl→Room A n→env.scope=sc→SR prog w base fl env NE ι σ ρ s.heap →
  OutG prog w base fl VR ι s (evAO clsT cf a es ρ σ) Q E→wpAny (model prog w) A (eval (.BoolOp (if a then .And else .Or) l pos) env) Q E s
 |.nil,_,l,pos,s,ι,σ,Q,hc,hf,Rm,hsc,S,O=>by rw [evAO] at O;exact O.elim
 |.cons e .nil,h,l,pos,s,ι,σ,Q,hc,hf,Rm,hsc,S,O=>by
  rw [evAO_one] at O
  match l,hc with
  |[y],hc =>
   simp only [chkEs,Bool.and_eq_true] at hc
   have:=h.1.1 fl A sc NE y env ι s σ ρ Q E hc.1.2 hf Rm hsc S O
   cases a<;>exact BoolOp_one this
  |y::z::r,hc=>simp [chkEs] at hc
 |.cons e (.cons e2 es),h,l,pos,s,ι,σ,Q,hc,hf,Rm,hsc,S,O=>by
  rw [evAO_more] at O
  match l,hc with
  |[y],hc=>simp [chkEs] at hc
  |y::z::r,hc =>
   have hc0:=hc
   rw [chkEs] at hc
   simp only [Bool.and_eq_true] at hc
   have key:=h.1.1.step hc.1.2 hf Rm hsc S O (Q':=fun v s₁=>∃b,v=.bool b∧(if b=a then wpAny (model prog w) A (eval (.BoolOp (if a then .And else .Or) (z::r) pos) env) Q E s₁ else Q v s₁)) fun v s₁ d σ₁ ι₁ S1 r1 O1=>by
    obtain ⟨b,rfl,O2⟩:=chkB_ok r1 O1
    refine ⟨b,rfl,?_⟩
    by_cases q:b=a
    ·rw [if_pos q] at O2 ⊢
     exact ao_all h.2 hc.2 hf Rm hsc S1 O2
    ·rw [if_neg q] at O2 ⊢
     exact O2.now S1.hr (.bool _)
   cases a with
   |true =>
    refine BoolOp_and (wpAny_mono key (fun v s₁ h₁=>?_) fun _ _ e=>e)
    obtain ⟨b,rfl,q⟩:=h₁
    refine truthy_bool ?_
    cases b<;>exact q
   |false =>
    refine BoolOp_or (wpAny_mono key (fun v s₁ h₁=>?_) fun _ _ e=>e)
    obtain ⟨b,rfl,q⟩:=h₁
    refine truthy_bool ?_
    cases b<;>exact q
theorem ev_andor {a:Bool}{es:Exs}(h:AllOK prog w base K n cf es):EvOK prog w base K n cf (.andor a es):=by
 intro fl A sc NE x env ι s σ ρ Q E hc hf Rm hsc S O
 simp only [chkE] at hc
 rw [evE] at O
 split at hc
 ·simp only [Bool.and_eq_true] at hc
  obtain ⟨rfl,hc⟩:=hc
  exact ao_all (a:=true) h hc hf Rm hsc S O
 ·simp only [Bool.and_eq_true,Bool.not_eq_true'] at hc
  obtain ⟨rfl,hc⟩:=hc
  exact ao_all (a:=false) h hc hf Rm hsc S O
 ·cases hc
theorem at_all {a:Bool}:∀{es:Exs},AllOK prog w base K n cf es→∀{l:List PySem.Expr} {pos:Pos} {W:Sem Value} {s:Shared} {ι:Io} {σ:Hp} {Q:Bool→Shared→Prop},chkEs K es sc NE l=true→A.frames=some fl→Room A n→env.scope=sc→SR prog w base fl env NE ι σ ρ s.heap →
  OutG prog w base fl relB ι s (((evAO clsT cf a es ρ).bind chkB) σ) Q E→wpAny (model prog w) A (PySem.isTrue (.BoolOp (if a then .And else .Or) l pos) env W) Q E s
 |.nil,_,l,pos,W,s,ι,σ,Q,hc,hf,Rm,hsc,S,O=>by rw [evAO] at O;exact O.elim
 |.cons e .nil,h,l,pos,W,s,ι,σ,Q,hc,hf,Rm,hsc,S,O=>by
  rw [evAO_one,←evB_eq] at O
  match l,hc with
  |[y],hc =>
   simp only [chkEs,Bool.and_eq_true] at hc
   have:=h.1.2 fl A sc NE y env ι s σ ρ Q E hc.1.2 hf Rm hsc S O
   cases a with
   |true =>
    refine isTrue_and (wpAny_mono this (fun c s' q=>?_) fun _ _ e=>e)
    cases c
    ·exact q
    ·exact isTrue_and_nil q
   |false =>
    refine isTrue_or (wpAny_mono this (fun c s' q=>?_) fun _ _ e=>e)
    cases c
    ·exact isTrue_or_nil q
    ·exact q
  |y::z::r,hc=>simp [chkEs] at hc
 |.cons e (.cons e2 es),h,l,pos,W,s,ι,σ,Q,hc,hf,Rm,hsc,S,O=>by
  have e0:(evAO clsT cf a (.cons e (.cons e2 es)) ρ).bind chkB=(evB cf e ρ).bind fun b=>if b=a then (evAO clsT cf a (.cons e2 es) ρ).bind chkB else M.ret b:=by
   rw [evAO_more,evB_eq,M.assoc,M.assoc]
   congr 1
   funext d
   rw [M.assoc]
   congr 1
   funext b
   by_cases q:b=a
   ·rw [if_pos q,if_pos q]
   ·rw [if_neg q,if_neg q];rfl
  rw [e0] at O
  match l,hc with
  |[y],hc=>simp [chkEs] at hc
  |y::z::r,hc =>
   rw [chkEs] at hc
   simp only [Bool.and_eq_true] at hc
   have key:=h.1.2.step hc.1.2 hf Rm hsc S O (Q':=fun b s₁=>(if b=a then wpAny (model prog w) A (PySem.isTrue (.BoolOp (if a then .And else .Or) (z::r) pos) env W) Q E s₁ else Q b s₁)) fun b s₁ σ₁ ι₁ S1 O1=>by
    by_cases q:b=a
    ·rw [if_pos q] at O1 ⊢
     exact at_all h.2 hc.2 hf Rm hsc S1 O1
    ·rw [if_neg q] at O1 ⊢
     exact O1.now S1.hr rfl
   cases a with
   |true =>
    refine isTrue_and (wpAny_mono key (fun b s₁ q=>?_) fun _ _ e=>e)
    cases b<;>exact q
   |false =>
    refine isTrue_or (wpAny_mono key (fun b s₁ q=>?_) fun _ _ e=>e)
    cases b<;>exact q
theorem tr_andor {a:Bool}{es:Exs}(h:AllOK prog w base K n cf es):TrOK prog w base K n cf (.andor a es):=by
 intro fl A sc NE x env ι s σ ρ Q E hc hf Rm hsc S O
 simp only [chkE] at hc
 rw [evB_eq,evE] at O
 split at hc
 ·simp only [Bool.and_eq_true] at hc
  obtain ⟨rfl,hc⟩:=hc
  exact at_all (a:=true) h hc hf Rm hsc S O
 ·simp only [Bool.and_eq_true,Bool.not_eq_true'] at hc
  obtain ⟨rfl,hc⟩:=hc
  exact at_all (a:=false) h hc hf Rm hsc S O
 ·cases hc
end
end Mine
end
section
set_option maxRecDepth 100000
open PySem PySem.Spec PySem.Calls PyProof.Rows PySem.W
namespace Mine
section
variable {prog:Program}{w:World}{base:Heap}{K:Frag}{mg mb:Str→Option Value}{n:Nat}{cf:Nat→List D→M D}
variable {fl:List PEnv}{ι:Io}{s:Shared}{σ:Hp}{ρ:Ve}{A:Around}{env:PEnv}{NE:NEt}{sc:PySem.Scope}{x:PySem.Expr}{E:Value→Shared→Prop}
theorem Room.call (R:Room A n):RoomC A n:=⟨R.hh,Nat.lt_of_le_of_lt (by omega) R.dep,Nat.lt_of_le_of_lt (by omega) R.uni⟩
theorem Room.in1 (R:Room A n):RoomC A.in1 n:=⟨R.hh,Nat.lt_of_le_of_lt (by show A.depth+8 * n+2≤_;omega) R.dep,Nat.lt_of_le_of_lt (by show A.units+1+64 * n+50≤A.units+64 * n+100;omega) R.uni⟩
theorem no_star:∀{es:Exs} {l:List PySem.Expr} {pos:Pos},chkEs K es sc NE l=true→(backTo pos (starEach l env)).any (·.1)=false
 |.nil,l,pos,h=>by
  cases l with
  |nil=>rfl
  |cons _ _=>cases h
 |.cons e es,l,pos,h=>by
  cases l with
  |nil=>cases h
  |cons y r =>
   simp only [chkEs,Bool.and_eq_true,beq_iff_eq] at h
   rw [star_false h.1.1]
   show (false||(backTo pos (starEach r env)).any (·.1))=false
   rw [no_star h.2]
   rfl
theorem args_eval {es:Exs}{l:List PySem.Expr}{pos:Pos}{f:Value}{Q:Args→Shared→Prop}(hc:chkEs K es sc NE l=true)(h:wpAny (model prog w) A (spliced (backTo pos (starEach l env))) (fun vs s'=>Q ⟨vs,[]⟩ s') E s) :
  wpAny (model prog w) A (evalArgs f true (backTo pos (starEach l env)) []) Q E s:=by
 cases l with
 |nil =>
  show wpAny _ _ (evalArgs f true [] []) _ _ _
  unfold evalArgs
  show wpAny (model prog w) A (spliced [] >>= _) Q E s
  refine wpAny_bind (wpAny_mono h (fun vs s' h'=>wpAny_bind (wpAny_pure ?_)) fun _ _ e=>e)
  refine wpAny_holding ?_
  exact wpAny_bind (wpAny_pure (wpAny_bind (wpAny_pure (wpAny_pure h'))))
 |cons y r =>
  cases es with
  |nil=>cases hc
  |cons e es =>
   simp only [chkEs,Bool.and_eq_true,beq_iff_eq] at hc
   rw [star_false hc.1.1] at h ⊢
   exact evalArgs_plain h
theorem call_ref {es:Exs}{l:List PySem.Expr}{pos:Pos}{fa:Addr}{first:List Value}{γ δ:Type}{rel:Io→Heap→δ→γ→Prop}{f:List D→M γ}{Q:δ→Shared→Prop}{Q':Value→Shared→Prop}(W:Wd prog w base K mg mb n cf)(hk:keepIn K (.ref fa)=true)(h:EvsOK prog w base K n cf es)
  (hc:chkEs K es sc NE l=true) (hf:A.frames=some fl) (Rm:Room A n) (hsc:env.scope=sc) (S:SR prog w base fl env NE ι σ ρ s.heap) (O:OutG prog w base fl rel ι s ((evEs clsT cf es ρ).bind f σ) Q E)
  (k:∀vs s₁ ds σ₁ ι₁,Ext (fls fl) [] ι ι₁ s.heap s₁.heap→SR prog w base fl env NE ι₁ σ₁ ρ s₁.heap→VRs ι₁ s₁.heap vs ds→OutG prog w base fl rel ι₁ s₁ (f ds σ₁) Q E→wpAny (model prog w) A (call (.ref fa) (first++vs)) Q' E s₁) :
  wpAny (model prog w) A (callWith pos (.ref fa) first (backTo pos (starEach l env)) []) Q' E s:=by
 refine callWith_of (P:=K.In) (by rw [no_star hc];rfl) (keeps_K hk) (args_eval hc ?_)
 refine wpAny_mono (h fl A sc NE l pos env ι s σ ρ _ E hc hf Rm hsc S O.bind) (fun vs s₁ h₁=>?_) fun _ _ e=>e
 obtain ⟨ds,σ₁,ι₁,_,e1,H1,r,O1⟩:=h₁
 exact ⟨W.C.X.keeps H1.stay,k vs s₁ ds σ₁ ι₁ e1 (S.ext e1 H1) r O1⟩
theorem keeps_M0 {M:Model}{f:Value}(hf:∀a,f≠.ref a)(h:Heap):∃k,(k=Keeper.frame∨k=Keeper.machine∨k=Keeper.boundFrame)∧Looks M h (keeperOf f) k:=by
 refine ⟨.machine,.inr (.inl rfl),Looks.of_pure ?_⟩
 cases f<;>first|rfl|exact absurd rfl (hf _)
theorem call_own {es:Exs}{l:List PySem.Expr}{pos:Pos}{fv:Value}{first:List Value}{γ δ:Type}{rel:Io→Heap→δ→γ→Prop}{f:List D→M γ}{Q:δ→Shared→Prop}{Q':Value→Shared→Prop}(hk:∀a,fv≠.ref a)(h:EvsOK prog w base K n cf es)
  (hc:chkEs K es sc NE l=true) (hf:A.frames=some fl) (Rm:Room A n) (hsc:env.scope=sc) (S:SR prog w base fl env NE ι σ ρ s.heap) (O:OutG prog w base fl rel ι s ((evEs clsT cf es ρ).bind f σ) Q E)
  (k:∀vs s₁ ds σ₁ ι₁,Ext (fls fl) [] ι ι₁ s.heap s₁.heap→SR prog w base fl env NE ι₁ σ₁ ρ s₁.heap→VRs ι₁ s₁.heap vs ds→OutG prog w base fl rel ι₁ s₁ (f ds σ₁) Q E→wpAny (model prog w) A (call fv (first++vs)) Q' E s₁) :
  wpAny (model prog w) A (callWith pos fv first (backTo pos (starEach l env)) []) Q' E s:=by
 refine callWith_of (P:=fun _=>True) (by rw [no_star hc];rfl) (fun h _=>keeps_M0 hk h) (args_eval hc ?_)
 refine wpAny_mono (h fl A sc NE l pos env ι s σ ρ _ E hc hf Rm hsc S O.bind) (fun vs s₁ h₁=>?_) fun _ _ e=>e
 obtain ⟨ds,σ₁,ι₁,_,e1,H1,r,O1⟩:=h₁
 exact ⟨trivial,k vs s₁ ds σ₁ ι₁ e1 (S.ext e1 H1) r O1⟩
theorem isRf_of {v:Option Value}{a:Nat}(h:isRf v a=true):v=some (.ref a):=by
 unfold isRf at h
 split at h
 ·rw [beq_iff_eq] at h
  rw [h]
 ·cases h
theorem isTy_of {v:Option Value}{a:String}(h:isTy v a=true):v=some (.type a):=by
 unfold isTy at h
 split at h
 ·rw [beq_iff_eq] at h
  rw [h]
 ·cases h
theorem isBu_of {v:Option Value}{a:String}(h:isBu v a=true):v=some (.builtin a):=by
 unfold isBu at h
 split at h
 ·rw [beq_iff_eq] at h
  rw [h]
 ·cases h
theorem Wd.keepF (W:Wd prog w base K mg mb n cf){f:Nat}{fi:FnI}(e:fnT[f]? = some fi):keepIn K (.ref fi.addr)=true:=List.all_eq_true.mp W.k fi (List.mem_of_getElem? e)
theorem ev_call {f:Nat}{es:Exs}(W:Wd prog w base K mg mb n cf)(h:EvsOK prog w base K n cf es):EvOK prog w base K n cf (.call f es):=by
 intro fl A sc NE x env ι s σ ρ Q E hc hf Rm hsc S O
 simp only [chkE] at hc
 split at hc
 ·simp only [Bool.and_eq_true] at hc
  obtain ⟨c1,c2⟩:=hc
  split at c1
  ·rename_i fi q
   rw [evE] at O
   refine Call_ (glob_at W S (by rw [hsc];exact isRf_of c1) _ ?_)
   refine call_ref W (W.keepF q) h c2 hf Rm hsc S O fun vs s₁ ds σ₁ ι₁ _ S1 r O1=>?_
   exact wpAny_call (W.call f fi vs ds fl A E s₁ ι₁ σ₁ Q q hf Rm.call S1.hr S1.ff r O1)
  ·cases c1
 ·cases hc
end
end Mine
end
section
set_option maxRecDepth 100000
open PySem PySem.Spec PySem.Calls PyProof.Rows PySem.W
namespace Mine
section
variable {prog:Program}{w:World}{base:Heap}{K:Frag}{mg mb:Str→Option Value}{n:Nat}{cf:Nat→List D→M D}
variable {fl:List PEnv}{ι:Io}{s:Shared}{σ:Hp}{ρ:Ve}{A:Around}{env:PEnv}{NE:NEt}{sc:PySem.Scope}{x:PySem.Expr}{E:Value→Shared→Prop}
theorem Call_meth {o:PySem.Expr}{name:Str}{apos pos:Pos}{l:List PySem.Expr}{es:Exs}{Q:Value→Shared→Prop}(hs:noSup o=true)(hc:chkEs K es sc NE l=true)(hlen:l.length < 30)(hline:(apos.endLine==pos.line)=true)
  (h:wpAny (model prog w) A (eval o env) (fun ov s₁=>∀pl:Sem Bool,wpAny (model prog w) A (getMethod ov name pl) (fun p s₂=>wpAny (model prog w) A (callWith pos p.1 p.2 (backTo pos (starEach l env)) []) Q E s₂) E s₁) E s) :
  wpAny (model prog w) A (eval (.Call (.Attribute o name apos) l [] pos) env) Q E s:=by
 rw [arm_eval_Call,base_of hs]
 refine wpAny_bind (wpAny_mono h (fun ov s₁ h₁=>wpAny_bind (wpAny_standAt ?_)) fun _ _ e=>e)
 have hform:methodCallForm (l.length+([]:List PySem.Keyword).length) (backTo pos (starEach l env)) (backToKw pos (keywordEach [] env))=true:=by
  unfold methodCallForm
  have e1:=no_star (env:=env) (pos:=pos) hc
  have e2:(backTo pos (starEach l env)).all (fun x=>!x.1)=true:=by
   rw [List.all_eq_true]
   intro p hp
   have:=List.any_eq_false.mp e1 p hp
   simpa using this
  rw [e2]
  show (true&&true&&decide (l.length+0+0 < 30))=true
  simpa using hlen
 have hpos:methodCallPos true o env apos pos=pure pos:=by unfold methodCallPos;simp [hline]
 unfold methodCall
 rw [hform]
 unfold calleeOf
 rw [if_pos rfl]
 refine wpAny_bind (wpAny_holding (wpAny_mono (h₁ _) (fun p s₂ h₂=>?_) fun _ _ e=>e))
 exact wpAny_bind (wpAny_of_eq hpos h₂)
theorem ev_bm {b:Bm}{e:Ex}{es:Exs}(h1:EvOK prog w base K n cf e)(h2:EvsOK prog w base K n cf es):EvOK prog w base K n cf (.bm b e es):=by
 intro fl A sc NE x env ι s σ ρ Q E hc hf Rm hsc S O
 simp only [chkE] at hc
 split at hc
 ·simp only [Bool.and_eq_true,decide_eq_true_eq,beq_iff_eq] at hc
  obtain ⟨⟨⟨⟨⟨c1,c2⟩,c3⟩,c4⟩,c5⟩,c6⟩:=hc
  subst c2
  rw [evE] at O
  refine Call_meth c5 c3 c4 (by rw [c6];exact beq_self_eq_true _) (h1.step c1 hf Rm hsc S O fun v s₁ o σ₁ ι₁ S1 r1 O1=>fun pl=>?_)
  split at O1
  ·rename_i hk
   refine bm_get S1.hr r1 hk ?_
   refine call_own (fun a q=>by cases q) h2 c3 hf Rm hsc S1 O1 fun vs s₂ ds σ₂ ι₂ e2 S2 r2 O2=>?_
   exact bm_at S2.hr S2.ff.off (r1.mono (S1.mo e2) S1.hr.toff) r2 O2
  ·exact O1.elim
 ·cases hc
theorem ev_meth {a:Nat}{e:Ex}{es:Exs}(W:Wd prog w base K mg mb n cf)(h1:EvOK prog w base K n cf e)(h2:EvsOK prog w base K n cf es):EvOK prog w base K n cf (.meth a e es):=by
 intro fl A sc NE x env ι s σ ρ Q E hc hf Rm hsc S O
 simp only [chkE] at hc
 split at hc
 ·simp only [Bool.and_eq_true,decide_eq_true_eq,beq_iff_eq,Bool.not_eq_true'] at hc
  obtain ⟨⟨⟨⟨⟨⟨⟨c1,c2⟩,c3⟩,c4⟩,c5⟩,c6⟩,c7⟩,c8⟩:=hc
  subst c2
  have c3':a∉dataN:=fun z=>by rw [List.contains_iff_mem.mpr z] at c3;cases c3
  rw [evE] at O
  refine Call_meth c7 c5 c6 (by rw [c8];exact beq_self_eq_true _) (h1.step c1 hf Rm hsc S O fun v s₁ o σ₁ ι₁ S1 r1 O1=>fun pl=>?_)
  unfold methOf at O1
  cases q1:classOf σ₁ o with
  |none=>rw [q1] at O1;exact O1.elim
  |some c =>
   rw [q1] at O1
   simp only at O1
   cases q2:clsT[c]? with
   |none=>rw [q2] at O1;exact O1.elim
   |some ci =>
    rw [q2] at O1
    simp only at O1
    cases q3:nget ci.meths a with
    |none=>rw [q3] at O1;exact O1.elim
    |some f =>
     rw [q3] at O1
     simp only at O1
     refine meth_at W.C W.g c3' c4 S1.hr r1 q1 q2 q3 fun fi q=>?_
     refine call_ref W (W.keepF q) h2 c5 hf Rm hsc S1 O1 fun vs s₂ ds σ₂ ι₂ e2 S2 r2 O2=>?_
     exact wpAny_call (W.call f fi _ _ fl A E s₂ ι₂ σ₂ Q q hf Rm.call S2.hr S2.ff (.cons (r1.mono (S1.mo e2) S1.hr.toff) r2) O2)
 ·cases hc
theorem ev_bi {b:Bi}{es:Exs}(hz1:b≠.dictzip)(hz2:b≠.listzip)(W:Wd prog w base K mg mb n cf)(h3:AllOK prog w base K n cf es):EvOK prog w base K n cf (.bi b es):=by
 have h2:=evs_all h3
 intro fl A sc NE x env ι s σ ρ Q E hc hf Rm hsc S O
 simp only [chkE] at hc
 split at hc
 ·rename_i x p args pos
  rw [evE] at O
  have fin:∀{fv:Value},biV b=fv→b≠.isBool→glob K sc x=some fv→chkEs K es sc NE args=true→wpAny (model prog w) A (eval (.Call (.Name x p) args [] pos) env) Q E s:=by
   intro fv hfv hb hg hc2
   subst hfv
   refine Call_ (glob_at W S (by rw [hsc];exact hg) _ ?_)
   refine call_own (fun a q=>by cases b<;>cases q) h2 hc2 hf Rm hsc S O fun vs s₂ ds σ₂ ι₂ e2 S2 r2 O2=>?_
   exact bi_at hb hz1 hz2 Rm S2.hr r2 O2
  cases b with
  |dictzip=>exact absurd rfl hz1
  |listzip=>exact absurd rfl hz2
  |isBool =>
   simp only [Bool.and_eq_true] at hc
   obtain ⟨c1,c2⟩:=hc
   split at c2
   ·rename_i a y py
    simp only [Bool.and_eq_true] at c2
    obtain ⟨c2,c3⟩:=c2
    cases es with
    |nil=>cases c3
    |cons e es =>
     cases es with
     |cons _ _=>simp [chkEs] at c3
     |nil =>
      refine Call_ (glob_at W S (by rw [hsc];exact isBu_of c1) _ ?_)
      simp only [chkEs,Bool.and_eq_true,beq_iff_eq] at c3
      have e0:(evEs clsT cf (.cons e .nil) ρ).bind (biD .isBool)=(evE clsT cf e ρ).bind fun d=>biD .isBool [d]:=by
       rw [evEs,M.assoc]
       congr 1
      rw [e0] at O
      have e1:backTo pos (starEach [a,.Name y py] env)=[(false,eval a env),(false,eval (.Name y py) env)]:=by
       rw [star_false c3.1.1]
       rfl
      rw [e1]
      refine callWith_of (P:=fun _=>True) rfl (fun h _=>keeps_M0 (fun a q=>by cases q) h) ?_
      refine evalArgs_plain (spliced_cons (h3.1.1.step c3.1.2 hf Rm hsc S O fun v s₁ d σ₁ ι₁ S1 r1 O1=>?_))
      refine spliced_cons (glob_at W S1 (by rw [hsc];exact isTy_of c2) _ (spliced_nil ⟨trivial,?_⟩))
      exact isBool_at S1.hr r1 O1
   ·cases c2
  |len =>
   simp only [Bool.and_eq_true] at hc
   exact fin rfl (fun q=>by cases q) (isBu_of hc.1) hc.2
  |str =>
   simp only [Bool.and_eq_true] at hc
   exact fin rfl (fun q=>by cases q) (isTy_of hc.1) hc.2
  |max =>
   simp only [Bool.and_eq_true] at hc
   exact fin rfl (fun q=>by cases q) (isBu_of hc.1) hc.2
  |int =>
   simp only [Bool.and_eq_true] at hc
   exact fin rfl (fun q=>by cases q) (isTy_of hc.1) hc.2
  |tuple =>
   simp only [Bool.and_eq_true] at hc
   exact fin rfl (fun q=>by cases q) (isTy_of hc.1) hc.2
  |list =>
   simp only [Bool.and_eq_true] at hc
   exact fin rfl (fun q=>by cases q) (isTy_of hc.1) hc.2
  |sorted =>
   simp only [Bool.and_eq_true] at hc
   exact fin rfl (fun q=>by cases q) (isBu_of hc.1) hc.2
  |dict =>
   simp only [Bool.and_eq_true] at hc
   exact fin rfl (fun q=>by cases q) (isTy_of hc.1) hc.2
 ·cases hc
end
end Mine
end
section
set_option maxRecDepth 100000
open PySem PySem.Spec PySem.Calls PyProof.Rows PySem.W
namespace Mine
section
variable {prog:Program}{w:World}{base:Heap}{K:Frag}{mg mb:Str→Option Value}{n:Nat}{cf:Nat→List D→M D}
variable {fl:List PEnv}{ι:Io}{s:Shared}{σ:Hp}{ρ:Ve}{A:Around}{env:PEnv}{NE:NEt}{sc:PySem.Scope}{x:PySem.Expr}{E:Value→Shared→Prop}
theorem under_tc (C:Addr)(rest:List Value)(kw:List (Str×Value))(R:Room A n):RoomC (A.under (.builtin "type.__call__" ⟨.ref C::rest,kw⟩)) n :=
 ⟨R.hh,by show A.depth+1+8 * n+2 < _;have:=R.dep;omega,by show A.units+1+64 * n+50 < _;have:=R.uni;omega⟩
theorem under_tc_frames (C:Addr)(rest:List Value)(kw:List (Str×Value))(hf:A.frames=some fl):(A.under (.builtin "type.__call__" ⟨.ref C::rest,kw⟩)).frames=some fl:=hf
theorem new_at {c:Nat}{ci:ClsI}{vs:List Value}{ds:List D}{Q:Value→Shared→Prop}(W:Wd prog w base K mg mb n cf)(hci:clsT[c]? = some ci)(hx:ci.isExc=false)(hf:A.frames=some fl)(Rm:Room A n)(H:HR prog w base ι σ s.heap)(F:FramesR base ι s.heap fl)(rs:VRs ι s.heap vs ds)
  (O:OutG prog w base fl VR ι s (((alloc (.inst c [])).bind fun o=>(cf ci.init (o::ds)).bind fun r=>match r with|.none=>M.ret o|_=>M.fail) σ) Q E):wpAny (model prog w) A (call (.ref ci.addr) vs) Q E s:=by
 obtain ⟨h,g,dr,t,os⟩:=s
 have CO:=goodCls W.g hci hx
 obtain ⟨fi,q1,q2,q3⟩:=CO.init
 have X:K.In h:=W.C.X.keeps H.stay
 refine wpAny_call (make_core (makes_of X CO.makes) (looks_findIn X q2) (fun self=>bind_fn X self q3) (.inl rfl) ?_)
 have k2:∀b o,h.get? b=some o→((h.push emptyDict).push (instObj ci.addr h.objs.size)).get? b=some o:=fun b o e=>keeps_push b o (keeps_push b o e)
 have hsz:(h.push emptyDict).objs.size=h.objs.size+1:=Heap.size_push ..
 have g1:((h.push emptyDict).push (instObj ci.addr h.objs.size)).get? (h.objs.size+1)=some (instObj ci.addr h.objs.size):=by
  have:=Heap.get?_push_size (h.push emptyDict) (o:=instObj ci.addr h.objs.size) rfl
  rwa [hsz] at this
 have g2:((h.push emptyDict).push (instObj ci.addr h.objs.size)).get? h.objs.size=some (dictOf [] 0):=keeps_push _ _ (Heap.get?_push_size h (o:=emptyDict) rfl)
 have hp:∀b,(b=h.objs.size+1∨some h.objs.size=some b)→h.get? b=none:=fun b hb=>Heap.get?_none_of_le (by
  rcases hb with rfl|q
  ·exact Nat.le_succ _
  ·cases q;exact Nat.le_refl _)
 have hlo:∀b,(b=h.objs.size+1∨some h.objs.size=some b)→mainGlobals < b:=fun b hb=>by
  have:=H.mainLt
  rcases hb with rfl|q
  ·exact Nat.lt_succ_of_lt this
  ·cases q;exact this
 have E1:Ext (fls fl) [] ι (ι.add (h.objs.size+1,some h.objs.size)) h ((h.push emptyDict).push (instObj ci.addr h.objs.size)):=Ext.alloc k2 hp
 have H1:=H.alloc (p:=(h.objs.size+1,some h.objs.size)) k2 hp hlo (by simp) (.inst (es:=[]) (n:=0) hci hx g1 g2 .nil)
 have r0:VR (ι.add (h.objs.size+1,some h.objs.size)) ((h.push emptyDict).push (instObj ci.addr h.objs.size)) (.ref (h.objs.size+1)) (.loc σ.length) :=
  .loc (p:=(h.objs.size+1,some h.objs.size)) (by show (ι.nums++[_])[σ.length]? = _;rw [←H.len];simp)
 have O1:OutG prog w base fl VR (ι.add (h.objs.size+1,some h.objs.size)) ⟨(h.push emptyDict).push (instObj ci.addr h.objs.size),g,dr,t,os⟩ (((cf ci.init (.loc σ.length::ds)).bind fun r=>match r with|.none=>M.ret (.loc σ.length)|_=>M.fail) (σ++[.inst c []])) Q E :=
  OutG.later (s:=⟨h,g,dr,t,os⟩) (tk':=t) O E1
 have F1:FramesR base (ι.add (h.objs.size+1,some h.objs.size)) ((h.push emptyDict).push (instObj ci.addr h.objs.size)) fl:=F.ext E1 fun _ q=>nomatch q
 refine codeAny_mono (W.call ci.init fi _ _ fl _ E _ _ _ (fun v s'=>v=.none∧Q (.ref (h.objs.size+1)) s') q1 (under_tc_frames _ _ _ hf) (under_tc _ _ _ Rm) H1 F1 (.cons r0 (rs.mono (Mo.alloc k2 hp) H.toff)) (O1.bind.mono fun v s₂ h₂=>?_)) fun r s' z=>?_
 ·obtain ⟨d,σ₂,ι₂,_,e2,H2,r2,O2⟩:=h₂
  cases d with
  |none=>exact ⟨r2.noneAt,O2.now H2 (r0.mono (e2.mo F1.soft soft_nil) H1.toff)⟩
  |_=>exact O2.elim
 ·rcases r with e|(v|_|_|_)<;>exact z
theorem ev_new {c:Nat}{es:Exs}(W:Wd prog w base K mg mb n cf)(h2:EvsOK prog w base K n cf es):EvOK prog w base K n cf (.new c es):=by
 intro fl A sc NE x env ι s σ ρ Q E hc hf Rm hsc S O
 simp only [chkE] at hc
 split at hc
 ·simp only [Bool.and_eq_true] at hc
  obtain ⟨⟨c1,c2⟩,c3⟩:=hc
  rw [evE] at O
  refine Call_ (glob_at W S (by rw [hsc];exact isRf_of c1) _ ?_)
  refine call_ref W c3 h2 c2 hf Rm hsc S O fun vs s₁ ds σ₁ ι₁ e1 S1 r O1=>?_
  cases q:clsT[c]? with
  |none=>rw [q] at O1;exact O1.elim
  |some ci =>
   rw [q] at O1
   have e:clsA c=ci.addr:=by unfold clsA;rw [q]
   rw [e]
   simp only at O1
   split at O1
   ·exact O1.elim
   ·rename_i hx
    exact new_at W q (by simpa using hx) hf Rm S1.hr S1.ff r O1
 ·cases hc
mutual
theorem VR.move {ι':Io}{h:Heap}(hA:∀a,a∉adr ι→a∉adr ι'):∀{v:Value} {d:D},VR ι h v d→d.plain=true→VR ι' h v d
 |_,_,.none,_=>.none
 |_,_,.bool b,_=>.bool b
 |_,_,.int i t,_=>.int i t
 |_,_,.str x t,_=>.str x t
 |_,_,.tup e n r,h=>.tup e (hA _ n) (VRs.move hA r (by simpa only [D.plain] using h))
 |_,_,.lst e n r,h=>.lst e (hA _ n) (VRs.move hA r (by simpa only [D.plain] using h))
 |_,_,.loc _,h=>by simp [D.plain] at h
 |_,_,.opq,h=>by simp [D.plain] at h
theorem VRs.move {ι':Io}{h:Heap}(hA:∀a,a∉adr ι→a∉adr ι'):∀{vs:List Value} {ds:List D},VRs ι h vs ds→D.plainAll ds=true→VRs ι' h vs ds
 |_,_,.nil,_=>.nil
 |_,_,.cons a r,h=>by
  simp only [D.plainAll,Bool.and_eq_true] at h
  exact .cons (VR.move hA a h.1) (VRs.move hA r h.2)
end
def inner (ι:Io):Io:=⟨[(tabA,none)],nad (ι.nums.drop 1)++ι.hid⟩
theorem isTab_of {σ:Hp}(h:isTab σ=true):σ[(0:Nat)]? = some .tab:=by
 unfold isTab at h
 split at h
 ·rename_i e;exact e
 ·cases h
theorem HR.tab0 {h:Heap}(H:HR prog w base ι σ h)(ht:isTab σ=true):ι.nums[(0:Nat)]? = some (tabA,none)∧ObjR prog w ι h (tabA,none) .tab:=by
 obtain ⟨p,e,r⟩:=H.obj 0 _ (isTab_of ht)
 cases r with
 |tab e1 e2=>exact ⟨e,.tab e1 e2⟩
theorem adr_inner (h:ι.nums[(0:Nat)]? = some (tabA,none)):adr (inner ι)=adr ι:=by
 obtain ⟨nu,hi⟩:=ι
 cases nu with
 |nil=>cases h
 |cons p r =>
  simp at h
  subst h
  show nad [(tabA,none)]++(nad r++hi)=nad ((tabA,none)::r)++hi
  simp [nad]
theorem HR.inner (H:HR prog w base ι σ s.heap)(ht:isTab σ=true):HR prog w base (inner ι) [.tab] s.heap:=by
 obtain ⟨t0,t1⟩:=H.tab0 ht
 have hadr:=adr_inner t0
 refine ⟨H.stay,rfl,fun l o e=>?_,by show (nad [(tabA,none)]).Nodup;simp [nad],fun a ha=>H.off a (by rwa [hadr] at ha),fun a ha=>⟨fun q=>?_,H.alive (by rw [←hadr];exact List.mem_append_right _ ha)⟩,H.sys,fun a ha=>?_⟩
 ·cases l with
  |succ l=>cases e
  |zero =>
   cases e
   refine ⟨(tabA,none),rfl,?_⟩
   cases t1 with
   |tab a b=>exact .tab a b
 ·have q':a=tabA:=by simpa [nad,Mine.inner] using q
  subst q'
  obtain ⟨nu,hi⟩:=ι
  cases nu with
  |nil=>cases t0
  |cons p r =>
   simp at t0
   subst t0
   have ha':tabA∈nad r++hi:=ha
   rcases List.mem_append.mp ha' with z|z
   ·have:=H.nd
    rw [show (⟨(tabA,none)::r,hi⟩:Io).nums=(tabA,none)::r from rfl,show nad ((tabA,none)::r)=tabA::nad r from by simp [nad]] at this
    exact (List.nodup_cons.mp this).1 z
   ·exact (H.hids tabA z).1 (by show tabA∈nad ((tabA,none)::r);simp [nad])
 ·have q':a=tabA:=by simpa [nad,Mine.inner] using ha
  rw [q']
  decide
theorem fresh_at {f:Nat}{fi:FnI}{vs:List Value}{ds:List D}{Q:Value→Shared→Prop}(W:Wd prog w base K mg mb n cf)(hfi:fnT[f]? = some fi)(hf:A.frames=some fl)(Rm:Room A n)(H:HR prog w base ι σ s.heap)(F:FramesR base ι s.heap fl)(rs:VRs ι s.heap vs ds)(hp:D.plainAll ds=true)
  (O:OutG prog w base fl VR ι s (thaw σ (cf f ds [.tab])) Q E):wpAny (model prog w) A (call (.ref fi.addr) vs) Q E s:=by
 unfold thaw at O
 cases ht:isTab σ with
 |false=>rw [ht] at O;exact O.elim
 |true =>
 rw [ht] at O
 obtain ⟨t0,t1⟩:=H.tab0 ht
 have hadr:=adr_inner t0
 have F0:FramesR base (inner ι) s.heap fl:=⟨F.ff,F.ns,fun b hb=>by rw [hadr];exact F.off b hb⟩
 refine wpAny_call (W.call f fi vs ds fl A E s (inner ι) [.tab] Q hfi hf Rm.call (H.inner ht) F0 (rs.move (fun a ha=>by rwa [hadr]) hp) ?_)
 cases hr:cf f ds [.tab] with
 |no=>rw [hr] at O;exact O.elim
 |ex c h'=>rw [hr] at O;exact O.elim
 |ok d h' =>
  rw [hr] at O
  simp only [if_true] at O
  cases ht':isTab h' with
  |false=>rw [ht'] at O;exact O.elim
  |true =>
  rw [ht'] at O
  simp only [if_true] at O
  cases hz:freeze h' d with
  |none=>rw [hz] at O;exact O.elim
  |some d' =>
   rw [hz] at O
   intro v ι' hh tk' e1 H1 r1
   obtain ⟨u0,u1⟩:=H1.tab0 ht'
   have hnad:∀b,b≠tabA→b∉nad (inner ι).nums:=fun b hb z=>hb (by simpa [nad,Mine.inner] using z)
   have tadr:tabA∈nad ι.nums:=nad_of t0 (.inl rfl)
   have hW:∀b o,b≠tabA→b∉fls fl→s.heap.get? b=some o→hh.get? b=some o:=fun b o ht hb e=>e1.keep b o e (hnad b ht) hb (fun q=>nomatch q)
   have E2:Ext (fls fl) [] ι ι s.heap hh:=⟨List.prefix_refl _,rfl,e1.live,fun _ z=>.inl z,fun b o e hn hb _=>hW b o (fun z=>hn (z▸tadr)) hb e,fun b o e hb ho=>e1.slot b o e hb ho⟩
   have m2:Mo ι ι s.heap hh:=E2.mo F.soft soft_nil
   have H2:HR prog w base ι σ hh:=by
    refine ⟨fun b o e=>hW b o (fun z=>?_) (fun z=>?_) (H.stay b o e),H.len,fun l o e=>?_,H.nd,H.off,fun a ha=>⟨(H.hids a ha).1,?_⟩,H.sys,H.low⟩
    ·have:=H.off b (adr_nad (z▸tadr))
     rw [e] at this
     cases this
    ·have:=(F.ff.mem z).1
     rw [e] at this
     cases this
    ·obtain ⟨p,e2,r⟩:=H.obj l o e
     by_cases hl:l=0
     ·subst hl
      rw [isTab_of ht] at e
      cases e
      rw [t0] at e2
      cases e2
      refine ⟨_,t0,?_⟩
      cases u1 with
      |tab a b=>exact .tab a b
     ·exact ⟨p,e2,r.move m2 H.toff fun b hb ob q=>hW b ob (fun z=>hl (nad_one H.nd e2 t0 hb (.inl z))) (fun z=>F.off b z (adr_of e2 hb)) q⟩
    ·obtain ⟨_,o,e⟩:=H.hids a ha
     exact e1.live a o e
   have sub:∀a,a∉adr ι'→a∉adr ι:=fun a ha z=>ha (by
    rw [←hadr] at z
    rcases List.mem_append.mp z with q|q
    ·have q':a=tabA:=by simpa [nad,Mine.inner] using q
     exact q'▸adr_of u0 (.inl rfl)
    ·exact List.mem_append_right _ (by rw [e1.same];exact q))
   refine O v ι hh tk' E2 H2 ?_
   unfold freeze at hz
   split at hz
   ·rename_i l
    split at hz
    ·rename_i es q
     split at hz
     ·rename_i hpl
      cases hz
      obtain ⟨p,ep,rfl⟩:=r1.locAt
      obtain ⟨p',ep',ro⟩:=H1.obj l _ q
      rw [ep] at ep'
      cases ep'
      cases ro with
      |list hg rr =>
       refine .lst ⟨_,hg,rfl,_,rfl⟩ (fun z=>?_) (rr.move sub hpl)
       rcases e1.new _ (nad_of ep (.inl rfl)) with y|y
       ·have y':=y
        simp [nad,Mine.inner] at y'
        have hl0:l=0:=nad_one H1.nd ep u0 (.inl rfl) (.inl y')
        subst hl0
        rw [isTab_of ht'] at q
        cases q
       ·obtain ⟨o,e⟩:=H.alive z
        rw [y] at e
        cases e
     ·cases hz
    ·cases hz
   ·split at hz
    ·rename_i hpl
     cases hz
     exact r1.move sub hpl
    ·cases hz
theorem ev_fresh {f:Nat}{es:Exs}(W:Wd prog w base K mg mb n cf)(h:EvsOK prog w base K n cf es):EvOK prog w base K n cf (.fresh f es):=by
 intro fl A sc NE x env ι s σ ρ Q E hc hf Rm hsc S O
 simp only [chkE] at hc
 split at hc
 ·simp only [Bool.and_eq_true] at hc
  obtain ⟨c1,c2⟩:=hc
  split at c1
  ·rename_i fi q
   rw [evE] at O
   refine Call_ (glob_at W S (by rw [hsc];exact isRf_of c1) _ ?_)
   refine call_ref W (W.keepF q) h c2 hf Rm hsc S O fun vs s₁ ds σ₁ ι₁ _ S1 r O1=>?_
   cases hp:D.plainAll ds with
   |true =>
    rw [hp] at O1
    exact fresh_at W q hf Rm S1.hr S1.ff r hp O1
   |false =>
    rw [hp] at O1
    exact O1.elim
  ·cases c1
 ·cases hc
theorem carries_of {h:Heap}:∀{ks:List (List Nat)} {vs:List Value} {ts:List Tok} {ds:List D},VRs ι h vs ds→ks.length=ds.length→ts.length=ks.length →
  Carries (PySem.strKind prog w) (((ks.zip ts).map fun p=>Value.str (toS p.1) p.2).zip vs) ((ks.map toS).zip vs)
 |[],_,[],_,r,h1,_=>by
  cases r with
  |nil=>exact trivial
  |cons _ _=>cases h1
 |[],_,_::_,_,_,_,h2=>by cases h2
 |k::ks,_,[],_,_,_,h2=>by cases h2
 |k::ks,vs,t::ts,ds,r,h1,h2=>by
  cases r with
  |nil=>cases h1
  |cons a r=>exact ⟨by simp [PySem.strKind,Value.isStrOf],rfl,carries_of r (by simpa using h1) (by simpa using h2)⟩
theorem ents_of {h:Heap}:∀{ks:List (List Nat)} {vs:List Value} {ds:List D},VRs ι h vs ds→ks.length=ds.length→Ents ι h ((ks.map toS).zip vs) (ks.zip ds)
 |[],_,_,r,h1=>by cases r with
  |nil=>exact .nil
  |cons _ _=>cases h1
 |k::ks,_,_,r,h1=>by
  cases r with
  |nil=>cases h1
  |cons a r=>exact .cons a (ents_of r (by simpa using h1))
theorem pairs_all:∀{es:Exs},AllOK prog w base K n cf es→∀{ks:List (List Nat)} {keys:List (Option PySem.Expr)} {vals:List PySem.Expr} {pos:Pos} {s:Shared} {ι:Io} {σ:Hp} {Q:List Value→Shared→Prop},
  chkKeys ks keys=true→chkEs K es sc NE vals=true→keys.length=vals.length→A.frames=some fl→Room A n→env.scope=sc→SR prog w base fl env NE ι σ ρ s.heap→OutG prog w base fl VRs ι s (evEs clsT cf es ρ σ) Q E →
  wpAny (model prog w) A (evalPairs (pairTrees keys vals env pos)) (fun prs s'=>∃(vs:List Value) (ts:List Tok),prs=((ks.zip ts).map fun p=>Value.str (toS p.1) p.2).zip vs∧ts.length=ks.length∧Q vs s') E s
 |.nil,_,ks,keys,vals,pos,s,ι,σ,Q,hk,hc,hl,hf,Rm,hsc,S,O=>by
  cases vals with
  |cons _ _=>cases hc
  |nil =>
   cases keys with
   |cons _ _=>cases hl
   |nil =>
    cases ks with
    |cons _ _=>cases hk
    |nil=>exact pairTrees_nil_walk ⟨[],[],rfl,rfl,O.now S.hr .nil⟩
 |.cons e es,h,ks,keys,vals,pos,s,ι,σ,Q,hk,hc,hl,hf,Rm,hsc,S,O=>by
  cases vals with
  |nil=>cases hc
  |cons v vals =>
   cases keys with
   |nil=>cases hl
   |cons k keys =>
    cases ks with
    |nil=>cases hk
    |cons kk ks =>
     unfold chkKeys at hk
     split at hk
     ·rename_i h1 _
      cases h1
     ·rename_i kk' ks' y c1 c2 keys' h1 h2
      cases h1
      cases h2
      simp only [Bool.and_eq_true,beq_iff_eq] at hk
      obtain ⟨hk0,hk1⟩:=hk
      subst hk0
      simp only [chkEs,Bool.and_eq_true,beq_iff_eq] at hc
      rw [evEs] at O
      refine pairTrees_cons_walk (Constant_str ?_)
      have O':=O.later (tk':=s.toks+1) (Ext.refl (fls fl) [] ι s.heap)
      refine h.1.1.step (s:={ s with heap:=s.heap,toks:=s.toks+1 }) hc.1.2 hf Rm hsc S O' fun u s₁ d σ₁ ι₁ S1 r1 O1=>?_
      refine wpAny_mono (pairs_all h.2 hk1 hc.2 (by simpa using hl) hf Rm hsc S1 O1.bind) (fun prs s₂ h₂=>?_) fun _ _ e=>e
      obtain ⟨vs,ts,rfl,ht,ds,σ₂,ι₂,_,e2,H2,r2,O2⟩:=h₂
      refine ⟨u::vs,s.toks::ts,?_,by simp [ht],O2.now H2 (.cons (r1.mono (S1.mo e2) S1.hr.toff) r2)⟩
      rw [List.zip_cons_cons,List.map_cons,List.zip_cons_cons]
      simp only [toS_cps]
     ·cases hk
theorem merged_stored {ks:List (List Nat)}{vs:List Value}{ds:List D}{h:Heap}(r:VRs ι h vs ds)(hl:ks.length=ds.length):Ents ι h (merged [] ((ks.map toS).zip vs)) (putAll [] (ks.zip ds)) :=
 (ents_of r hl).merge .nil List.nodup_nil
theorem dict_laid {s₁:Shared}{ι₁:Io}{σ₁:Hp}{kvs:List (List Nat×D)}{es:List (Str×Value)}{a:Nat}{h':Heap}{t:Nat}{h₀:Heap}{o₀:Obj}{Q:Value→Shared→Prop}(H:HR prog w base ι σ s.heap)(ha:s.heap.get? a=none)(hlo:mainGlobals < a)(e1:Ext (fls fl) [] ι ι₁ h₀ s₁.heap)(k0:∀b o,s.heap.get? b=some o→h₀.get? b=some o)(g0:h₀.get? a=some o₀)(hd0:∀xs n,o₀.data≠.seq xs n)(hFa:a∉fls fl)
  (H1:HR prog w base ι₁ σ₁ s₁.heap) (hs:Heap.SameBut a s₁.heap h') (hd:h'.DictOf (PySem.strKind prog w) a es) (r:Ents ι₁ s₁.heap es kvs) (O:OutG prog w base fl VR ι s (alloc (.dict kvs) σ₁) Q E) (hs1:∃t₁,s₁={ s with heap:=s₁.heap,toks:=t₁ }):Q (.ref a) { s₁ with heap:=h',toks:=t }:=by
 have hn:a∉adr ι:=fun z=>by obtain ⟨o,e⟩:=H.alive z;rw [ha] at e;cases e
 have hn1:a∉adr ι₁:=fun z=>(e1.newA a z).elim hn fun y=>by rw [g0] at y;cases y
 have g1:s₁.heap.get? a=some o₀:=e1.keep a o₀ g0 (fun z=>hn (adr_nad z)) hFa (fun q=>nomatch q)
 have hb:base.get? a=none:=by
  cases e:base.get? a with
  |none=>rfl
  |some o =>
   have:=H.stay a o e
   rw [ha] at this
   cases this
 have k1:∀b o,¬(b=a∨none=some b)→s₁.heap.get? b=some o→h'.get? b=some o:=fun b o hb e=>(hs.2 b fun z=>hb (.inl z)).trans e
 have hv:∃o,h'.get? a=some o:=let ⟨o,_,_,e,_⟩:=hd;⟨o,e⟩
 have hp:∀b,(b=a∨(none:Option Nat)=some b)→b∉adr ι₁∧base.get? b=none∧mainGlobals < b∧∀o xs n,s₁.heap.get? b=some o→o.data≠.seq xs n:=fun b hb'=>by
  rcases hb' with rfl|q
  ·exact ⟨hn1,hb,hlo,fun o xs n e=>by rw [g1] at e;cases e;exact hd0 xs n⟩
  ·cases q
 have M1:Mo ι₁ (ι₁.add (a,none)) s₁.heap h':=⟨List.prefix_append ..,fun b hb=>by
  rcases List.mem_append.mp hb with q|q
  ·exact (add_new q).imp adr_nad fun z=>(hp b z).2.2.2
  ·exact .inl (List.mem_append_right _ q),fun b o xs n e d hb=>k1 b o (fun z=>(hp b z).2.2.2 o xs n e d) e⟩
 obtain ⟨H2,_⟩:=H1.allocG (p:=(a,none)) (o:=.dict kvs) k1 hp (by simp) (.dict hd (r.mono M1 H1.toff))
 have E2:Ext (fls fl) [] ι (ι₁.add (a,none)) s.heap h':=by
  refine ⟨e1.pre.trans (List.prefix_append ..),e1.same,fun b o e=>?_,fun b hb=>?_,fun b o e h1 h2 h3=>?_,fun b o e h1 h2=>?_⟩
  ·obtain ⟨o1,q1⟩:=e1.live b o (k0 b o e)
   by_cases z:b=a
   ·rw [z];exact hv
   ·exact ⟨o1,(hs.2 b z).trans q1⟩
  ·rcases add_new hb with q|q
   ·rcases e1.new b q with y|y
    ·exact .inl y
    ·exact .inr (by
      cases e:s.heap.get? b with
      |none=>rfl
      |some o=>rw [k0 b o e] at y;cases y)
   ·rcases q with rfl|q
    ·exact .inr ha
    ·cases q
  ·exact (hs.2 b fun z=>by rw [z,ha] at e;cases e).trans (e1.keep b o (k0 b o e) h1 h2 h3)
  ·obtain ⟨sl,q⟩:=e1.slot b o (k0 b o e) h1 h2
   exact ⟨sl,(hs.2 b fun z=>by rw [z,ha] at e;cases e).trans q⟩
 obtain ⟨t₁,hs1⟩:=hs1
 rw [hs1]
 exact O (.ref a) (ι₁.add (a,none)) h' t E2 H2 (.loc (p:=(a,none)) (by show (ι₁.nums++[_])[_]? = _;rw [←H1.len];simp))
theorem ev_mdict {ks:List (List Nat)}{es:Exs}(h:AllOK prog w base K n cf es):EvOK prog w base K n cf (.mdict ks es):=by
 intro fl A sc NE x env ι s σ ρ Q E hc hf Rm hsc S O
 simp only [chkE] at hc
 split at hc
 ·rename_i keys vals pos
  simp only [Bool.and_eq_true,decide_eq_true_eq,beq_iff_eq] at hc
  obtain ⟨⟨⟨c1,c2⟩,c3⟩,c4⟩:=hc
  rw [evE] at O
  have kl:∀{ks:List (List Nat)} {keys:List (Option PySem.Expr)},chkKeys ks keys=true→keys.length=ks.length∧keys.all (·.isSome)=true:=by
   intro ks
   induction ks with
   |nil=>intro keys h;cases keys with
    |nil=>exact ⟨rfl,rfl⟩
    |cons _ _=>cases h
   |cons k ks ih =>
    intro keys h
    unfold chkKeys at h
    split at h
    ·rename_i h1
     cases h1
    ·rename_i h1
     cases h1
     simp only [Bool.and_eq_true] at h
     obtain ⟨i1,i2⟩:=ih h.2
     exact ⟨by simp [i1],by simpa using i2⟩
    ·cases h
  obtain ⟨l1,l2⟩:=kl c1
  have dl:∀{ds:List D} {σ₁:Hp},evEs clsT cf es ρ σ=.ok ds σ₁→ks.length=ds.length:=fun e=>by rw [c3,evEs_len e,←chkEs_len c2]
  have hdl:(s.heap.push { cls:=.type "dict",data:=.dict #[] }).DictOf (PySem.strKind prog w) s.heap.objs.size []:=Heap.DictOf.new s.heap
  by_cases h0:keys=[]
  ·subst h0
   have hk0:ks=[]:=List.length_eq_zero_iff.mp l1.symm
   subst hk0
   have hv0:vals=[]:=List.length_eq_zero_iff.mp c3.symm
   subst hv0
   cases es with
   |cons _ _=>cases c2
   |nil =>
    rw [eval_Dict_empty]
    simp only [newDict,newObj]
    refine wpAny_bind (wpAny_standAt (wpAny_bind (wpAny_alloc (wpAny_pure ?_))))
    rw [evEs] at O
    exact O.dictNew S.hr keeps_push (Heap.get?_none_of_le (Nat.le_refl _)) S.hr.mainLt hdl .nil
  ·refine wpAny_Dict_walk (knd:=PySem.strKind prog w) l2 (by rw [l1,c3]) h0 (by rw [l1];exact c4) ?_
   have S0:SR prog w base fl env NE ι σ ρ (s.heap.push { cls:=.type "dict",data:=.dict #[] }):=S.ext (Ext.more keeps_push) (S.hr.more keeps_push)
   have O0:=O.bind0 (rel:=VRs)
   -- the entries are evaluated with the dict laid
   have key:=pairs_all (pos:=pos) (s:={ s with heap:=s.heap.push { cls:=.type "dict",data:=.dict #[] } }) h c1 c2 (by rw [l1,c3]) hf Rm hsc S0 (Q:=fun vs s₁=>∃ds σ₁ ι₁ t₁,evEs clsT cf es ρ σ=.ok ds σ₁∧s₁={ s with heap:=s₁.heap,toks:=t₁ }∧Ext (fls fl) [] ι ι₁ (s.heap.push { cls:=.type "dict",data:=.dict #[] }) s₁.heap∧HR prog w base ι₁ σ₁ s₁.heap∧VRs ι₁ s₁.heap vs ds) (by
    cases hx:evEs clsT cf es ρ σ with
    |no =>
     rw [hx] at O0
     exact O0.elim
    |ok ds σ₁=>exact fun vs ι₁ h₁ t₁ e1 H1 r1=>⟨ds,σ₁,ι₁,t₁,rfl,rfl,e1,H1,r1⟩
    |ex c σ₁ =>
     rw [hx] at O0
     exact OutG.later (rel:=VRs) (r:=.ex c σ₁) O0 (Ext.more keeps_push))
   refine wpAny_mono key (fun prs s₁ h₁=>?_) fun _ _ e=>e
   obtain ⟨vs,ts,rfl,ht,ds,σ₁,ι₁,t₁,he,hs1,e1,H1,r1⟩:=h₁
   have hFa:s.heap.objs.size∉fls fl:=fun z=>by
    obtain ⟨m,nn⟩:=S.ff.ns _ z
    exact Nat.lt_irrefl _ nn.lt
   have hna:s.heap.objs.size∉nad ι.nums:=fun z=>Nat.lt_irrefl _ (adr_lt S.hr (adr_nad z))
   refine ⟨(ks.map toS).zip vs,carries_of r1 (dl he) ht,Heap.DictOf.at hdl (fun o e=>e1.keep _ o e hna hFa (fun q=>nomatch q)),fun h' hm hs=>?_⟩
   unfold M.bind at O
   rw [he] at O
   have hfe:(if ks.length=ds.length then alloc (.dict (putAll [] (ks.zip ds))) else M.fail)=alloc (.dict (putAll [] (ks.zip ds))):=if_pos (dl he)
   have O1:OutG prog w base fl VR ι s (alloc (.dict (putAll [] (ks.zip ds))) σ₁) Q E:=by
    have O2:OutG prog w base fl VR ι s ((if ks.length=ds.length then alloc (.dict (putAll [] (ks.zip ds))) else M.fail) σ₁) Q E:=O
    rwa [hfe] at O2
   exact dict_laid S.hr (Heap.get?_none_of_le (Nat.le_refl _)) S.hr.mainLt e1 keeps_push (Heap.get?_push_size _ rfl) (fun xs n q=>by cases q) hFa H1 hs hm (merged_stored r1 (dl he)) O1 ⟨t₁,hs1⟩
 ·cases hc
end
end Mine
end
section
set_option maxRecDepth 100000
open PySem PySem.Spec PySem.Calls PyProof.Rows PySem.W
namespace Mine
inductive SqIt (ι:Io) (h:Heap) (I l:Addr):List D→Prop
 |lst {k:Nat} {vs:List Value} {ds:List D}:h.IsListIter I l k→h.IsList l vs.toArray→l∉adr ι→VRs ι h (vs.drop k) ds→SqIt ι h I l ds
 |tup {k:Nat} {vs:List Value} {ds:List D}:h.IsTupleIter I l k→h.IsTuple l vs.toArray→l∉adr ι→VRs ι h (vs.drop k) ds→SqIt ι h I l ds
section
variable {prog:Program}{w:World}{base:Heap}{ι ι':Io}{s:Shared}{σ:Hp}{A:Around}{E:Value→Shared→Prop}{h h':Heap}{I l:Addr}{ds:List D}
theorem tupIter_at {t:Addr}{i:Nat}(x:h.IsTupleIter I t i)(e:∀o,h.get? I=some o→h'.get? I=some o):h'.IsTupleIter I t i:=let ⟨o,ho,r⟩:=x;⟨o,e _ ho,r⟩
theorem SqIt.move (r:SqIt ι h I l ds)(M:Mo ι ι' h h')(k:∀o,h.get? I=some o→h'.get? I=some o):SqIt ι' h' I l ds:=by
 cases r with
 |lst a b c d =>
  obtain ⟨o,e1,e2,n,e3⟩:=b
  exact .lst (a.at k) ⟨o,M.seq _ o _ _ e1 e3 c,e2,n,e3⟩ (fun z=>(M.new _ z).elim c fun q=>q o _ n e1 e3) (d.mono M trivial)
 |tup a b c d =>
  obtain ⟨o,e1,e2,n,e3⟩:=b
  exact .tup (tupIter_at a k) ⟨o,M.seq _ o _ _ e1 e3 c,e2,n,e3⟩ (fun z=>(M.new _ z).elim c fun q=>q o _ n e1 e3) (d.mono M trivial)
theorem SqIt.ne (r:SqIt ι h I l ds):I≠l:=by
 rintro rfl
 cases r with
 |lst a b c d =>
  obtain ⟨o,e1,_,e2⟩:=a
  obtain ⟨o',e1',_,n,e2'⟩:=b
  rw [e1] at e1'
  cases e1'
  rw [e2] at e2'
  cases e2'
 |tup a b c d =>
  obtain ⟨o,e1,_,e2⟩:=a
  obtain ⟨o',e1',_,n,e2'⟩:=b
  rw [e1] at e1'
  cases e1'
  rw [e2] at e2'
  cases e2'
theorem SqIt.obj (r:SqIt ι h I l ds):∃o vs,h.get? I=some o∧o.data=.fields vs∧o.cls≠.type "zip" := by
 cases r with
 |lst a b c d =>
  obtain ⟨o,e1,e3,e2⟩:=a
  exact ⟨o,_,e1,e2,by rw [e3];decide⟩
 |tup a b c d =>
  obtain ⟨o,e1,e3,e2⟩:=a
  exact ⟨o,_,e1,e2,by rw [e3];decide⟩
theorem SqIt.soft (r:SqIt ι h I l ds):∀o,h.get? I=some o→∀xs n,o.data≠.seq xs n:=by
 obtain ⟨o,vs,e,d,_⟩:=r.obj
 intro o' e' xs n q
 rw [e] at e'
 cases e'
 rw [d] at q
 cases q
theorem same_mo (r:SqIt ι h I l ds)(hs:Heap.SameBut I h h'):Mo ι ι h h' :=
 Mo.but (W:=[I]) (fun b o z e=>(hs.2 b fun q=>z (q▸List.mem_singleton.mpr rfl)).trans e) (fun b hb=>.inr (by rw [List.mem_singleton.mp hb];exact r.soft))
theorem SqIt.cons {d:D}(r:SqIt ι h I l (d::ds)):∃v,VR ι h v d ∧
  ((∃k vs,h.IsListIter I l k∧h.IsList l vs∧vs[k]? = some v∧∀h',h'.IsListIter I l (k+1)→Heap.SameBut I h h'→SqIt ι h' I l ds) ∨
  (∃k vs,h.IsTupleIter I l k∧h.IsTuple l vs∧vs[k]? = some v∧∀h',h'.IsTupleIter I l (k+1)→Heap.SameBut I h h'→SqIt ι h' I l ds)):=by
 have hne:=r.ne
 have key:∀{k:Nat} {vs:List Value},VRs ι h (vs.drop k) (d::ds)→∃v,vs[k]? = some v∧VR ι h v d∧VRs ι h (vs.drop (k+1)) ds:=by
  intro k vs q
  generalize hq:vs.drop k=us at q
  cases q with
  |@cons v us _ _ a b =>
   refine ⟨v,?_,a,?_⟩
   ·have:=congrArg (fun l=>l[0]?) hq
    simpa using this
   ·have:vs.drop (k+1)=us:=by
     rw [←List.drop_drop,hq]
     rfl
    rw [this]
    exact b
 have r0:=r
 cases r with
 |lst a b c q =>
  obtain ⟨v,e,rv,q'⟩:=key q
  refine ⟨v,rv,.inl ⟨_,_,a,b,by simpa using e,fun h' a' hs=>?_⟩⟩
  have M:=same_mo r0 hs
  obtain ⟨o,e1,e2,n,e3⟩:=b
  exact .lst a' ⟨o,(hs.2 l hne.symm).trans e1,e2,n,e3⟩ c (q'.mono M trivial)
 |tup a b c q =>
  obtain ⟨v,e,rv,q'⟩:=key q
  refine ⟨v,rv,.inr ⟨_,_,a,b,by simpa using e,fun h' a' hs=>?_⟩⟩
  have M:=same_mo r0 hs
  obtain ⟨o,e1,e2,n,e3⟩:=b
  exact .tup a' ⟨o,(hs.2 l hne.symm).trans e1,e2,n,e3⟩ c (q'.mono M trivial)
theorem SqIt.nil (r:SqIt ι h I l []):(∃k vs,h.IsListIter I l k∧h.IsList l vs∧vs[k]? = none)∨(∃k vs,h.IsTupleIter I l k∧h.IsTuple l vs∧vs[k]? = none):=by
 have key:∀{k:Nat} {vs:List Value},VRs ι h (vs.drop k) []→vs.toArray[k]? = none:=by
  intro k vs q
  have:=q.zero
  have:vs.length≤k:=by simpa using this
  simpa using this
 cases r with
 |lst a b c q=>exact .inl ⟨_,_,a,b,key q⟩
 |tup a b c q=>exact .inr ⟨_,_,a,b,key q⟩
theorem sq_item {d:D}{Q:Option Value→Shared→Prop}(r:SqIt ι s.heap I l (d::ds))(hQ:∀v h',Heap.SameBut I s.heap h'→(∃o,h'.get? I=some o)→VR ι s.heap v d→SqIt ι h' I l ds→Q (some v) { s with heap:=h' }) :
  wpAny (model prog w) A (pyNext (.ref I)) Q E s:=by
 obtain ⟨v,rv,⟨k,vs,a,b,e,f⟩|⟨k,vs,a,b,e,f⟩⟩:=r.cons
 ·exact wpAny_pyNext_list_item a b e fun h' a' hs=>hQ v h' hs (let ⟨o,q,_⟩:=a';⟨o,q⟩) rv (f h' a' hs)
 ·exact wpAny_pyNext_tuple_item a b e fun h' a' hs=>hQ v h' hs (let ⟨o,q,_⟩:=a';⟨o,q⟩) rv (f h' a' hs)
theorem sq_end {Q:Option Value→Shared→Prop}(hh:A.handled=none)(r:SqIt ι s.heap I l [])(hQ:∀h',Heap.ExtBut I s.heap h'→Q none { s with heap:=h' }):wpAny (model prog w) A (pyNext (.ref I)) Q E s:=by
 rcases r.nil with ⟨k,vs,a,b,e⟩|⟨k,vs,a,b,e⟩
 ·exact wpAny_pyNext_list_end hh a b e hQ
 ·exact wpAny_pyNext_tuple_end hh a b e hQ
theorem sq_self {Q:Value→Shared→Prop}(r:SqIt ι s.heap I l ds)(h:Q (.ref I) s):wpAny (model prog w) A (pyIter (.ref I)) Q E s:=by
 cases r with
 |lst a b c d=>exact wpAny_pyIter_listiter a h
 |tup a b c d=>exact wpAny_pyIter_tupleiter a h
theorem sq_make {v:Value}{d:D}{Q:Value→Shared→Prop}(H:HR prog w base ι σ s.heap)(r:VR ι s.heap v d)(e:items d=some ds)
  (h:∀l (ob:Obj),v=.ref l→l < s.heap.objs.size→(∃xs,ob.data=.fields xs)→ob.isFreed=false→SqIt ι (s.heap.push ob) s.heap.objs.size l ds→Q (.ref s.heap.objs.size) { s with heap:=s.heap.push ob }) :
  wpAny (model prog w) A (pyIter v) Q E s:=by
 unfold items at e
 split at e
 ·cases e
  obtain ⟨a,vs,rfl,ht,hn,rs⟩:=r.tupOff
  have ht':s.heap.IsTuple a vs.toArray:=ht
  have hlt:a < s.heap.objs.size:=let ⟨_,e,_⟩:=ht;Heap.lt_size e
  exact wpAny_pyIter_tuple ht' (h a _ rfl hlt ⟨_,rfl⟩ rfl (.tup (k:=0) ⟨_,Heap.get?_push_size _ rfl,rfl,rfl⟩ (ht'.push _) hn (rs.mono (Mo.more keeps_push) trivial)))
 ·cases e
  obtain ⟨a,vs,rfl,hl,hn,rs⟩:=r.lstAt
  have hlt:a < s.heap.objs.size:=let ⟨_,e,_⟩:=hl;Heap.lt_size e
  exact wpAny_pyIter_list hl (h a _ rfl hlt ⟨_,rfl⟩ rfl (.lst (k:=0) ⟨_,Heap.get?_push_size _ rfl,rfl,rfl⟩ (hl.push _) hn (rs.mono (Mo.more keeps_push) trivial)))
 ·cases e
theorem nextOf_tup {it t:Addr}{i:Nat}{xs:Array Value}{x:Value}{Q:Value→Shared→Prop}(hit:s.heap.IsTupleIter it t i)(ht:s.heap.IsTuple t xs)(hx:xs[i]? = some x)
  (hQ:∀h',h'.IsTupleIter it t (i+1)→Heap.SameBut it s.heap h'→Q x { s with heap:=h' }):wpAny (model prog w) A (Builtin.SmallTypes.nextOf (.ref it)) Q E s:=by
 obtain ⟨o,ho,hc,hd⟩:=id hit
 obtain ⟨ol,hol,_,nl,hdl⟩:=ht
 unfold Builtin.SmallTypes.nextOf
 refine wpAny_bind (wpAny_callSpecial?_slot (name:=Str.ofString "__next__") hit.typeIs PySem.F.slot_tuple_iterator_next
  (wpAny_call_entry PySem.F.slot_tuple_iterator_next hit.typeIs PySem.F.entry_tuple_iterator_next ?_ (PySem.F.args_tuple_iterator_next_1 _)))
 show wpAny _ _ (field (.ref it) 0 >>= _) _ _ s
 refine wpAny_bind (wpAny_field ho hd (x:=.ref t) rfl ?_)
 show wpAny _ _ (field (.ref it) 1 >>= _) _ _ s
 refine wpAny_bind (wpAny_field ho hd (x:=.int i 0) rfl ?_)
 show wpAny _ _ (seqItems? (.ref t) >>= _) _ _ s
 refine wpAny_bind (wpAny_seqItems hol hdl ?_)
 simp only [Int.toNat_natCast,hx]
 refine wpAny_bind (wpAny_setField ho hd (by simp) (wpAny_pure ⟨x,rfl,wpAny_pure (hQ _ ?_ (Heap.SameBut.update ..))⟩))
 exact ⟨_,Heap.get?_update_self _ ho (Obj.isFreed_of_fields (Obj.data_mapFields hd _)),(Obj.cls_mapFields ..).trans hc,by
  rw [Obj.data_mapFields hd];simp [rawInt]⟩
theorem nextOf_tup_end {it t:Addr}{i:Nat}{xs:Array Value}{Q:Value→Shared→Prop}(hh:A.handled=none)(hit:s.heap.IsTupleIter it t i)(ht:s.heap.IsTuple t xs)(hx:xs[i]? = none)
  (hE:∀h' e,Heap.ExtBut it s.heap h'→(∃o,h'.get? e=some o∧o.cls=.type "StopIteration")→E (.ref e) { s with heap:=h' }):wpAny (model prog w) A (Builtin.SmallTypes.nextOf (.ref it)) Q E s:=by
 obtain ⟨o,ho,hc,hd⟩:=id hit
 obtain ⟨ol,hol,_,nl,hdl⟩:=ht
 unfold Builtin.SmallTypes.nextOf
 refine wpAny_bind (wpAny_callSpecial?_slot (name:=Str.ofString "__next__") hit.typeIs PySem.F.slot_tuple_iterator_next
  (wpAny_call_entry PySem.F.slot_tuple_iterator_next hit.typeIs PySem.F.entry_tuple_iterator_next ?_ (PySem.F.args_tuple_iterator_next_1 _)))
 show wpAny _ _ (field (.ref it) 0 >>= _) _ _ s
 refine wpAny_bind (wpAny_field ho hd (x:=.ref t) rfl ?_)
 show wpAny _ _ (field (.ref it) 1 >>= _) _ _ s
 refine wpAny_bind (wpAny_field ho hd (x:=.int i 0) rfl ?_)
 show wpAny _ _ (seqItems? (.ref t) >>= _) _ _ s
 refine wpAny_bind (wpAny_seqItems hol hdl ?_)
 simp only [Int.toNat_natCast,hx]
 refine wpAny_bind (wpAny_rule (wpAny_bind (wpAny_setField ho hd (by simp) ?_)))
 show wpAny _ _ (newExc (.type "StopIteration") [] >>= _) _ _ _
 refine wpAny_bind ?_
 simp only [newExc,newTuple]
 refine wpAny_bind (wpAny_newObj_type ?_ (by size_fits))
 refine wpAny_bind (m:=firstArgMember _ _) (wpAny_of_eq (a:=Value.none) (by first|rfl|(simp only [firstArgMember];rfl)) ?_)
 refine wpAny_newObj_type ?_ (by size_fits)
 simp only [raiseNew]
 refine wpAny_bind (wpAny_handled ?_)
 first|rw [show A.in1.handled=none from hh]|rw [hh]
 refine wpAny_bind (wpAny_pure (wpAny_throw ?_))
 exact hE _ _ (((Heap.SameBut.update ..).extBut.push _).push _) ⟨_,Heap.get?_push_size _ rfl,rfl⟩
theorem sq_draw {d:D}{Q:Value→Shared→Prop}(r:SqIt ι s.heap I l (d::ds))(hQ:∀v h',Heap.SameBut I s.heap h'→(∃o,h'.get? I=some o)→VR ι s.heap v d→SqIt ι h' I l ds→Q v { s with heap:=h' }) :
  wpAny (model prog w) A (Builtin.SmallTypes.nextOf (.ref I)) Q E s:=by
 obtain ⟨v,rv,⟨k,vs,a,b,e,f⟩|⟨k,vs,a,b,e,f⟩⟩:=r.cons
 ·exact wpAny_nextOf_list_item a b e fun h' a' hs=>hQ v h' hs (let ⟨o,q,_⟩:=a';⟨o,q⟩) rv (f h' a' hs)
 ·exact nextOf_tup a b e fun h' a' hs=>hQ v h' hs (let ⟨o,q,_⟩:=a';⟨o,q⟩) rv (f h' a' hs)
theorem sq_stop {Q:Value→Shared→Prop}(hh:A.handled=none)(r:SqIt ι s.heap I l [])(hE:∀h' e,Heap.ExtBut I s.heap h'→(∃o,h'.get? e=some o∧o.cls=.type "StopIteration")→E (.ref e) { s with heap:=h' }) :
  wpAny (model prog w) A (Builtin.SmallTypes.nextOf (.ref I)) Q E s:=by
 rcases r.nil with ⟨k,vs,a,b,e⟩|⟨k,vs,a,b,e⟩
 ·exact wpAny_nextOf_list_end hh a b e hE
 ·exact nextOf_tup_end hh a b e hE
end
end Mine
end
section
set_option maxRecDepth 100000
open PySem PySem.Spec PySem.Calls PyProof.Rows PySem.W
namespace Mine
abbrev zObj (f0 f1:Value)(TI TO:Addr):Obj:={ cls:=.type "zip",dict:=none,data:=.fields #[f0,f1,.bool false,.ref TI,.ref TO],slots:=#[] }
structure ZipR (ι:Io)(h:Heap)(z TI TO i1 i2 l1 l2:Addr)(xs ys:List D):Prop where
 hz:∃f0 f1,h.get? z=some (zObj f0 f1 TI TO)∧(f0=.none∨∃a t,f0=.int a t)
 hTI:IsPair h TI (.ref i1) (.ref i2)
 hTO:∃a b,IsPair h TO a b
 s1:SqIt ι h i1 l1 xs
 s2:SqIt ι h i2 l2 ys
 ne:i1≠i2
 hid:TO∈adr ι
 off:TI∉adr ι
section
variable {prog:Program}{w:World}{base:Heap}{ι ι':Io}{s:Shared}{σ:Hp}{A:Around}{E:Value→Shared→Prop}{h h':Heap}{z TI TO i1 i2 l1 l2:Addr}{xs ys:List D}
theorem Mo.one {b:Nat}(hs:Heap.SameBut b h h')(hb:b∈adr ι∨∀o,h.get? b=some o→∀xs n,o.data≠.seq xs n):Mo ι ι h h' :=
 Mo.but (W:=[b]) (fun c o q e=>(hs.2 c fun y=>q (y▸List.mem_singleton.mpr rfl)).trans e) (fun c hc=>by rw [List.mem_singleton.mp hc];exact hb)
theorem zObj_soft {f0 f1:Value}(e:h.get? z=some (zObj f0 f1 TI TO)):∀o,h.get? z=some o→∀xs n,o.data≠.seq xs n:=fun o q xs n d=>by
 rw [e] at q
 cases q
 cases d
theorem SqIt.ne_z {f0 f1:Value}(r:SqIt ι h i1 l1 xs)(e:h.get? z=some (zObj f0 f1 TI TO)):i1≠z:=by
 rintro rfl
 obtain ⟨o,vs,e1,e2,e3⟩:=r.obj
 rw [e] at e1
 cases e1
 exact e3 rfl
theorem SqIt.ne_pair {a b:Value}(r:SqIt ι h i1 l1 xs)(e:IsPair h TO a b):i1≠TO:=by
 rintro rfl
 obtain ⟨o,vs,e1,e2,e3⟩:=r.obj
 rw [e] at e1
 cases e1
 cases e2
theorem pair_ne_z {a b f0 f1:Value}{T:Addr}(e:IsPair h T a b)(q:h.get? z=some (zObj f0 f1 TI TO)):T≠z:=by
 rintro rfl
 rw [e] at q
 exact absurd (congrArg Obj.data (Option.some.inj q)) (by intro y;cases y)
theorem wpAny_loadIfAlive {M:Model}{a:Addr}{Q:Option Obj→Shared→Prop}(h:Q (s.heap.get? a) s):wpAny M A (loadIfAlive a) Q E s:=fun Γ p _=>by
 unfold loadIfAlive
 rw [Sem.wp_loadIfAlive]
 exact h
theorem own_free {f0 f1:Value}{Q:Bool→Shared→Prop}(hz:s.heap.get? z=some (zObj f0 f1 TI TO))(hf:f0=.none∨∃a t,f0=.int a t)(h1:Q true s)
  (h2:∀h' f1',h'.get? z=some (zObj f0 f1' TI TO)→Heap.SameBut z s.heap h'→Q false { s with heap:=h' }):wpAny (model prog w) A (Builtin.SmallTypes.ownedTupleIsFree (.ref z)) Q E s:=by
 unfold Builtin.SmallTypes.ownedTupleIsFree
 refine wpAny_bind (wpAny_field hz rfl (x:=f0) rfl ?_)
 rcases hf with rfl|⟨a,t,rfl⟩
 ·exact wpAny_pure h1
 ·refine wpAny_bind (wpAny_loadIfAlive ?_)
  cases hq:s.heap.get? a.toNat with
  |none=>exact wpAny_pure h1
  |some o =>
   simp only [Option.isNone_some,Bool.false_eq_true,if_false]
   refine wpAny_bind (wpAny_field hz rfl (x:=f1) rfl ?_)
   split
   ·exact wpAny_bind (wpAny_setField_rec hz (by simp) fun h' hz' hs'=>wpAny_pure (h2 h' _ hz' hs'))
   ·exact wpAny_pure (h2 s.heap f1 hz (Heap.SameBut.refl _ _))
theorem same_get {b c:Nat}{o:Obj}(hs:Heap.SameBut b h h')(e:h.get? c=some o)(n:c≠b):h'.get? c=some o:=(hs.2 c n).trans e
theorem zip_item {x y:D}{Q:Value→Shared→Prop}(Z:ZipR ι s.heap z TI TO i1 i2 l1 l2 (x::xs) (y::ys))
  (hQ:∀h' u v,(∀c o,c∉[z,TO,i1,i2]→s.heap.get? c=some o→h'.get? c=some o)→(∀c∈[z,TO,i1,i2],∃o,h'.get? c=some o)→IsPair h' s.heap.objs.size u v→VR ι h' u x→VR ι h' v y→ZipR ι h' z TI TO i1 i2 l1 l2 xs ys →
   Q (.ref s.heap.objs.size) { s with heap:=h' }) :
  wpAny (model prog w) A (Builtin.«zip.__next__» ⟨[.ref z],[]⟩) (fun fin s'=>∃v,fin=.done (.ret v)∧Q v s') E s:=by
 obtain ⟨f0,f1,hz,hf⟩:=Z.hz
 have hTI:=Z.hTI
 obtain ⟨a,b,hTO⟩:=Z.hTO
 have r1:=Z.s1
 have r2:=Z.s2
 have n1z:=Z.s1.ne_z hz
 have n2z:=Z.s2.ne_z hz
 have n1O:=Z.s1.ne_pair hTO
 have n2O:=Z.s2.ne_pair hTO
 have n1I:=Z.s1.ne_pair hTI
 have n2I:=Z.s2.ne_pair hTI
 have nOz:=pair_ne_z hTO hz
 have nIz:=pair_ne_z hTI hz
 have nIO:TI≠TO:=fun q=>Z.off (q▸Z.hid)
 have n12:=Z.ne
 show wpAny _ _ (field (.ref z) 2 >>= _) _ _ _
 refine wpAny_bind (wpAny_field hz rfl (x:=.bool false) rfl ?_)
 show wpAny _ _ (field (.ref z) 3 >>= _) _ _ _
 refine wpAny_bind (wpAny_field hz rfl (x:=.ref TI) rfl ?_)
 refine wpAny_bind (wpAny_seqItems hTI rfl ?_)
 show wpAny _ _ (Builtin.SmallTypes.ownedTupleIsFree (.ref z) >>= _) _ _ _
 refine wpAny_bind (own_free hz hf ?_ ?_)
 ·simp only [if_true]
  refine wpAny_bind (wpAny_rule ?_)
  refine wpAny_bind (wpAny_field hz rfl (x:=.ref TO) rfl ?_)
  refine wpAny_bind (wpAny_setField_rec hz (by simp) fun h₁ hz₁ hs₁=>?_)
  replace hz₁:h₁.get? z=some (zObj .ellipsis f1 TI TO):=hz₁
  have M₁:Mo ι ι s.heap h₁:=Mo.one hs₁ (.inr (zObj_soft hz))
  have r1₁:=r1.move M₁ fun o e=>same_get hs₁ e n1z
  have r2₁:=r2.move M₁ fun o e=>same_get hs₁ e n2z
  have hTO₁:IsPair h₁ TO a b:=same_get hs₁ hTO nOz
  have hTI₁:IsPair h₁ TI (.ref i1) (.ref i2):=same_get hs₁ hTI nIz
  refine wpAny_bind ?_
  simp only [List.zipIdx_cons,List.zipIdx_nil,List.forIn_cons,List.forIn_nil]
  refine wpAny_bind (wpAny_bind (wpAny_onRaise ?_))
  show wpAny _ _ (Builtin.SmallTypes.nextOf (.ref i1) >>= _) _ _ _
  refine wpAny_bind (sq_draw r1₁ fun u h₂ hs₂ hv₂ ru r1₂=>wpAny_pure ?_)
  have M₂:Mo ι ι h₁ h₂:=same_mo r1₁ hs₂
  have r2₂:=r2₁.move M₂ fun o e=>same_get hs₂ e n12.symm
  have hTO₂:IsPair h₂ TO a b:=same_get hs₂ hTO₁ n1O.symm
  have hTI₂:IsPair h₂ TI (.ref i1) (.ref i2):=same_get hs₂ hTI₁ n1I.symm
  have hz₂:=same_get hs₂ hz₁ n1z.symm
  refine wpAny_bind (wpAny_seqItems hTO₂ rfl ?_)
  refine wpAny_bind (wpAny_updateSeq_pair hTO₂ fun h₃ hTO₃ hs₃=>?_)
  replace hTO₃:IsPair h₃ TO u b:=hTO₃
  refine wpAny_bind (wpAny_letGo (wpAny_pure ?_))
  have M₃:Mo ι ι h₂ h₃:=Mo.one hs₃ (.inl Z.hid)
  have r1₃:=r1₂.move M₃ fun o e=>same_get hs₃ e n1O
  have r2₃:=r2₂.move M₃ fun o e=>same_get hs₃ e n2O
  have hTI₃:IsPair h₃ TI (.ref i1) (.ref i2):=same_get hs₃ hTI₂ nIO
  have hz₃:=same_get hs₃ hz₂ nOz.symm
  refine wpAny_bind (wpAny_bind (wpAny_onRaise ?_))
  show wpAny _ _ (Builtin.SmallTypes.nextOf (.ref i2) >>= _) _ _ _
  refine wpAny_bind (sq_draw r2₃ fun v h₄ hs₄ hv₄ rv r2₄=>wpAny_pure ?_)
  have M₄:Mo ι ι h₃ h₄:=same_mo r2₃ hs₄
  have r1₄:=r1₃.move M₄ fun o e=>same_get hs₄ e n12
  have hTO₄:IsPair h₄ TO u b:=same_get hs₄ hTO₃ n2O.symm
  have hTI₄:IsPair h₄ TI (.ref i1) (.ref i2):=same_get hs₄ hTI₃ n2I.symm
  have hz₄:=same_get hs₄ hz₃ n2z.symm
  refine wpAny_bind (wpAny_seqItems hTO₄ rfl ?_)
  refine wpAny_bind (wpAny_updateSeq_pair hTO₄ fun h₅ hTO₅ hs₅=>?_)
  replace hTO₅:IsPair h₅ TO u v:=hTO₅
  refine wpAny_bind (wpAny_letGo (wpAny_pure (wpAny_pure ?_)))
  have M₅:Mo ι ι h₄ h₅:=Mo.one hs₅ (.inl Z.hid)
  have r1₅:=r1₄.move M₅ fun o e=>same_get hs₅ e n1O
  have r2₅:=r2₄.move M₅ fun o e=>same_get hs₅ e n2O
  have hTI₅:IsPair h₅ TI (.ref i1) (.ref i2):=same_get hs₅ hTI₄ nIO
  have hz₅:=same_get hs₅ hz₄ nOz.symm
  refine wpAny_bind (wpAny_seqItems hTO₅ rfl ?_)
  refine wpAny_bind (wpAny_newTuple ?_)
  have hsz:h₅.objs.size=s.heap.objs.size:=by rw [hs₅.1,hs₄.1,hs₃.1,hs₂.1,hs₁.1]
  show wpAny _ _ (Builtin.SmallTypes.ownedTupleHandOut (.ref z) (.ref h₅.objs.size) >>= _) _ _ _
  refine wpAny_bind ?_
  unfold Builtin.SmallTypes.ownedTupleHandOut
  have k6:∀c o,h₅.get? c=some o→(h₅.push { cls:=.type "tuple",data:=.seq #[u,v] }).get? c=some o:=fun c o e=>Heap.get?_push_of_some _ e
  have M₆:Mo ι ι h₅ (h₅.push { cls:=.type "tuple",data:=.seq #[u,v] }):=Mo.more k6
  have hz₆:(h₅.push { cls:=.type "tuple",data:=.seq #[u,v] }).get? z=some (zObj .ellipsis f1 TI TO):=k6 _ _ hz₅
  refine wpAny_bind (wpAny_setField_rec hz₆ (by simp) fun h₇ hz₇ hs₇=>?_)
  replace hz₇:h₇.get? z=some (zObj (rawInt h₅.objs.size) f1 TI TO):=hz₇
  refine wpAny_setField_rec hz₇ (by simp) fun h₈ hz₈ hs₈=>?_
  replace hz₈:h₈.get? z=some (zObj (rawInt h₅.objs.size) (.bool false) TI TO):=hz₈
  have M₇:Mo ι ι (h₅.push { cls:=.type "tuple",data:=.seq #[u,v] }) h₇:=Mo.one hs₇ (.inr (zObj_soft hz₆))
  have M₈:Mo ι ι h₇ h₈:=Mo.one hs₈ (.inr (zObj_soft hz₇))
  have up:∀c o,c≠z→h₅.get? c=some o→h₈.get? c=some o:=fun c o n e=>same_get hs₈ (same_get hs₇ (k6 c o e) n) n
  have hnew:IsPair h₈ h₅.objs.size u v:=same_get hs₈ (same_get hs₇ (Heap.get?_push_size _ rfl) (Nat.ne_of_gt (Heap.lt_size hz₅))) (Nat.ne_of_gt (Heap.lt_size hz₅))
  rw [hsz] at hnew
  refine wpAny_pure ⟨_,rfl,?_⟩
  show Q (.ref h₅.objs.size) _
  rw [hsz]
  have mv:∀{u:Value} {d:D},VR ι h₅ u d→VR ι h₈ u d:=fun q=>((q.mono M₆ trivial).mono M₇ trivial).mono M₈ trivial
  refine hQ h₈ u v (fun c o hc e=>?_) (fun c hc=>?_) hnew (mv ((((ru.mono M₂ trivial).mono M₃ trivial).mono M₄ trivial).mono M₅ trivial)) (mv ((rv.mono M₄ trivial).mono M₅ trivial)) ⟨⟨_,_,hz₈,.inr ⟨_,_,rfl⟩⟩,up _ _ nIz hTI₅,⟨_,_,up _ _ nOz hTO₅⟩,?_,?_,n12,Z.hid,Z.off⟩
  ·simp only [List.mem_cons,List.not_mem_nil,or_false,not_or] at hc
   exact up c o hc.1 (same_get hs₅ (same_get hs₄ (same_get hs₃ (same_get hs₂ (same_get hs₁ e hc.1) hc.2.2.1) hc.2.1) hc.2.2.2) hc.2.1)
  ·simp only [List.mem_cons,List.not_mem_nil,or_false] at hc
   obtain ⟨o1,_,e1,_⟩:=r1₅.obj
   obtain ⟨o2,_,e2,_⟩:=r2₅.obj
   rcases hc with rfl|rfl|rfl|rfl
   ·exact ⟨_,hz₈⟩
   ·exact ⟨_,up _ _ nOz hTO₅⟩
   ·exact ⟨_,up _ _ n1z e1⟩
   ·exact ⟨_,up _ _ n2z e2⟩
  ·exact ((r1₅.move M₆ (fun o e=>k6 _ o e)).move M₇ fun o e=>same_get hs₇ e n1z).move M₈ fun o e=>same_get hs₈ e n1z
  ·exact ((r2₅.move M₆ (fun o e=>k6 _ o e)).move M₇ fun o e=>same_get hs₇ e n2z).move M₈ fun o e=>same_get hs₈ e n2z
 ·intro h₁ f1' hz₁ hs₁
  have M₁:Mo ι ι s.heap h₁:=Mo.one hs₁ (.inr (zObj_soft hz))
  have r1₁:=r1.move M₁ fun o e=>same_get hs₁ e n1z
  have r2₁:=r2.move M₁ fun o e=>same_get hs₁ e n2z
  have hTO₁:IsPair h₁ TO a b:=same_get hs₁ hTO nOz
  have hTI₁:IsPair h₁ TI (.ref i1) (.ref i2):=same_get hs₁ hTI nIz
  simp only [Bool.false_eq_true,if_false]
  refine wpAny_bind ?_
  simp only [List.forIn_cons,List.forIn_nil,Array.forIn_toList,←Array.forIn_toList]
  refine wpAny_bind (wpAny_bind (wpAny_holding ?_))
  show wpAny _ _ (Builtin.SmallTypes.nextOf (.ref i1) >>= _) _ _ _
  refine wpAny_bind (sq_draw r1₁ fun u h₂ hs₂ hv₂ ru r1₂=>wpAny_pure ?_)
  refine wpAny_pure ?_
  have M₂:Mo ι ι h₁ h₂:=same_mo r1₁ hs₂
  have r2₂:=r2₁.move M₂ fun o e=>same_get hs₂ e n12.symm
  have hTO₂:IsPair h₂ TO a b:=same_get hs₂ hTO₁ n1O.symm
  have hTI₂:IsPair h₂ TI (.ref i1) (.ref i2):=same_get hs₂ hTI₁ n1I.symm
  have hz₂:=same_get hs₂ hz₁ n1z.symm
  dsimp only
  refine wpAny_bind (wpAny_bind (wpAny_holding ?_))
  show wpAny _ _ (Builtin.SmallTypes.nextOf (.ref i2) >>= _) _ _ _
  refine wpAny_bind (sq_draw r2₂ fun v h₃ hs₃ hv₃ rv r2₃=>wpAny_pure ?_)
  refine wpAny_pure ?_
  have M₃:Mo ι ι h₂ h₃:=same_mo r2₂ hs₃
  have r1₃:=r1₂.move M₃ fun o e=>same_get hs₃ e n12
  have hTO₃:IsPair h₃ TO a b:=same_get hs₃ hTO₂ n2O.symm
  have hTI₃:IsPair h₃ TI (.ref i1) (.ref i2):=same_get hs₃ hTI₂ n2I.symm
  have hz₃:=same_get hs₃ hz₂ n2z.symm
  dsimp only
  refine wpAny_pure ?_
  dsimp only
  show wpAny _ _ (newTuple [u,v] >>= fun x=>ret x) _ _ _
  refine wpAny_bind (wpAny_newTuple ?_)
  have hsz:h₃.objs.size=s.heap.objs.size:=by rw [hs₃.1,hs₂.1,hs₁.1]
  have k4:∀c o,h₃.get? c=some o→(h₃.push { cls:=.type "tuple",data:=.seq #[u,v] }).get? c=some o:=fun c o e=>Heap.get?_push_of_some _ e
  have M₄:Mo ι ι h₃ (h₃.push { cls:=.type "tuple",data:=.seq #[u,v] }):=Mo.more k4
  have hnew:IsPair (h₃.push { cls:=.type "tuple",data:=.seq #[u,v] }) h₃.objs.size u v:=Heap.get?_push_size _ rfl
  rw [hsz] at hnew
  refine wpAny_pure ⟨_,rfl,?_⟩
  show Q (.ref h₃.objs.size) _
  rw [hsz]
  refine hQ (h₃.push { cls:=.type "tuple",data:=.seq #[u,v] }) u v (fun c o hc e=>?_) (fun c hc=>?_) hnew (((ru.mono M₂ trivial).mono M₃ trivial).mono M₄ trivial) ((rv.mono M₃ trivial).mono M₄ trivial)
   ⟨⟨_,_,k4 _ _ hz₃,hf⟩,k4 _ _ hTI₃,⟨_,_,k4 _ _ hTO₃⟩,r1₃.move M₄ fun o e=>k4 _ o e,r2₃.move M₄ fun o e=>k4 _ o e,n12,Z.hid,Z.off⟩
  ·simp only [List.mem_cons,List.not_mem_nil,or_false,not_or] at hc
   exact k4 c o (same_get hs₃ (same_get hs₂ (same_get hs₁ e hc.1) hc.2.2.1) hc.2.2.2)
  ·simp only [List.mem_cons,List.not_mem_nil,or_false] at hc
   obtain ⟨o1,_,e1,_⟩:=r1₃.obj
   obtain ⟨o2,_,e2,_⟩:=r2₃.obj
   rcases hc with rfl|rfl|rfl|rfl
   ·exact ⟨_,k4 _ _ hz₃⟩
   ·exact ⟨_,k4 _ _ hTO₃⟩
   ·exact ⟨_,k4 _ _ e1⟩
   ·exact ⟨_,k4 _ _ e2⟩
theorem zipD_nil:zipD xs ys=[]→xs=[]∨ys=[]:=by
 cases xs with
 |nil=>exact fun _=>.inl rfl
 |cons x xs=>cases ys with
  |nil=>exact fun _=>.inr rfl
  |cons y ys=>intro h;cases h
theorem zip_end {Q:Fin→Shared→Prop}(hh:A.handled=none)(Z:ZipR ι s.heap z TI TO i1 i2 l1 l2 xs ys)(hn:zipD xs ys=[])
  (hE:∀h' e,(∀c o,c∉[z,TO,i1,i2]→s.heap.get? c=some o→h'.get? c=some o)→(∃o,h'.get? e=some o∧o.cls=.type "StopIteration")→E (.ref e) { s with heap:=h' }) :
  wpAny (model prog w) A (Builtin.«zip.__next__» ⟨[.ref z],[]⟩) Q E s:=by
 obtain ⟨f0,f1,hz,hf⟩:=Z.hz
 have hTI:=Z.hTI
 obtain ⟨a,b,hTO⟩:=Z.hTO
 have r1:=Z.s1
 have r2:=Z.s2
 have n1z:=Z.s1.ne_z hz
 have n2z:=Z.s2.ne_z hz
 have n1O:=Z.s1.ne_pair hTO
 have n2O:=Z.s2.ne_pair hTO
 have nOz:=pair_ne_z hTO hz
 have n12:=Z.ne
 show wpAny _ _ (field (.ref z) 2 >>= _) _ _ _
 refine wpAny_bind (wpAny_field hz rfl (x:=.bool false) rfl ?_)
 show wpAny _ _ (field (.ref z) 3 >>= _) _ _ _
 refine wpAny_bind (wpAny_field hz rfl (x:=.ref TI) rfl ?_)
 refine wpAny_bind (wpAny_seqItems hTI rfl ?_)
 show wpAny _ _ (Builtin.SmallTypes.ownedTupleIsFree (.ref z) >>= _) _ _ _
 refine wpAny_bind (own_free hz hf ?_ ?_)
 ·simp only [if_true]
  refine wpAny_bind (wpAny_rule ?_)
  refine wpAny_bind (wpAny_field hz rfl (x:=.ref TO) rfl ?_)
  refine wpAny_bind (wpAny_setField_rec hz (by simp) fun h₁ hz₁ hs₁=>?_)
  replace hz₁:h₁.get? z=some (zObj .ellipsis f1 TI TO):=hz₁
  have M₁:Mo ι ι s.heap h₁:=Mo.one hs₁ (.inr (zObj_soft hz))
  have r1₁:=r1.move M₁ fun o e=>same_get hs₁ e n1z
  have r2₁:=r2.move M₁ fun o e=>same_get hs₁ e n2z
  have hTO₁:IsPair h₁ TO a b:=same_get hs₁ hTO nOz
  refine wpAny_bind ?_
  simp only [List.zipIdx_cons,List.zipIdx_nil,List.forIn_cons,List.forIn_nil]
  refine wpAny_bind (wpAny_bind (wpAny_onRaise ?_))
  show wpAny _ _ (Builtin.SmallTypes.nextOf (.ref i1) >>= _) _ _ _
  cases xs with
  |nil =>
   refine wpAny_bind (sq_stop hh r1₁ fun h₂ e hs₂ he=>?_)
   obtain ⟨oe,hoe,hce⟩:=he
   have hz₂:h₂.get? z=some (zObj .ellipsis f1 TI TO):=hs₂ _ _ n1z.symm hz₁
   have hez:e≠z:=fun q=>by
    subst q
    rw [hz₂] at hoe
    cases hoe
    exact absurd (Value.type.inj hce) (by decide)
   refine wpAny_setField_rec hz₂ (by simp) fun h₃ _ hs₃=>hE h₃ e (fun c o hc q=>?_) ⟨oe,same_get hs₃ hoe hez,hce⟩
   simp only [List.mem_cons,List.not_mem_nil,or_false,not_or] at hc
   exact same_get hs₃ (hs₂ _ _ hc.2.2.1 (same_get hs₁ q hc.1)) hc.1
  |cons x xs =>
   have hy:ys=[]:=by rcases zipD_nil hn with q|q;cases q;exact q
   subst hy
   refine wpAny_bind (sq_draw r1₁ fun u h₂ hs₂ hv₂ ru r1₂=>wpAny_pure ?_)
   have M₂:Mo ι ι h₁ h₂:=same_mo r1₁ hs₂
   have r2₂:=r2₁.move M₂ fun o e=>same_get hs₂ e n12.symm
   have hTO₂:IsPair h₂ TO a b:=same_get hs₂ hTO₁ n1O.symm
   have hz₂:=same_get hs₂ hz₁ n1z.symm
   refine wpAny_bind (wpAny_seqItems hTO₂ rfl ?_)
   refine wpAny_bind (wpAny_updateSeq_pair hTO₂ fun h₃ hTO₃ hs₃=>?_)
   refine wpAny_bind (wpAny_letGo (wpAny_pure ?_))
   have M₃:Mo ι ι h₂ h₃:=Mo.one hs₃ (.inl Z.hid)
   have r2₃:=r2₂.move M₃ fun o e=>same_get hs₃ e n2O
   have hz₃:=same_get hs₃ hz₂ nOz.symm
   refine wpAny_bind (wpAny_bind (wpAny_onRaise ?_))
   show wpAny _ _ (Builtin.SmallTypes.nextOf (.ref i2) >>= _) _ _ _
   refine wpAny_bind (sq_stop hh r2₃ fun h₄ e hs₄ he=>?_)
   obtain ⟨oe,hoe,hce⟩:=he
   have hz₄:h₄.get? z=some (zObj .ellipsis f1 TI TO):=hs₄ _ _ n2z.symm hz₃
   have hez:e≠z:=fun q=>by
    subst q
    rw [hz₄] at hoe
    cases hoe
    exact absurd (Value.type.inj hce) (by decide)
   refine wpAny_setField_rec hz₄ (by simp) fun h₅ _ hs₅=>hE h₅ e (fun c o hc q=>?_) ⟨oe,same_get hs₅ hoe hez,hce⟩
   simp only [List.mem_cons,List.not_mem_nil,or_false,not_or] at hc
   exact same_get hs₅ (hs₄ _ _ hc.2.2.2 (same_get hs₃ (same_get hs₂ (same_get hs₁ q hc.1) hc.2.2.1) hc.2.1)) hc.1
 ·intro h₁ f1' hz₁ hs₁
  have M₁:Mo ι ι s.heap h₁:=Mo.one hs₁ (.inr (zObj_soft hz))
  have r1₁:=r1.move M₁ fun o e=>same_get hs₁ e n1z
  have r2₁:=r2.move M₁ fun o e=>same_get hs₁ e n2z
  simp only [Bool.false_eq_true,if_false]
  refine wpAny_bind ?_
  simp only [List.forIn_cons,List.forIn_nil,←Array.forIn_toList]
  refine wpAny_bind (wpAny_bind (wpAny_holding ?_))
  show wpAny _ _ (Builtin.SmallTypes.nextOf (.ref i1) >>= _) _ _ _
  cases xs with
  |nil =>
   refine wpAny_bind (sq_stop hh r1₁ fun h₂ e hs₂ he=>hE h₂ e (fun c o hc q=>?_) he)
   simp only [List.mem_cons,List.not_mem_nil,or_false,not_or] at hc
   exact hs₂ _ _ hc.2.2.1 (same_get hs₁ q hc.1)
  |cons x xs =>
   have hy:ys=[]:=by rcases zipD_nil hn with q|q;cases q;exact q
   subst hy
   refine wpAny_bind (sq_draw r1₁ fun u h₂ hs₂ hv₂ ru r1₂=>wpAny_pure (wpAny_pure ?_))
   have M₂:Mo ι ι h₁ h₂:=same_mo r1₁ hs₂
   have r2₂:=r2₁.move M₂ fun o e=>same_get hs₂ e n12.symm
   dsimp only
   refine wpAny_bind (wpAny_bind (wpAny_holding ?_))
   show wpAny _ _ (Builtin.SmallTypes.nextOf (.ref i2) >>= _) _ _ _
   refine wpAny_bind (sq_stop hh r2₂ fun h₃ e hs₃ he=>hE h₃ e (fun c o hc q=>?_) he)
   simp only [List.mem_cons,List.not_mem_nil,or_false,not_or] at hc
   exact hs₃ _ _ hc.2.2.2 (same_get hs₂ (same_get hs₁ q hc.1) hc.2.2.1)
end
end Mine
end
section
set_option maxRecDepth 100000
open PySem PySem.Spec PySem.Calls PyProof.Rows PySem.W
namespace Mine
abbrev tit (l:Addr):Obj:={ cls:=.type "tuple_iterator",data:=.fields #[.ref l,.int 0 0] }
abbrev lit0 (l:Addr):Obj:={ cls:=.type "list_iterator",data:=.fields #[.ref l,.int 0 0] }
abbrev zH2 (h:Heap)(a b:Obj):Heap:=(h.push a).push b
abbrev zH3 (h:Heap)(a b:Obj):Heap:=(zH2 h a b).push { cls:=.type "tuple",data:=.seq #[.ref h.objs.size,.ref (h.push a).objs.size] }
abbrev zH4 (h:Heap)(a b:Obj):Heap:=(zH3 h a b).push { cls:=.type "tuple",data:=.seq #[.none,.none] }
abbrev zH5 (h:Heap)(a b:Obj):Heap:=(zH4 h a b).push { cls:=.type "zip",data:=.fields #[.none,.bool false,.bool false,.ref (zH2 h a b).objs.size,.ref (zH3 h a b).objs.size] }
theorem zip_new_tt (l1 l2:Addr)(xs ys:Array Value) :
  Meets (Builtin.«zip.__new__» ⟨[.type "zip",.ref l1,.ref l2],[]⟩) (fun _ R s=>s.heap.IsTuple l1 xs∧s.heap.IsTuple l2 ys ∧
   R (.ok (.ret (.ref (zH4 s.heap (tit l1) (tit l2)).objs.size))) { s with heap:=zH5 s.heap (tit l1) (tit l2) }) :=
 .of_wp fun prog w A R s h=>by
  obtain ⟨hp,g,d,tk,os⟩:=s
  obtain ⟨h1,h2,h⟩:=h
  have hsub:=sub_zip
  have h1':Heap.IsTuple (Shared.heap ⟨hp,g,d,tk,os⟩) l1 xs:=h1
  have h2':Heap.IsTuple (Shared.heap ⟨hp.push (tit l1),g,d,tk,os⟩) l2 ys:=Heap.IsTuple.push h2 _
  wp_walk using wpAny_pyIter_tuple h1',wpAny_pyIter_tuple h2'
  exact ⟨_,rfl,h⟩
theorem zip_new_tl (l1 l2:Addr)(xs ys:Array Value) :
  Meets (Builtin.«zip.__new__» ⟨[.type "zip",.ref l1,.ref l2],[]⟩) (fun _ R s=>s.heap.IsTuple l1 xs∧s.heap.IsList l2 ys ∧
   R (.ok (.ret (.ref (zH4 s.heap (tit l1) (lit0 l2)).objs.size))) { s with heap:=zH5 s.heap (tit l1) (lit0 l2) }) :=
 .of_wp fun prog w A R s h=>by
  obtain ⟨hp,g,d,tk,os⟩:=s
  obtain ⟨h1,h2,h⟩:=h
  have hsub:=sub_zip
  have h1':Heap.IsTuple (Shared.heap ⟨hp,g,d,tk,os⟩) l1 xs:=h1
  have h2':Heap.IsList (Shared.heap ⟨hp.push (tit l1),g,d,tk,os⟩) l2 ys:=Heap.IsList.push h2 _
  wp_walk using wpAny_pyIter_tuple h1',wpAny_pyIter_list h2'
  exact ⟨_,rfl,h⟩
theorem zip_new_lt (l1 l2:Addr)(xs ys:Array Value) :
  Meets (Builtin.«zip.__new__» ⟨[.type "zip",.ref l1,.ref l2],[]⟩) (fun _ R s=>s.heap.IsList l1 xs∧s.heap.IsTuple l2 ys ∧
   R (.ok (.ret (.ref (zH4 s.heap (lit0 l1) (tit l2)).objs.size))) { s with heap:=zH5 s.heap (lit0 l1) (tit l2) }) :=
 .of_wp fun prog w A R s h=>by
  obtain ⟨hp,g,d,tk,os⟩:=s
  obtain ⟨h1,h2,h⟩:=h
  have hsub:=sub_zip
  have h1':Heap.IsList (Shared.heap ⟨hp,g,d,tk,os⟩) l1 xs:=h1
  have h2':Heap.IsTuple (Shared.heap ⟨hp.push (lit0 l1),g,d,tk,os⟩) l2 ys:=Heap.IsTuple.push h2 _
  wp_walk using wpAny_pyIter_list h1',wpAny_pyIter_tuple h2'
  exact ⟨_,rfl,h⟩
theorem zip_new_ll (l1 l2:Addr)(xs ys:Array Value) :
  Meets (Builtin.«zip.__new__» ⟨[.type "zip",.ref l1,.ref l2],[]⟩) (fun _ R s=>s.heap.IsList l1 xs∧s.heap.IsList l2 ys ∧
   R (.ok (.ret (.ref (zH4 s.heap (lit0 l1) (lit0 l2)).objs.size))) { s with heap:=zH5 s.heap (lit0 l1) (lit0 l2) }):=meets_zip_new l1 l2 xs ys
section
variable {prog:Program}{w:World}{base:Heap}{ι ι':Io}{s:Shared}{σ:Hp}{A:Around}{E:Value→Shared→Prop}{h h':Heap}{z TI TO i1 i2 l1 l2:Addr}{xs ys:List D}
theorem zip_laid {ι:Io}{h:Heap}{a b:Obj}(ha:a.isFreed=false)(hb:b.isFreed=false)(s1:SqIt ι (h.push a) h.objs.size l1 xs)(s2:SqIt ι ((h.push a).push b) (h.push a).objs.size l2 ys)(hA:∀c∈adr ι,∃o,h.get? c=some o) :
  (zH4 h a b).objs.size=h.objs.size+4∧ZipR (ι.hide (h.objs.size+3)) (zH5 h a b) (h.objs.size+4) (h.objs.size+2) (h.objs.size+3) h.objs.size (h.objs.size+1) l1 l2 xs ys∧(∀c o,h.get? c=some o→(zH5 h a b).get? c=some o)∧(∀c∈[h.objs.size+4,h.objs.size+2,h.objs.size+3,h.objs.size,h.objs.size+1],∃o,(zH5 h a b).get? c=some o):=by
 have z1:(h.push a).objs.size=h.objs.size+1:=Heap.size_push ..
 have z2:(zH2 h a b).objs.size=h.objs.size+2:=by rw [Heap.size_push,z1]
 have z3:(zH3 h a b).objs.size=h.objs.size+3:=by rw [Heap.size_push,z2]
 have z4:(zH4 h a b).objs.size=h.objs.size+4:=by rw [Heap.size_push,z3]
 have k5:∀c o,(zH4 h a b).get? c=some o→(zH5 h a b).get? c=some o:=keeps_push
 have k4:∀c o,(zH3 h a b).get? c=some o→(zH5 h a b).get? c=some o:=fun c o e=>k5 c o (keeps_push c o e)
 have k3:∀c o,(zH2 h a b).get? c=some o→(zH5 h a b).get? c=some o:=fun c o e=>k4 c o (keeps_push c o e)
 have k2:∀c o,(h.push a).get? c=some o→(zH5 h a b).get? c=some o:=fun c o e=>k3 c o (keeps_push c o e)
 have k1:∀c o,h.get? c=some o→(zH5 h a b).get? c=some o:=fun c o e=>k2 c o (keeps_push c o e)
 have g5:(zH5 h a b).get? (h.objs.size+4)=some (zObj .none (.bool false) (h.objs.size+2) (h.objs.size+3)):=by
  have g:∀n,n=(zH4 h a b).objs.size→(zH5 h a b).get? n=some (zObj .none (.bool false) (zH2 h a b).objs.size (zH3 h a b).objs.size):=fun n e=>by
   rw [e]
   exact Heap.get?_push_size (zH4 h a b) rfl
  rw [g _ z4.symm,z2,z3]
 have g4:IsPair (zH5 h a b) (h.objs.size+3) .none .none:=by
  have:=k5 _ _ (Heap.get?_push_size (zH3 h a b) (o:={ cls:=.type "tuple",data:=.seq #[.none,.none] }) rfl)
  rwa [z3] at this
 have g3:IsPair (zH5 h a b) (h.objs.size+2) (.ref h.objs.size) (.ref (h.objs.size+1)):=by
  have:=k4 _ _ (Heap.get?_push_size (zH2 h a b) (o:={ cls:=.type "tuple",data:=.seq #[.ref h.objs.size,.ref (h.push a).objs.size] }) rfl)
  rwa [z2,z1] at this
 have g2:(zH5 h a b).get? (h.objs.size+1)=some b:=by
  have:=k3 _ _ (Heap.get?_push_size (h.push a) hb)
  rwa [z1] at this
 have g1:(zH5 h a b).get? h.objs.size=some a:=k2 _ _ (Heap.get?_push_size h ha)
 have fresh:∀c,h.objs.size≤c→c∉adr ι:=fun c hc q=>by obtain ⟨o,e⟩:=hA c q;exact absurd (Heap.lt_size e) (Nat.not_lt.mpr hc)
 have M0:∀{h0:Heap},(∀c o,h0.get? c=some o→(zH5 h a b).get? c=some o)→h0.get? (h.objs.size+3)=none→Mo ι (ι.hide (h.objs.size+3)) h0 (zH5 h a b):=fun k e=>Mo.hide k e
 rw [z1] at s2
 refine ⟨z4,⟨⟨_,_,g5,.inl rfl⟩,g3,⟨_,_,g4⟩,s1.move (M0 (h0:=h.push a) k2 (Heap.get?_none_of_le (by rw [z1];exact Nat.add_le_add_left (by decide) _))) (fun o e=>k2 _ o e),s2.move (M0 (h0:=zH2 h a b) k3 (Heap.get?_none_of_le (by rw [z2];exact Nat.add_le_add_left (by decide) _))) (fun o e=>k3 _ o e),(Nat.succ_ne_self _).symm,List.mem_append_right _ List.mem_cons_self,fun q=>?_⟩,k1,fun c hc=>?_⟩
 ·rcases List.mem_append.mp q with q|q
  ·exact fresh _ (Nat.le_add_right _ 2) (adr_nad q)
  ·rcases List.mem_cons.mp q with q|q
   ·exact absurd q.symm (Nat.succ_ne_self _)
   ·exact fresh _ (Nat.le_add_right _ 2) (List.mem_append_right _ q)
 ·simp only [List.mem_cons,List.not_mem_nil,or_false] at hc
  rcases hc with rfl|rfl|rfl|rfl|rfl
  ·exact ⟨_,g5⟩
  ·exact ⟨_,g3⟩
  ·exact ⟨_,g4⟩
  ·exact ⟨_,g1⟩
  ·exact ⟨_,g2⟩
theorem zip_make {v u:Value}{d e:D}{Q:Value→Shared→Prop}(H:HR prog w base ι σ s.heap)(rv:VR ι s.heap v d)(ru:VR ι s.heap u e)(hd:items d=some xs)(he:items e=some ys)
  (h:∀h' l1 l2,(∀c o,s.heap.get? c=some o→h'.get? c=some o)→(∀c∈[s.heap.objs.size+4,s.heap.objs.size+2,s.heap.objs.size+3,s.heap.objs.size,s.heap.objs.size+1],∃o,h'.get? c=some o) →
   ZipR (ι.hide (s.heap.objs.size+3)) h' (s.heap.objs.size+4) (s.heap.objs.size+2) (s.heap.objs.size+3) s.heap.objs.size (s.heap.objs.size+1) l1 l2 xs ys→Q (.ref (s.heap.objs.size+4)) { s with heap:=h' }) :
  wpAny (model prog w) A (call (.type "zip") [v,u]) Q E s:=by
 have hA:∀c∈adr ι,∃o,s.heap.get? c=some o:=fun c hc=>H.alive hc
 have fin:∀{a b:Obj} {l1 l2:Addr},a.isFreed=false→b.isFreed=false→SqIt ι (s.heap.push a) s.heap.objs.size l1 xs→SqIt ι ((s.heap.push a).push b) (s.heap.push a).objs.size l2 ys →
   Q (.ref (zH4 s.heap a b).objs.size) { s with heap:=zH5 s.heap a b }:=fun ha hb s1 s2=>by
  obtain ⟨z4,Z,k,al⟩:=zip_laid ha hb s1 s2 hA
  rw [z4]
  exact h _ _ _ k al Z
 have mk:∀{l:Addr} {vs:List Value} {ds:List D} {h:Heap},h.IsTuple l vs.toArray→l∉adr ι→VRs ι h vs ds→SqIt ι (h.push (tit l)) h.objs.size l ds:=fun ht hn r =>
  .tup (k:=0) ⟨_,Heap.get?_push_size _ rfl,rfl,rfl⟩ (ht.push _) hn (r.mono (Mo.more keeps_push) trivial)
 have ml:∀{l:Addr} {vs:List Value} {ds:List D} {h:Heap},h.IsList l vs.toArray→l∉adr ι→VRs ι h vs ds→SqIt ι (h.push (lit0 l)) h.objs.size l ds:=fun ht hn r =>
  .lst (k:=0) ⟨_,Heap.get?_push_size _ rfl,rfl,rfl⟩ (ht.push _) hn (r.mono (Mo.more keeps_push) trivial)
 have mm:∀{vs:List Value} {ds:List D} {h:Heap} {o:Obj},VRs ι h vs ds→VRs ι (h.push o) vs ds:=fun r=>r.mono (Mo.more keeps_push) trivial
 unfold items at hd he
 split at hd
 ·cases hd
  obtain ⟨a,vs,rfl,h1,n1,r1⟩:=rv.tupOff
  have h1':s.heap.IsTuple a vs.toArray:=h1
  split at he
  ·cases he
   obtain ⟨b,us,rfl,h2,n2,r2⟩:=ru.tupOff
   have h2':s.heap.IsTuple b us.toArray:=h2
   exact callType_new PySem.F.called_zip (by decide) (PySem.F.typeCall_zip_2 _ _) (PySem.F.newCall_zip_2 _ _) (fun obj=>PySem.F.args_object_init_3 obj _ _) PySem.F.entry_zip_new (zip_new_tt a b _ _)
    ⟨h1',h2',⟨⟨_,Heap.get?_push_size _ rfl,rfl⟩,fin rfl rfl (mk h1' n1 r1) (mk (h2'.push _) n2 (mm r2))⟩⟩
  ·cases he
   obtain ⟨b,us,rfl,h2,n2,r2⟩:=ru.lstAt
   exact callType_new PySem.F.called_zip (by decide) (PySem.F.typeCall_zip_2 _ _) (PySem.F.newCall_zip_2 _ _) (fun obj=>PySem.F.args_object_init_3 obj _ _) PySem.F.entry_zip_new (zip_new_tl a b _ _)
    ⟨h1',h2,⟨⟨_,Heap.get?_push_size _ rfl,rfl⟩,fin rfl rfl (mk h1' n1 r1) (ml (h2.push _) n2 (mm r2))⟩⟩
  ·cases he
 ·cases hd
  obtain ⟨a,vs,rfl,h1,n1,r1⟩:=rv.lstAt
  split at he
  ·cases he
   obtain ⟨b,us,rfl,h2,n2,r2⟩:=ru.tupOff
   have h2':s.heap.IsTuple b us.toArray:=h2
   exact callType_new PySem.F.called_zip (by decide) (PySem.F.typeCall_zip_2 _ _) (PySem.F.newCall_zip_2 _ _) (fun obj=>PySem.F.args_object_init_3 obj _ _) PySem.F.entry_zip_new (zip_new_lt a b _ _)
    ⟨h1,h2',⟨⟨_,Heap.get?_push_size _ rfl,rfl⟩,fin rfl rfl (ml h1 n1 r1) (mk (h2'.push _) n2 (mm r2))⟩⟩
  ·cases he
   obtain ⟨b,us,rfl,h2,n2,r2⟩:=ru.lstAt
   exact callType_new PySem.F.called_zip (by decide) (PySem.F.typeCall_zip_2 _ _) (PySem.F.newCall_zip_2 _ _) (fun obj=>PySem.F.args_object_init_3 obj _ _) PySem.F.entry_zip_new (zip_new_ll a b _ _)
    ⟨h1,h2,⟨⟨_,Heap.get?_push_size _ rfl,rfl⟩,fin rfl rfl (ml h1 n1 r1) (ml (h2.push _) n2 (mm r2))⟩⟩
  ·cases he
 ·cases hd
theorem zip_type (Z:ZipR ι s.heap z TI TO i1 i2 l1 l2 xs ys):s.TypeIs (.ref z) "zip" := let ⟨_,_,e,_⟩:=Z.hz;⟨_,e,rfl⟩
theorem zip_next {x y:D}{Q:Option Value→Shared→Prop}(Z:ZipR ι s.heap z TI TO i1 i2 l1 l2 (x::xs) (y::ys))
  (hQ:∀h' u v,(∀c o,c∉[z,TO,i1,i2]→s.heap.get? c=some o→h'.get? c=some o)→(∀c∈[z,TO,i1,i2],∃o,h'.get? c=some o)→IsPair h' s.heap.objs.size u v→VR ι h' u x→VR ι h' v y→ZipR ι h' z TI TO i1 i2 l1 l2 xs ys →
   Q (some (.ref s.heap.objs.size)) { s with heap:=h' }):wpAny (model prog w) A (pyNext (.ref z)) Q E s:=by
 unfold pyNext
 exact wpAny_bind (wpAny_attempt (wpAny_callSpecial?_slot (name:=Str.ofString "__next__") (zip_type Z) PySem.F.slot_zip_next
  (wpAny_call_entry PySem.F.slot_zip_next (zip_type Z) PySem.F.entry_zip_next (zip_item Z fun h' u v a1 a2 a3 a4 a5 a6=>wpAny_pure (hQ h' u v a1 a2 a3 a4 a5 a6)) (PySem.F.args_zip_next_1 _))))
theorem zip_done {Q:Option Value→Shared→Prop}(hh:A.handled=none)(Z:ZipR ι s.heap z TI TO i1 i2 l1 l2 xs ys)(hn:zipD xs ys=[])
  (hQ:∀h',(∀c o,c∉[z,TO,i1,i2]→s.heap.get? c=some o→h'.get? c=some o)→Q none { s with heap:=h' }):wpAny (model prog w) A (pyNext (.ref z)) Q E s:=by
 unfold pyNext
 refine wpAny_bind (wpAny_attempt (wpAny_callSpecial?_slot (name:=Str.ofString "__next__") (zip_type Z) PySem.F.slot_zip_next
  (wpAny_call_entry PySem.F.slot_zip_next (zip_type Z) PySem.F.entry_zip_next (zip_end hh Z hn fun h' e hk he=>?_) (PySem.F.args_zip_next_1 _))))
 obtain ⟨o,ho,hc⟩:=he
 refine wpAny_bind (wpAny_isInstance (T := "StopIteration") (b:=true) ⟨o,ho,hc⟩ isSubtype_stop ?_)
 exact wpAny_pure (hQ _ hk)
theorem zip_self {Q:Value→Shared→Prop}(Z:ZipR ι s.heap z TI TO i1 i2 l1 l2 xs ys)(h:Q (.ref z) s):wpAny (model prog w) A (pyIter (.ref z)) Q E s:=by
 refine wpAny_pyIter_slot (zip_type Z) PySem.F.slot_zip_iter (wpAny_call_entry PySem.F.slot_zip_iter (zip_type Z) PySem.F.entry_zip_iter ?_ (PySem.F.args_zip_iter_1 _))
 show wpAny _ _ (ret (.ref z)) _ _ s
 exact wpAny_pure ⟨_,rfl, "zip",_,zip_type Z,PySem.F.slot_zip_next.lookup,h⟩
theorem ZipR.same {h h':Heap}{f1':Value}{f0':Value}(Z:ZipR ι h z TI TO i1 i2 l1 l2 xs ys)(hs:Heap.SameBut z h h')(e:h'.get? z=some (zObj f0' f1' TI TO))(hf:f0'=.none∨∃a t,f0'=.int a t):ZipR ι h' z TI TO i1 i2 l1 l2 xs ys:=by
 obtain ⟨f0,f1,hz,_⟩:=Z.hz
 obtain ⟨a,b,hTO⟩:=Z.hTO
 have M:=Mo.one (ι:=ι) hs (.inr (zObj_soft hz))
 exact ⟨⟨_,_,e,hf⟩,same_get hs Z.hTI (pair_ne_z Z.hTI hz),⟨a,b,same_get hs hTO (pair_ne_z hTO hz)⟩,Z.s1.move M (fun o q=>same_get hs q (Z.s1.ne_z hz)),Z.s2.move M (fun o q=>same_get hs q (Z.s2.ne_z hz)),Z.ne,Z.hid,Z.off⟩
theorem zip_go {target:PySem.Expr}{T:Addr}{Q:Unit→Shared→Prop}(Z:ZipR ι s.heap z TI TO i1 i2 l1 l2 xs ys)(h:∀h',Heap.SameBut z s.heap h'→(∃o,h'.get? z=some o)→ZipR ι h' z TI TO i1 i2 l1 l2 xs ys→Q () { s with heap:=h' }) :
  wpAny (model prog w) A (letOwnedTupleGo target (.ref z) (.ref T)) Q E s:=by
 obtain ⟨f0,f1,hz,hf⟩:=Z.hz
 have same:Q () { s with heap:=s.heap }:=h s.heap (Heap.SameBut.refl _ _) ⟨_,hz⟩ Z
 have key:wpAny (model prog w) A (do
   let o ←load z
   match o.cls,o.data with
   |.type n,.fields vs =>
    if (["enumerate", "zip", "dict_itemiterator", "dict_reverseitemiterator", "odict_iterator", "itertools.zip_longest", "itertools.pairwise"].contains n&&vs[0]? == some (rawInt T))=true then do
     rule "for.unpacks-the-owned-tuple"
     updateField z 0 .none
    else pure ()
   |_,_=>pure ()) Q E s:=by
  refine wpAny_bind (wpAny_load hz ?_)
  dsimp only
  split
  ·refine wpAny_bind (wpAny_rule ?_)
   show wpAny _ _ (setField (.ref z) 0 .none) Q E s
   exact wpAny_setField_rec hz (by simp) fun h' hz' hs'=>h h' hs' ⟨_,hz'⟩ (Z.same hs' hz' (.inl rfl))
  ·exact wpAny_pure same
 unfold letOwnedTupleGo
 split
 ·exact key
 ·exact key
 ·exact wpAny_pure same
end
end Mine
end
section
set_option maxRecDepth 100000
open PySem PySem.Spec PySem.Calls PyProof.Rows PySem.W
namespace Mine
structure Wk (prog:Program)(w:World)(A:Around)(I:Addr)(W foot:List Nat)(St:List D→Io→Heap→Prop):Prop where
 sub:∀b∈W,b∈foot
 move:∀ds ι ι' h h',St ds ι h→Mo ι ι' h h'→(∀a∈ι.hid,a∈ι'.hid)→(∀b∈foot,∀o,h.get? b=some o→h'.get? b=some o)→St ds ι' h'
 own:∀ds ι h,St ds ι h→∀b∈W,b∈adr ι∨∀o,h.get? b=some o→∀xs n,o.data≠.seq xs n
 item:∀d ds ι (s:Shared) (Q:Option Value→Shared→Prop) (E:Value→Shared→Prop),St (d::ds) ι s.heap→(∀a∈adr ι,∃o,s.heap.get? a=some o)→(∀v h',(∀b o,b∉W→s.heap.get? b=some o→h'.get? b=some o)→(∀b∈W,∃o,h'.get? b=some o)→VR ι h' v d→St ds ι h'→Q (some v) { s with heap:=h' }) →
  wpAny (model prog w) A (pyNext (.ref I)) Q E s
 done:∀ι (s:Shared) (Q:Option Value→Shared→Prop) (E:Value→Shared→Prop),St [] ι s.heap→(∀h',(∀b o,b∉W→s.heap.get? b=some o→h'.get? b=some o)→Q none { s with heap:=h' })→wpAny (model prog w) A (pyNext (.ref I)) Q E s
 go:∀ds ι (s:Shared) (tgt:PySem.Expr) (v:Value) (Q:Unit→Shared→Prop) (E:Value→Shared→Prop),St ds ι s.heap→(∀h',(∀b o,b∉W→s.heap.get? b=some o→h'.get? b=some o)→(∀b∈W,(∃o,s.heap.get? b=some o)→∃o',h'.get? b=some o')→Mo ι ι s.heap h'→St ds ι h'→Q () { s with heap:=h' }) →
  wpAny (model prog w) A (letOwnedTupleGo tgt (.ref I) v) Q E s
 self:∀ds ι (s:Shared) (Q:Value→Shared→Prop) (E:Value→Shared→Prop),St ds ι s.heap→Q (.ref I) s→wpAny (model prog w) A (pyIter (.ref I)) Q E s
section
variable {prog:Program}{w:World}{A:Around}
theorem wk_seq (hh:A.handled=none)(I l:Addr):Wk prog w A I [I] [I] (fun ds ι h=>SqIt ι h I l ds) where
 sub:=fun _ h=>h
 move:=fun ds ι ι' h h' r M _ k=>r.move M fun o e=>k I (List.mem_singleton.mpr rfl) o e
 own:=fun ds ι h r b hb=>.inr (by rw [List.mem_singleton.mp hb];exact r.soft)
 item:=fun d ds ι s Q E r _ h=>sq_item r fun v h' hs hv rv r'=>h v h' (fun b o z e=>(hs.2 b fun q=>z (q▸List.mem_singleton.mpr rfl)).trans e) (fun b hb=>by rw [List.mem_singleton.mp hb];exact hv) (rv.mono (same_mo r hs) trivial) r'
 done:=fun ι s Q E r h=>sq_end hh r fun h' hs=>h h' fun b o z e=>hs b o (fun q=>z (q▸List.mem_singleton.mpr rfl)) e
 go:=fun ds ι s tgt v Q E r h=>by
  have fin:Q () { s with heap:=s.heap }:=h s.heap (fun _ _ _ e=>e) (fun _ _ e=>e) (Mo.more fun _ _ e=>e) r
  have key:wpAny (model prog w) A (do
    let (.ref r,.ref a):=(Value.ref I,v)|return
    let o ←load r
    match o.cls,o.data with
    |.type n,.fields vs =>
     if ["enumerate", "zip", "dict_itemiterator", "dict_reverseitemiterator", "odict_iterator", "itertools.zip_longest", "itertools.pairwise"].contains n&&vs[0]? == some (rawInt a) then
      rule "for.unpacks-the-owned-tuple"
      updateField r 0 .none
    |_,_=>pure ()) Q E s:=by
   cases v<;>try (exact wpAny_pure fin)
   rename_i a
   cases r with
   |lst x _ _ _ =>
    obtain ⟨o,e1,e2,e3⟩:=x
    refine wpAny_bind (wpAny_load e1 ?_)
    rw [e2,e3]
    exact wpAny_pure fin
   |tup x _ _ _ =>
    obtain ⟨o,e1,e2,e3⟩:=x
    refine wpAny_bind (wpAny_load e1 ?_)
    rw [e2,e3]
    exact wpAny_pure fin
  unfold letOwnedTupleGo
  split
  ·exact key
  ·exact key
  ·exact wpAny_pure fin
 self:=fun ds ι s Q E r h=>sq_self r h
theorem wk_zip (hh:A.handled=none)(z TI TO i1 i2 l1 l2:Addr):Wk prog w A z [z,TO,i1,i2] [z,TI,TO,i1,i2] (fun ds ι h=>TO∈ι.hid∧∃xs ys,ds=zipD xs ys∧ZipR ι h z TI TO i1 i2 l1 l2 xs ys) where
 sub:=fun b hb=>by
  simp only [List.mem_cons,List.not_mem_nil,or_false] at hb ⊢
  rcases hb with rfl|rfl|rfl|rfl<;>simp
 move:=fun ds ι ι' h h' r M hi k=>by
  obtain ⟨ht,xs,ys,rfl,Z⟩:=r
  obtain ⟨f0,f1,hz,hf⟩:=Z.hz
  obtain ⟨a,b,hTO⟩:=Z.hTO
  exact ⟨hi _ ht,xs,ys,rfl,⟨f0,f1,k z (by simp) _ hz,hf⟩,k TI (by simp) _ Z.hTI,⟨a,b,k TO (by simp) _ hTO⟩,Z.s1.move M (fun o e=>k i1 (by simp) o e),Z.s2.move M (fun o e=>k i2 (by simp) o e),Z.ne,List.mem_append_right _ (hi _ ht),
   fun q=>(M.new _ q).elim Z.off fun y=>y _ _ _ Z.hTI rfl⟩
 own:=fun ds ι h r b hb=>by
  obtain ⟨ht,xs,ys,rfl,Z⟩:=r
  obtain ⟨f0,f1,hz,hf⟩:=Z.hz
  simp only [List.mem_cons,List.not_mem_nil,or_false] at hb
  rcases hb with rfl|rfl|rfl|rfl
  ·exact .inr (zObj_soft hz)
  ·exact .inl (List.mem_append_right _ ht)
  ·exact .inr Z.s1.soft
  ·exact .inr Z.s2.soft
 item:=fun d ds ι s Q E r hA h=>by
  obtain ⟨ht,xs,ys,e,Z⟩:=r
  match xs,ys,e,Z with
  |[],_,e,Z=>cases e
  |_::_,[],e,Z=>cases e
  |x::xs,y::ys,e,Z =>
   cases e
   refine zip_next Z fun h' u v k al hp ru rv Z'=>h _ h' k al (.tup (vs:=[u,v]) ⟨_,hp,rfl,0,rfl⟩ (fun q=>?_) (.cons ru (.cons rv .nil))) ⟨ht,xs,ys,rfl,Z'⟩
   obtain ⟨o,y⟩:=hA _ q
   exact absurd (Heap.lt_size y) (Nat.lt_irrefl _)
 done:=fun ι s Q E r h=>by
  obtain ⟨ht,xs,ys,e,Z⟩:=r
  exact zip_done hh Z e.symm h
 go:=fun ds ι s tgt v Q E r h=>by
  obtain ⟨ht,xs,ys,e,Z⟩:=r
  obtain ⟨f0,f1,hz,hf⟩:=Z.hz
  cases v with
  |ref T =>
   refine zip_go Z fun h' hs hv Z'=>h h' (fun b o q e=>(hs.2 b fun y=>q (by rw [y];exact List.mem_cons_self)).trans e) (fun b hb al=>?_) (Mo.one hs (.inr (zObj_soft hz))) ⟨ht,xs,ys,e,Z'⟩
   by_cases q:b=z
   ·rw [q];exact hv
   ·obtain ⟨o,y⟩:=al
    exact ⟨o,(hs.2 b q).trans y⟩
  |_ =>
   have fin:Q () { s with heap:=s.heap }:=h s.heap (fun _ _ _ e=>e) (fun _ _ e=>e) (Mo.more fun _ _ e=>e) ⟨ht,xs,ys,e,Z⟩
   unfold letOwnedTupleGo
   split<;>exact wpAny_pure fin
 self:=fun ds ι s Q E r h=>by
  obtain ⟨ht,xs,ys,e,Z⟩:=r
  exact zip_self Z h
end
end Mine
end
section
set_option maxRecDepth 100000
open PySem PySem.Spec PySem.Calls PyProof.Rows PySem.W
namespace Mine
section
variable {prog:Program}{w:World}{base:Heap}{fl:List PEnv}{ι:Io}{s:Shared}{σ:Hp}{ρ ρ':Ve}{env:PEnv}{NE:NEt}{A:Around}{E:Value→Shared→Prop}{sc:PySem.Scope}
def OwnIn (env:PEnv)(loc:Bool)(own:List Nat):Prop:=∀b∈own,(b=env.locals∨∃y,env.cells.lookup y=some b)∧(loc=true→b=env.locals)
theorem nlook_mem {x:List Nat}{i:Nat}:∀{NE:NEt},nlook NE x=some i→(x,i)∈NE
 |[],h=>by cases h
 |(k,j)::r,h=>by
  unfold nlook at h
  split at h
  ·rename_i q
   cases h
   subst q
   exact List.mem_cons_self
  ·exact List.mem_cons_of_mem _ (nlook_mem h)
theorem name_at {i:Nat}{x:Str}{v:Value}{d:D}{loc:Bool}{Q:Unit→Shared→Prop}(hc:chkN sc NE i x=true)(hsc:env.scope=sc)(hl:loc=true→sc.names.lookup x=some .local)(S:SR prog w base fl env NE ι σ ρ s.heap)(r:VR ι s.heap v d)
  (h:∀h' tk' own,OwnIn env loc own→Ext (fls fl) own ι ι s.heap h'→SR prog w base fl env NE ι σ (ρ.set i (some d)) h'→Q () { s with heap:=h',toks:=tk' }):wpAny (model prog w) A (storeName env x v) Q E s:=by
 unfold chkN at hc
 simp only [Bool.and_eq_true,Bool.or_eq_true,beq_iff_eq] at hc
 obtain ⟨⟨c1,c2⟩,c3⟩:=hc
 subst hsc
 refine store_var S c1 (fun y j hy hj=>?_) ?_ r fun h' tk' b hb hb' e S'=>h h' tk' [b] (fun c hc'=>?_) e S'
 ·have:=List.all_eq_true.mp c2 _ (nlook_mem hy)
  simp only [Bool.or_eq_true,bne_iff_ne,beq_iff_eq] at this
  rcases this with q|q
  ·exact absurd hj q
  ·exact q
 ·rcases c3 with q|q
  ·exact .inl q
  ·exact .inr ⟨q,S.fr.cov x (.inl q)⟩
 ·rw [List.mem_singleton.mp hc']
  exact ⟨hb,fun q=>hb' (hl q)⟩
theorem own_ok {env:PEnv}{own:List Nat}{loc:Bool}(R:FrR base ι s.heap env)(h:OwnIn env loc own):OwnOk ι s.heap own:=fun b hb=>by
 refine .inr ?_
 rcases (h b hb).1 with q|⟨y,q⟩
 ·obtain ⟨m,n⟩:=R.ns
  rw [q]
  exact ns_soft n
 ·obtain ⟨v,n⟩:=R.cell y b q
  exact cell_soft n
theorem chkNs_cons {i:Nat}{is:List Nat}{l:List PySem.Expr}(h:chkNs sc NE (i::is) l=true):∃x p r,l=.Name x p::r∧chkN sc NE i x=true∧chkNs sc NE is r=true:=by
 cases l with
 |nil=>cases h
 |cons e r =>
  cases e<;>first|(cases h;done)|skip
  rename_i x p
  simp only [chkNs,Bool.and_eq_true] at h
  exact ⟨x,p,r,rfl,h.1,h.2⟩
theorem chkNs_nil {l:List PySem.Expr}(h:chkNs sc NE [] l=true):l=[]:=by
 cases l with
 |nil=>rfl
 |cons e r=>cases h
theorem names_each:∀{is:List Nat} {l:List PySem.Expr},chkNs sc NE is l=true→(assignEach l env).length=is.length∧(assignEach l env).findIdx? (·.1)=none
 |[],l,h=>by
  rw [chkNs_nil h]
  exact ⟨rfl,rfl⟩
 |i::is,l,h=>by
  obtain ⟨x,p,r,rfl,_,h2⟩:=chkNs_cons h
  obtain ⟨a,b⟩:=names_each h2
  have e:assignEach (.Name x p::r) env=(false,assign (.Name x p) env)::assignEach r env:=rfl
  rw [e]
  refine ⟨by simp [a],?_⟩
  rw [List.findIdx?_cons]
  simp [b]
theorem names_at {loc:Bool}{Q:Unit→Shared→Prop}:∀{is:List Nat} {l:List PySem.Expr} {vs:List Value} {ds:List D} {s:Shared} {ρ:Ve},chkNs sc NE is l=true→env.scope=sc→(loc=true→l.all (isLocN sc)=true)→SR prog w base fl env NE ι σ ρ s.heap →
  VRs ι s.heap vs ds→setAll is ds ρ=some ρ'→(∀h' tk' own,OwnIn env loc own→Ext (fls fl) own ι ι s.heap h'→SR prog w base fl env NE ι σ ρ' h'→Q () { s with heap:=h',toks:=tk' })→wpAny (model prog w) A (assignInOrder ((assignEach l env).map (·.2)) vs) Q E s
 |[],l,vs,ds,s,ρ,hc,hsc,hl,S,r,e,h=>by
  rw [chkNs_nil hc]
  cases ds with
  |cons _ _=>cases e
  |nil =>
   cases e
   rw [r.zero]
   exact wpAny_assignInOrder_none (h s.heap s.toks [] (fun _ q=>nomatch q) (Ext.refl ..) S)
 |i::is,l,vs,ds,s,ρ,hc,hsc,hl,S,r,e,h=>by
  obtain ⟨x,p,l',rfl,c1,c2⟩:=chkNs_cons hc
  cases ds with
  |nil=>cases e
  |cons d ds =>
   cases r with
   |cons a r =>
    unfold setAll at e
    have e1:(assignEach (.Name x p::l') env).map (·.2)=assign (.Name x p) env::(assignEach l' env).map (·.2):=rfl
    rw [e1]
    refine wpAny_assignInOrder_more (wpAny_assign_Name (name_at (loc:=loc) c1 hsc (fun q=>by
     have:=hl q
     simp only [List.all_cons,Bool.and_eq_true,isLocN,beq_iff_eq] at this
     exact this.1) S a fun h' tk' own ho e1 S1=>?_))
    have hok:OwnOk ι s.heap own:=own_ok S.fr ho
    refine names_at c2 hsc (fun q=>by
     have:=hl q
     simp only [List.all_cons,Bool.and_eq_true] at this
     exact this.2) S1 (r.mono (e1.mo S.ff.soft hok) trivial) e fun h'' tk'' own' ho' e2 S2=>?_
    refine h h'' tk'' (own++own') (fun b hb=>(List.mem_append.mp hb).elim (ho b) (ho' b)) ((e1.widen fun b hb=>List.mem_append_left _ hb).trans (e2.widen fun b hb=>List.mem_append_right _ hb)) S2
theorem setAll_len:∀{is:List Nat} {ds:List D} {ρ ρ':Ve},setAll is ds ρ=some ρ'→is.length=ds.length:=by
 intro is
 induction is with
 |nil=>intro ds ρ ρ' e;cases ds with
  |nil=>rfl
  |cons _ _=>cases e
 |cons i is ih=>intro ds ρ ρ' e;cases ds with
  |nil=>cases e
  |cons d ds=>simp [ih (show setAll is ds _=some ρ' from e)]
theorem assign_at {t:Tg}{target:PySem.Expr}{v:Value}{d:D}{loc:Bool}{Q:Unit→Shared→Prop}(hh:A.handled=none)(hc:chkT sc NE t target=true)(hsc:env.scope=sc)(hl:loc=true→tgL sc t target=true)(S:SR prog w base fl env NE ι σ ρ s.heap)(r:VR ι s.heap v d)(e:t.set d ρ=some ρ')
  (h:∀h' tk' own,OwnIn env loc own→Ext (fls fl) own ι ι s.heap h'→SR prog w base fl env NE ι σ ρ' h'→Q () { s with heap:=h',toks:=tk' }):wpAny (model prog w) A (assign target env v) Q E s:=by
 unfold chkT at hc
 split at hc
 ·rename_i i x p
  cases e
  refine wpAny_assign_Name (name_at (loc:=loc) hc hsc (fun q=>?_) S r h)
  have:=hl q
  simpa [tgL,isLocN] using this
 ·rename_i is l k p
  cases d with
  |tup ds =>
   have e':setAll is ds ρ=some ρ':=e
   obtain ⟨a,vs,rfl,ht,rs⟩:=r.tupAt
   obtain ⟨n1,n2⟩:=names_each (env:=env) hc
   have hlen:is.length=ds.length:=by
    exact setAll_len e'
   refine wpAny_assign_Tuple hh (show s.heap.IsTuple a vs.toArray from ht) (by rw [n1,List.size_toArray,rs.length,hlen]) n2 fun h' hx=>?_
   have k:∀b o,s.heap.get? b=some o→h'.get? b=some o:=fun b o q=>hx b o (Nat.ne_of_lt (Heap.lt_size q)) q
   have E0:Ext (fls fl) [] ι ι s.heap h':=Ext.more k
   have S1:=S.ext E0 (S.hr.more k)
   refine names_at (s:={ s with heap:=h' }) (loc:=loc) hc hsc (fun q=>?_) S1 (rs.mono (Mo.more k) trivial) e' fun h'' tk'' own ho e2 S2=>?_
   ·have:=hl q
    simpa [tgL] using this
   ·exact h h'' tk'' own ho ((E0.widen fun _ q=>nomatch q).trans e2) S2
  |_=>cases e
 ·rename_i i is x px l kk p p2 p3
  cases d with
  |tup ds0 =>
   simp only [Bool.and_eq_true] at hc
   obtain ⟨dx,ds,rfl,e'⟩:∃dx ds,ds0=[dx,.tup ds]∧setAll is ds (ρ.set i (some dx))=some ρ':=by
    match ds0,e with
    |[dx,.tup ds],e=>exact ⟨dx,ds,rfl,e⟩
   obtain ⟨a,vs,rfl,ht,rs⟩:=r.tupAt
   obtain ⟨v1,v2,rfl,r1,r2⟩:=rs.two
   refine wpAny_assign_Tuple hh (show s.heap.IsTuple a [v1,v2].toArray from ht) rfl rfl fun h' hx=>?_
   have k:∀b o,s.heap.get? b=some o→h'.get? b=some o:=fun b o q=>hx b o (Nat.ne_of_lt (Heap.lt_size q)) q
   have E0:Ext (fls fl) [] ι ι s.heap h':=Ext.more k
   have S0:=S.ext E0 (S.hr.more k)
   have hl0:loc≠true:=fun q=>by
    have:=hl q
    cases this
   refine wpAny_assignInOrder_more (wpAny_assign_Name (name_at (s:={ s with heap:=h' }) (loc:=loc) hc.1 hsc (fun q=>absurd q hl0) S0 (r1.mono (Mo.more k) trivial) fun h1 tk1 own ho e1 S1=>?_))
   have r2':VR ι h1 v2 (.tup ds):=(r2.mono (Mo.more k) trivial).mono (e1.mo S0.ff.soft (own_ok (s:={ s with heap:=h' }) S0.fr ho)) trivial
   obtain ⟨a2,us,rfl,ht2,rs2⟩:=r2'.tupAt
   refine wpAny_assignInOrder_more ?_
   obtain ⟨n1,n2⟩:=names_each (env:=env) hc.2
   have hlen:is.length=ds.length:=setAll_len e'
   refine wpAny_assign_Tuple (x1:=kk) (pos:=p) hh (s:={ s with heap:=h1,toks:=tk1 }) (show h1.IsTuple a2 us.toArray from ht2) (by rw [n1,List.size_toArray,rs2.length,hlen]) n2 fun h2 hx2=>?_
   have k2:∀b o,h1.get? b=some o→h2.get? b=some o:=fun b o q=>hx2 b o (Nat.ne_of_lt (Heap.lt_size q)) q
   have E2:Ext (fls fl) [] ι ι h1 h2:=Ext.more k2
   have S2:=S1.ext E2 (S1.hr.more k2)
   refine names_at (s:={ s with heap:=h2,toks:=tk1 }) (loc:=loc) hc.2 hsc (fun q=>absurd q hl0) S2 (rs2.mono (Mo.more k2) trivial) e' fun h3 tk3 own' ho' e3 S3=>?_
   refine wpAny_assignInOrder_none (h h3 tk3 (own++own') (fun b hb=>(List.mem_append.mp hb).elim (ho b) (ho' b)) ?_ S3)
   exact ((E0.widen fun _ q=>nomatch q).trans (e1.widen fun b hb=>List.mem_append_left _ hb)).trans ((E2.widen fun _ q=>nomatch q).trans (e3.widen fun b hb=>List.mem_append_right _ hb))
  |_=>cases e
 ·cases hc
end
end Mine
end
section
set_option maxRecDepth 100000
open PySem PySem.Spec PySem.Calls PyProof.Rows PySem.W
namespace Mine
def clr:List Nat→Ve→Ve
 |[],ρ=>ρ
 |i::is,ρ=>clr is (ρ.set i none)
def tgI:Tg→List Nat
 |.n i=>[i]
 |.p is=>is
 |.q i is=>i::is
theorem clr_at {is:List Nat}{ρ:Ve}{j:Nat}{d:D}(h:(clr is ρ)[j]? = some (some d)):j∉is∧ρ[j]? = some (some d):=by
 induction is generalizing ρ with
 |nil=>exact ⟨by simp,h⟩
 |cons i is ih =>
  obtain ⟨h1,h2⟩:=ih (show (clr is (ρ.set i none))[j]? = some (some d) from h)
  by_cases q:i=j
  ·subst q
   rw [List.getElem?_set] at h2
   simp at h2
  ·rw [List.getElem?_set_ne q] at h2
   exact ⟨by simp [Ne.symm q,h1],h2⟩
theorem setAll_clr {is:List Nat}:∀{ds:List D} {ρ:Ve},setAll is ds (clr is ρ)=setAll is ds ρ:=by
 -- what is cleared is set anew
 have key:∀(is:List Nat) (ds:List D) (ρ τ:Ve),ρ.length=τ.length→(∀j,j∉is→ρ[j]? = τ[j]?)→setAll is ds ρ=setAll is ds τ:=by
  intro is
  induction is with
  |nil =>
   intro ds ρ τ hl h
   have:ρ=τ:=List.ext_getElem? fun j=>h j (by simp)
   rw [this]
  |cons i is ih =>
   intro ds ρ τ hl h
   cases ds with
   |nil=>rfl
   |cons d ds =>
    show setAll is ds (ρ.set i (some d))=setAll is ds (τ.set i (some d))
    refine ih ds _ _ (by simp [hl]) fun j hj=>?_
    by_cases q:i=j
    ·subst q
     rw [List.getElem?_set,List.getElem?_set]
     simp [hl]
    ·rw [List.getElem?_set_ne q,List.getElem?_set_ne q]
     exact h j (by simp [Ne.symm q,hj])
 have len:∀(is:List Nat) (ρ:Ve),(clr is ρ).length=ρ.length:=by
  intro is
  induction is with
  |nil=>intro ρ;rfl
  |cons i is ih=>intro ρ;show (clr is (ρ.set i none)).length=_;rw [ih];simp
 have off:∀(is:List Nat) (ρ:Ve) (j:Nat),j∉is→(clr is ρ)[j]? = ρ[j]? := by
  intro is
  induction is with
  |nil=>intro ρ j _;rfl
  |cons i is ih =>
   intro ρ j h
   show (clr is (ρ.set i none))[j]? = _
   rw [ih _ _ (fun q=>h (by simp [q])),List.getElem?_set_ne (fun q=>h (by simp [q]))]
 intro ds ρ
 exact key is ds _ _ (len is ρ) (off is ρ)
theorem set_clr {t:Tg}{d:D}{ρ:Ve}(hq:∀i is,t≠.q i is):t.set d (clr (tgI t) ρ)=t.set d ρ:=by
 cases t with
 |n i =>
  show some ((ρ.set i none).set i (some d))=some (ρ.set i (some d))
  rw [List.set_set]
 |p is =>
  cases d with
  |tup ds=>exact setAll_clr
  |_=>rfl
 |q i is=>exact absurd rfl (hq i is)
section
variable {prog:Program}{w:World}{base:Heap}{fl:List PEnv}{ι:Io}{h:Heap}{σ:Hp}{ρ:Ve}{env:PEnv}{NE:NEt}{sc scope:PySem.Scope}
theorem closure_of (R:FrR base ι h env)(hf:∀x∈scope.names,x.2=.free→(env.kindOf x.1=some .cell∨env.kindOf x.1=some .free)) :
  ∃cl,closureFor scope env=pure cl∧(∀x c,cl.lookup x=some c→env.cells.lookup x=some c)∧(∀x,(x,NameKind.free)∈scope.names→∃c,cl.lookup x=some c):=by
 have key:∀(names:List (Str×NameKind)) (acc:List (Str×Addr)),(∀x∈names,x.2=.free→(env.kindOf x.1=some .cell∨env.kindOf x.1=some .free))→(∀x c,acc.lookup x=some c→env.cells.lookup x=some c) →
   ∃cl,(forIn names acc fun (p:Str×NameKind) r=>(do
    if p.2==.free then do
     let a ←cellOf env p.1
     pure (ForInStep.yield ((p.1,a)::r))
    else pure (ForInStep.yield r):Sem (ForInStep (List (Str×Addr)))))=pure cl∧(∀x c,cl.lookup x=some c→env.cells.lookup x=some c)∧(∀x,((x,NameKind.free)∈names∨∃c,acc.lookup x=some c)→∃c,cl.lookup x=some c):=by
  intro names
  induction names with
  |nil=>exact fun acc _ ha=>⟨acc,rfl,ha,fun x q=>q.elim (fun z=>nomatch z) id⟩
  |cons p names ih =>
   intro acc hn ha
   obtain ⟨x,k⟩:=p
   rw [List.forIn_cons]
   by_cases hk:k=.free
   ·subst hk
    obtain ⟨c,hc⟩:=R.cov x (hn (x,.free) List.mem_cons_self rfl)
    have e1:cellOf env x=pure c:=by unfold cellOf;rw [hc]
    have ha':∀y c',((x,c)::acc).lookup y=some c'→env.cells.lookup y=some c':=fun y c' q=>by
     rw [List.lookup_cons] at q
     cases hb:y==x with
     |true =>
      rw [hb] at q
      cases q
      rw [beq_iff_eq] at hb
      rw [hb]
      exact hc
     |false =>
      rw [hb] at q
      exact ha y c' q
    obtain ⟨cl,e2,q1,q2⟩:=ih ((x,c)::acc) (fun y hy=>hn y (List.mem_cons_of_mem _ hy)) ha'
    refine ⟨cl,?_,q1,fun y hy=>q2 y ?_⟩
    ·simp only [beq_self_eq_true,if_true,e1,pure_bind]
     exact e2
    ·rcases hy with hy|⟨c',hc'⟩
     ·rcases List.mem_cons.mp hy with z|z
      ·cases z
       exact .inr ⟨c,by rw [List.lookup_cons,beq_self_eq_true]⟩
      ·exact .inl z
     ·right
      rw [List.lookup_cons]
      cases y==x with
      |true=>exact ⟨c,rfl⟩
      |false=>exact ⟨c',hc'⟩
   ·obtain ⟨cl,e2,q1,q2⟩:=ih acc (fun y hy=>hn y (List.mem_cons_of_mem _ hy)) ha
    have hb:(k==NameKind.free)=false:=by simpa using hk
    refine ⟨cl,?_,q1,fun y hy=>q2 y (hy.imp (fun z=>?_) id)⟩
    ·simp only [hb,Bool.false_eq_true,if_false,pure_bind]
     exact e2
    ·rcases List.mem_cons.mp z with z|z
     ·cases z
      exact absurd rfl hk
     ·exact z
 obtain ⟨cl,e,q1,q2⟩:=key scope.names [] hf (fun x c q=>by cases q)
 refine ⟨cl,?_,q1,fun x hx=>q2 x (.inl hx)⟩
 show ((forIn scope.names [] fun (p:Str×NameKind) r=>(do
    if p.2==.free then do
     let a ←cellOf env p.1
     pure (ForInStep.yield ((p.1,a)::r))
    else pure (ForInStep.yield r):Sem (ForInStep (List (Str×Addr))))) >>= fun cs=>pure cs)=pure cl
 rw [e]
 rfl
theorem okC_names (h:okC scope sc=true):scope.kind=.function∧∀p∈scope.names,p.2≠.cell∧scope.names.lookup p.1=some p.2∧(p.2=.free→sc.names.lookup p.1=some .cell∨sc.names.lookup p.1=some .free):=by
 unfold okC at h
 simp only [Bool.and_eq_true,beq_iff_eq] at h
 refine ⟨h.1.1,fun p hp=>?_⟩
 have:=List.all_eq_true.mp h.1.2 p hp
 simp only [Bool.and_eq_true,Bool.or_eq_true,bne_iff_ne,beq_iff_eq] at this
 obtain ⟨⟨a,b⟩,c⟩:=this
 exact ⟨a,b,fun q=>by rcases c with (c|c)|c;exact absurd q c;exact .inl c;exact .inr c⟩
theorem relab_free {x:Str}:∀{names:List (Str×NameKind)},names.lookup x=some .free →
  (names.map fun (n,k)=>if (k==NameKind.free&&env.scope.kind==.function&&env.kindOf n==some .cell) then (n,NameKind.cell) else (n,k)).lookup x=some .cell ∨
  (names.map fun (n,k)=>if (k==NameKind.free&&env.scope.kind==.function&&env.kindOf n==some .cell) then (n,NameKind.cell) else (n,k)).lookup x=some .free
 |[],h=>by simp at h
 |(n,k)::r,h=>by
  rw [List.lookup_cons] at h
  show List.lookup x ((if (k==NameKind.free&&env.scope.kind==.function&&env.kindOf n==some .cell)=true then (n,NameKind.cell) else (n,k))::_)=_∨List.lookup x ((if (k==NameKind.free&&env.scope.kind==.function&&env.kindOf n==some .cell)=true then (n,NameKind.cell) else (n,k))::_)=_
  cases hx:x==n with
  |true =>
   rw [hx] at h
   cases h
   split
   ·left;rw [List.lookup_cons,hx]
   ·right;rw [List.lookup_cons,hx]
  |false =>
   rw [hx] at h
   have ih:=@relab_free x r h
   split<;>(simp only [List.lookup_cons,hx];exact ih)
theorem relab_back {x:Str}{k:NameKind}:∀{names:List (Str×NameKind)},(names.map fun (n,k)=>if (k==NameKind.free&&env.scope.kind==.function&&env.kindOf n==some .cell) then (n,NameKind.cell) else (n,k)).lookup x=some k →
  names.lookup x=some k∨(names.lookup x=some .free∧k=.cell)
 |[],h=>by simp at h
 |(n,k')::r,h=>by
  have h':List.lookup x ((if (k'==NameKind.free&&env.scope.kind==.function&&env.kindOf n==some .cell)=true then (n,NameKind.cell) else (n,k'))::(r.map fun (n,k)=>if (k==NameKind.free&&env.scope.kind==.function&&env.kindOf n==some .cell) then (n,NameKind.cell) else (n,k)))=some k:=h
  rw [List.lookup_cons]
  cases hx:x==n with
  |true =>
   split at h'
   ·rename_i q
    rw [List.lookup_cons,hx] at h'
    cases h'
    simp only [Bool.and_eq_true,beq_iff_eq] at q
    rw [q.1.1]
    exact .inr ⟨rfl,rfl⟩
   ·rw [List.lookup_cons,hx] at h'
    cases h'
    exact .inl rfl
  |false =>
   split at h'<;>(rw [List.lookup_cons,hx] at h';exact relab_back h')
theorem nlook_append {a b:NEt}{x:List Nat}{i:Nat}(h:nlook (a++b) x=some i):(x,i)∈a∨nlook b x=some i:=by
 induction a with
 |nil=>exact .inr h
 |cons p a ih =>
  obtain ⟨k,j⟩:=p
  have h':(if k=x then some j else nlook (a++b) x)=some i:=h
  by_cases q:k=x
  ·rw [if_pos q] at h'
   cases h'
   subst q
   exact .inl List.mem_cons_self
  ·rw [if_neg q] at h'
   exact (ih h').imp (List.mem_cons_of_mem _) id
theorem nlook_filter {x:List Nat}{i:Nat}{f:List Nat→Bool}:∀{b:NEt},nlook (b.filter fun p=>f p.1) x=some i→nlook b x=some i∧f x=true
 |[],h=>by cases h
 |(k,j)::b,h=>by
  rw [List.filter_cons] at h
  by_cases hf:f k=true
  ·rw [if_pos hf] at h
   have h':(if k=x then some j else nlook (b.filter fun p=>f p.1) x)=some i:=h
   show (if k=x then some j else nlook b x)=some i∧_
   by_cases q:k=x
   ·rw [if_pos q] at h' ⊢
    exact ⟨h',q▸hf⟩
   ·rw [if_neg q] at h' ⊢
    exact nlook_filter h'
  ·rw [if_neg hf] at h
   obtain ⟨h1,h2⟩:=nlook_filter h
   have q:¬k=x:=fun z=>hf (z▸h2)
   show (if k=x then some j else nlook b x)=some i∧_
   rw [if_neg q]
   exact ⟨h1,h2⟩
theorem tgN_ids {t:Tg}{target:PySem.Expr}{x:List Nat}{i:Nat}(h:(x,i)∈tgN t target):i∈tgI t:=by
 unfold tgN at h
 split at h
 ·rw [List.mem_singleton] at h
  cases h
  simp [tgI]
 ·rename_i is l k p
  obtain ⟨⟨e,j⟩,h1,h2⟩:=List.mem_filterMap.mp h
  have h3:=(List.of_mem_zip h1).2
  cases e<;>simp at h2
  obtain ⟨_,rfl⟩:=h2
  exact h3
 ·cases h
theorem SR.comp {t:Tg}{target:PySem.Expr}{cl:List (Str×Addr)}{C:Addr}{m:Str→Option Value}(S:SR prog w base fl env NE ι σ ρ h)(hsc:env.scope=sc)(ok:okC scope sc=true)(hC:h.Ns C m)(hC1:C∉adr ι)(hC2:base.get? C=none)
  (q1:∀x c,cl.lookup x=some c→env.cells.lookup x=some c) (q2:∀x,(x,NameKind.free)∈scope.names→∃c,cl.lookup x=some c):SR prog w base fl (compEnvC scope cl C env) (neC scope t target NE) ι σ (clr (tgI t) ρ) h:=by
 obtain ⟨hk,hn⟩:=okC_names ok
 subst hsc
 have kind:∀x,(compEnvC scope cl C env).kindOf x=((scope.names.map fun (n,k)=>if (k==NameKind.free&&env.scope.kind==.function&&env.kindOf n==some .cell) then (n,NameKind.cell) else (n,k)).lookup x):=fun x=>rfl
 refine ⟨S.hr,S.ff,⟨hk,S.fr.glob,S.fr.blt,⟨m,hC⟩,fun x c e=>S.fr.cell x c (q1 x c e),fun x y c e e'=>S.fr.cinj x y c (q1 x c e) (q1 y c e'),fun x hx=>?_,⟨hC1,hC2⟩,fun x c e=>S.fr.offC x c (q1 x c e),fun hx=>?_⟩,?_,S.tp⟩
 ·rw [kind] at hx
  have free:scope.names.lookup x=some .free→∃c,cl.lookup x=some c:=fun z=>q2 x (mem_of_lookup z)
  rcases hx with hx|hx
  ·rcases relab_back hx with z|⟨z,_⟩
   ·exact absurd rfl (hn _ (mem_of_lookup z)).1
   ·exact free z
  ·rcases relab_back hx with z|⟨z,_⟩
   ·exact free z
   ·exact free z
 ·have fr:scope.names.lookup defN=some .free:=by
   rcases hx with hx|hx
   ·rcases relab_back (x:=defN) hx with z|⟨z,y⟩
    ·exact absurd rfl (hn _ (mem_of_lookup z)).1
    ·exact z
   ·rcases relab_back (x:=defN) hx with z|⟨z,y⟩
    ·exact z
    ·cases y
  exact S.fr.cd ((hn _ (mem_of_lookup fr)).2.2 rfl)
 ·intro x i d hi hd
  obtain ⟨n1,n2⟩:=clr_at hd
  rcases nlook_append hi with z|z
  ·exact absurd (tgN_ids z) n1
  ·obtain ⟨z1,z2⟩:=nlook_filter (f:=fun k=>scope.names.contains (toS k,NameKind.free)) z
   rw [toS_cps] at z2
   have hm:(x,NameKind.free)∈scope.names:=List.contains_iff_mem.mp z2
   obtain ⟨_,l1,l2⟩:=hn _ hm
   have V:=S.lc x i d z1 n2
   cases V with
   |loc k' n' e' v' =>
    have k'':env.scope.names.lookup x=some .local:=k'
    rcases l2 rfl with y|y
    ·have:env.scope.names.lookup x=some .cell:=y
     rw [k''] at this
     cases this
    ·have:env.scope.names.lookup x=some .free:=y
     rw [k''] at this
     cases this
   |cell k' c' n' v' =>
    obtain ⟨c2,hc2⟩:=q2 x hm
    have:=q1 x c2 hc2
    rw [c'] at this
    cases this
    refine .cell ?_ hc2 n' v'
    rw [kind]
    exact relab_free l1
end
end Mine
end
section
set_option maxRecDepth 100000
open PySem PySem.Spec PySem.Calls PyProof.Rows PySem.W
namespace Mine
section
variable {prog:Program}{w:World}{A:Around}{E:Value→Shared→Prop}{R:Result→Shared→Prop}{s:Shared}
abbrev tests (ifs:List PySem.Expr)(env:PEnv):Sem Bool :=
 forIn ifs true fun c r=>if r=true then do let ok ←PySem.isTrue c env (eval c env);pure (ForInStep.yield ok) else pure (ForInStep.yield r)
theorem comp_turn {elt target iter:PySem.Expr}{ifs:List PySem.Expr}{scope:PySem.Scope}{pos:Pos}{it acc:Value}{env:PEnv}
  (h:wpAny (model prog w) A (pyNext it) (fun r s₁=>match r with
   |none=>R (.ok .next) s₁
   |some v=>wpAny (model prog w) A (letOwnedTupleGo target it v) (fun _ s₂=>wpAny (model prog w) A (assign target env v) (fun _ s₃=>wpAny (model prog w) A (tests ifs env) (fun ok s₄ =>
     if ok=true then wpAny (model prog w) A (eval elt env) (fun x s₅=>wpAny (model prog w) A (call (.builtin "list.append") [acc,x])
      (fun _ s₆=>codeAny (model prog w) A (.compLoop (.ListComp elt [⟨target,iter,ifs,0⟩] scope pos) 0 it acc env) R s₆) (notedBy (model prog w) A env fun e s'=>R (.error e) s') s₅) (notedBy (model prog w) A env fun e s'=>R (.error e) s') s₄
     else codeAny (model prog w) A (.compLoop (.ListComp elt [⟨target,iter,ifs,0⟩] scope pos) 0 it acc env) R s₄) (notedBy (model prog w) A env fun e s'=>R (.error e) s') s₃) (notedBy (model prog w) A env fun e s'=>R (.error e) s') s₂)
     (notedBy (model prog w) A env fun e s'=>R (.error e) s') s₁) (notedBy (model prog w) A env fun e s'=>R (.error e) s') s) :
  codeAny (model prog w) A (.compLoop (.ListComp elt [⟨target,iter,ifs,0⟩] scope pos) 0 it acc env) R s:=by
 refine codeAny_of_tree ?_
 show wpAny _ A ((compTurn (.ListComp elt [⟨target,iter,ifs,0⟩] scope pos) 0 it acc env).onRaise (fun x=>do noteFrame x env;theTreesLotGoes x)) _ _ s
 refine wpAny_noted ?_
 rw [compTurn_list]
 refine wpAny_bind (wpAny_standAt (wpAny_bind (wpAny_mono h (fun r s₁ h₁=>?_) fun _ _ h'=>h')))
 cases r with
 |none=>exact wpAny_pure h₁
 |some v =>
  refine wpAny_bind (wpAny_mono h₁ (fun _ s₂ h₂=>?_) fun _ _ h'=>h')
  refine wpAny_bind (wpAny_mono h₂ (fun _ s₃ h₃=>wpAny_bind (wpAny_mono h₃ (fun ok s₄ h₄=>?_) fun _ _ h'=>h')) fun _ _ h'=>h')
  cases ok with
  |false=>exact wpAny_pure ⟨rfl,h₄⟩
  |true=>exact wpAny_bind (wpAny_bind (wpAny_mono h₄ (fun x s₅ h₅=>wpAny_bind (wpAny_mono h₅ (fun _ s₆ h₆=>wpAny_pure (wpAny_pure ⟨rfl,h₆⟩)) fun _ _ h'=>h')) fun _ _ h'=>h'))
end
theorem Ext.rehid {FL own:List Nat}{ι ι':Io}{h h':Heap}(E:Ext FL own ι ι' h h')(hid:List Nat):Ext FL own ⟨ι.nums,hid⟩ ⟨ι'.nums,hid⟩ h h':=⟨E.pre,rfl,E.live,E.new,E.keep,E.slot⟩
section
variable {prog:Program}{w:World}{base:Heap}{fl:List PEnv}{ι ι':Io}{h h':Heap}{σ σ':Hp}
theorem Mo.less (hid:List Nat)(hs:∀b∈hid,b∈ι.hid):Mo ι ⟨ι.nums,hid⟩ h h :=
 ⟨List.prefix_refl _,fun b hb=>by
  rcases List.mem_append.mp hb with q|q
  ·exact .inl (adr_nad q)
  ·exact .inl (List.mem_append_right _ (hs b q)),fun b o _ _ e _ _=>e⟩
theorem HR.less (H:HR prog w base ι σ h)(hid:List Nat)(hs:∀b∈hid,b∈ι.hid):HR prog w base ⟨ι.nums,hid⟩ σ h where
 stay:=H.stay
 len:=H.len
 obj:=fun l o e=>let ⟨p,e1,r⟩:=H.obj l o e;⟨p,e1,r.move (Mo.less hid hs) H.toff fun b _ ob q=>q⟩
 nd:=H.nd
 off:=fun b hb=>by
  rcases List.mem_append.mp hb with q|q
  ·exact H.off b (adr_nad q)
  ·exact H.off b (List.mem_append_right _ (hs b q))
 hids:=fun b hb=>H.hids b (hs b hb)
 sys:=H.sys
 low:=H.low
structure Zc (prog:Program)(w:World)(base:Heap)(fl:List PEnv)(ι0:Io)(h0:Heap)(C a:Nat)(foot:List Nat)(ι:Io)(σ:Hp)(h:Heap):Prop where
 hr:HR prog w base ι σ h
 X:Ext (fls fl) [] ι0 ⟨ι.nums,ι0.hid⟩ h0 h
 hid:∀b∈ι0.hid,b∈ι.hid
 ah:a∈ι.hid
 ff:FramesR base ι h fl
 ns:∃m,h.Ns C m
 off:C∉adr ι
 st0:base.StaysIn h0
 al0:∀b∈ι0.hid,∃o,h0.get? b=some o
 fresh:∀b∈C::a::foot,h0.get? b=none∧b∉nad ι.nums∧(∃o,h.get? b=some o)∧b∉fls fl
section
variable {ι0:Io}{h0:Heap}{C a:Nat}{foot:List Nat}
theorem Zc.baseNone (z:Zc prog w base fl ι0 h0 C a foot ι σ h){b:Nat}(hb:b∈C::a::foot):base.get? b=none:=by
 cases e:base.get? b with
 |none=>rfl
 |some o =>
  have:=z.st0 b o e
  rw [(z.fresh b hb).1] at this
  cases this
theorem Zc.step {own:List Nat}(z:Zc prog w base fl ι0 h0 C a foot ι σ h)(E:Ext (fls fl) own ι ι' h h')(ho:∀b∈own,b∈C::a::foot)(H':HR prog w base ι' σ' h')(hC:∃m,h'.Ns C m):Zc prog w base fl ι0 h0 C a foot ι' σ' h' where
 hr:=H'
 X:=z.X.drop (E.rehid ι0.hid) fun b hb=>.inr (z.fresh b (ho b hb)).1
 hid:=fun b hb=>by rw [E.same];exact z.hid b hb
 ah:=by rw [E.same];exact z.ah
 ff:=z.ff.ext E fun b hb q=>absurd q (z.fresh b (ho b hb)).2.2.2
 ns:=hC
 off:=fun q=>(E.newA C q).elim z.off fun y=>by
  obtain ⟨m,o,_,_,e,_⟩:=z.ns
  rw [y] at e
  cases e
 st0:=z.st0
 al0:=z.al0
 fresh:=fun b hb=>by
  obtain ⟨h1,h2,⟨o,h3⟩,h4⟩:=z.fresh b hb
  refine ⟨h1,fun q=>?_,E.live b o h3,h4⟩
  rcases E.new b q with y|y
  ·exact h2 y
  ·rw [y] at h3
   cases h3
theorem Zc.out (z:Zc prog w base fl ι0 h0 C a foot ι σ h):HR prog w base ⟨ι.nums,ι0.hid⟩ σ h:=z.hr.less _ z.hid
theorem Zc.touch (z:Zc prog w base fl ι0 h0 C a foot ι σ h)(x:Touch h0 (fls fl) h h')(hb:∀b o,base.get? b=some o→∃o',h0.get? b=some o'):Zc prog w base fl ι0 h0 C a foot ι σ h' where
 hr:=z.hr.touch x z.ff hb
 X:=x.ext z.X
 hid:=z.hid
 ah:=z.ah
 ff:=z.ff.touch x
 ns:=by
  obtain ⟨m,n⟩:=z.ns
  obtain ⟨o,es,ep,e,d,r⟩:=id n
  exact ⟨m,o,es,ep,x.nf C o e (z.fresh C List.mem_cons_self).2.2.2 (fun vs q=>by rw [d] at q;cases q),d,r⟩
 off:=z.off
 st0:=z.st0
 al0:=z.al0
 fresh:=fun b hb=>by
  obtain ⟨h1,h2,⟨o,h3⟩,h4⟩:=z.fresh b hb
  exact ⟨h1,h2,x.live b o h3,h4⟩
theorem Zc.same (z:Zc prog w base fl ι0 h0 C a foot ι σ h)(hs:Heap.SameBut C h h')(hv:∃m,h'.Ns C m):Zc prog w base fl ι0 h0 C a foot ι σ h':=by
 have hC:=z.fresh C List.mem_cons_self
 have hv':∃o,h'.get? C=some o:=let ⟨_,o,_,_,e,_⟩:=hv;⟨o,e⟩
 have soft:∀o,h.get? C=some o→∀xs n,o.data≠.seq xs n:=let ⟨m,n⟩:=z.ns;ns_soft n
 have E:Ext (fls fl) [C] ι ι h h':=⟨List.prefix_refl _,rfl,live_but hv' fun b o q e=>(hs.2 b q).trans e,fun _ y=>.inl y,fun b o e _ _ q=>(hs.2 b fun y=>q (y▸List.mem_singleton.mpr rfl)).trans e,fun b o e _ q=>⟨o.slots,(hs.2 b fun y=>q (y▸List.mem_singleton.mpr rfl)).trans e⟩⟩
 refine z.step E (fun b hb=>by rw [List.mem_singleton.mp hb];exact List.mem_cons_self) (z.hr.but (W:=[C]) (fun b o q e=>(hs.2 b fun y=>q (y▸List.mem_singleton.mpr rfl)).trans e) (fun b hb=>.inr (by rw [List.mem_singleton.mp hb];exact soft)) (fun b hb=>by rw [List.mem_singleton.mp hb];exact ⟨hC.2.1,z.baseNone List.mem_cons_self⟩) (fun b hb _=>by rw [List.mem_singleton.mp hb];exact hv')) hv
theorem Zc.but (z:Zc prog w base fl ι0 h0 C a foot ι σ h)(hs:Heap.SameBut C h h'):Ext (fls fl) [] ι0 ⟨ι.nums,ι0.hid⟩ h0 h'∧HR prog w base ⟨ι.nums,ι0.hid⟩ σ h'∧FramesR base ⟨ι.nums,ι0.hid⟩ h' fl:=by
 obtain ⟨c1,c2,_,c4⟩:=z.fresh C List.mem_cons_self
 have k:∀b o,b≠C→h.get? b=some o→h'.get? b=some o:=fun b o q e=>(hs.2 b q).trans e
 have soft:∀o,h.get? C=some o→∀xs n,o.data≠.seq xs n:=let ⟨m,n⟩:=z.ns;ns_soft n
 have old:∀b o,h0.get? b=some o→b≠C:=fun b o e q=>by rw [q,c1] at e;cases e
 refine ⟨⟨z.X.pre,z.X.same,fun b o e=>?_,z.X.new,fun b o e n1 n2 n3=>k b o (old b o e) (z.X.keep b o e n1 n2 n3),fun b o e n1 n2=>?_⟩,?_,?_⟩
 ·obtain ⟨o',e'⟩:=z.X.live b o e
  exact ⟨o',k b o' (old b o e) e'⟩
 ·obtain ⟨sl,e'⟩:=z.X.slot b o e n1 n2
  exact ⟨sl,k b _ (old b o e) e'⟩
 ·refine z.out.but (W:=[C]) (fun b o q e=>k b o (fun y=>q (y▸List.mem_singleton.mpr rfl)) e) (fun b hb=>.inr (by rw [List.mem_singleton.mp hb];exact soft)) (fun b hb=>by rw [List.mem_singleton.mp hb];exact ⟨c2,z.baseNone List.mem_cons_self⟩) (fun b hb q=>?_)
  rw [List.mem_singleton.mp hb] at q
  obtain ⟨o,e⟩:=z.al0 C q
  rw [c1] at e
  cases e
 ·have ns:∀b∈fls fl,∃m,h'.Ns b m:=fun b hb=>by
   obtain ⟨m,o,es,ep,e,r⟩:=z.ff.ns b hb
   exact ⟨m,o,es,ep,k b o (fun q=>c4 (q▸hb)) e,r⟩
  refine ⟨frames_of z.ff.ff ns,ns,fun b hb q=>z.ff.off b hb ?_⟩
  rcases List.mem_append.mp q with q|q
  ·exact adr_nad q
  ·exact List.mem_append_right _ (z.hid b q)
end
end
section
variable {prog:Program}{w:World}{base:Heap}{fl:List PEnv}{ι0 ι:Io}{s0 s:Shared}{σ:Hp}{A:Around}{E:Value→Shared→Prop}{C a:Nat}{foot:List Nat}{cenv:PEnv}{L:Nat}
theorem ExcR.but {lo h h':Heap}{e Cc:Nat}{tr:Bool}{b:Nat}(X:ExcR base lo h e Cc tr)(hs:Heap.SameBut b h h')(hb:∀o,h.get? b=some o→∀vs,o.data≠.fields vs):ExcR base lo h' e Cc tr:=by
 obtain ⟨oe,vs,e1,c1,d1,l1,b1,q⟩:=X
 have he:e≠b:=fun z=>hb oe (z▸e1) vs d1
 refine ⟨oe,vs,(hs.2 e he).trans e1,c1,d1,l1,b1,?_⟩
 rcases q with q|⟨T,oT,ts,fv,t1,t2,t3,t4,t5,t6,t7⟩
 ·exact .inl q
 ·have hT:T≠b:=fun z=>hb oT (z▸t5) ts t6
  exact .inr ⟨T,oT,ts,fv,t1,t2,t3,t4,(hs.2 T hT).trans t5,t6,t7⟩
theorem comp_raise {x c:Nat}{σ₁:Hp}{tr:Bool}{Q:Value→Shared→Prop}(hf:A.frames=some fl)(hd:∃e0 r,fl=e0::r∧e0.frame=cenv.frame)(hL:cenv.frame=some L)(z:Zc prog w base fl ι0 s0.heap C a foot ι σ₁ s.heap)(hs:∃t,s={ s0 with heap:=s.heap,toks:=t })(X:ExcR base s0.heap s.heap x (clsA c) tr)
  (O:OutG prog w base fl VR ι0 s0 (.ex c σ₁) Q E):notedBy (model prog w) A cenv (fun e s'=>compPost (model prog w) A E none Q (.ref a) C (.error e) s') (.ref x) s:=by
 have hb0:∀b o,base.get? b=some o→∃o',s0.heap.get? b=some o':=fun b o e=>⟨o,z.st0 b o e⟩
 refine noteFrame_at hf hd z.ff.ff hL X z.hr.stay z.X.live fun h₁ t₁ X₁=>?_
 have z₁:=z.touch t₁ hb0
 obtain ⟨m,n⟩:=z₁.ns
 refine ⟨m,n,fun h₂ hs₂ cenv' hc'=>?_⟩
 have nC:∀o,h₁.get? C=some o→∀vs,o.data≠.fields vs:=fun o e vs d=>by
  obtain ⟨o',es,ep,e',d',_⟩:=n
  rw [e] at e'
  cases e'
  rw [d] at d'
  cases d'
 obtain ⟨E₂,H₂,F₂⟩:=z₁.but hs₂
 have X₂:=X₁.but hs₂ nC
 obtain ⟨t0,hs⟩:=hs
 rw [hs]
 unfold PySem.passOn
 refine wpAny_bind (traced_field (s:={ s0 with heap:=h₂,toks:=t0 }) X₂ fun T=>?_)
 rw [if_neg (by simp)]
 refine wpAny_bind (setFlight_at (s:={ s0 with heap:=h₂,toks:=t0 }) F₂.ff X₂ fun h₃ t₃ X₃=>?_)
 refine wpAny_throw ?_
 exact O x ⟨ι.nums,ι0.hid⟩ h₃ t0 (t₃.ext E₂) (H₂.touch t₃ F₂ hb0) X₃.loose
theorem comp_conv {α β:Type}{rel:Io→Heap→β→α→Prop}{x:M α}{f:α→M D}{Q:Value→Shared→Prop}{Q':β→Shared→Prop}(hf:A.frames=some fl)(hd:∃e0 r,fl=e0::r∧e0.frame=cenv.frame)(hL:cenv.frame=some L)
  (z:Zc prog w base fl ι0 s0.heap C a foot ι σ s.heap) (hs:∃t,s={ s0 with heap:=s.heap,toks:=t }) (O:OutG prog w base fl VR ι0 s0 ((x.bind f) σ) Q E)
  (k:∀v d σ₁ ι₁ s₁,x σ=.ok d σ₁→Ext (fls fl) [] ι ι₁ s.heap s₁.heap→Zc prog w base fl ι0 s0.heap C a foot ι₁ σ₁ s₁.heap→rel ι₁ s₁.heap v d→(∃t,s₁={ s0 with heap:=s₁.heap,toks:=t })→OutG prog w base fl VR ι0 s0 (f d σ₁) Q E→Q' v s₁) :
  OutG prog w base fl rel ι s (x σ) Q' (notedBy (model prog w) A cenv fun e s'=>compPost (model prog w) A E none Q (.ref a) C (.error e) s'):=by
 obtain ⟨t0,hs0⟩:=hs
 have step:∀{ι₁:Io} {σ₁:Hp} {h₁:Heap},Ext (fls fl) [] ι ι₁ s.heap h₁→HR prog w base ι₁ σ₁ h₁→Zc prog w base fl ι0 s0.heap C a foot ι₁ σ₁ h₁:=fun e H=>by
  obtain ⟨m,n⟩:=z.ns
  exact z.step e (fun _ q=>nomatch q) H ⟨m,ns_ext n e z.off (fun q=>nomatch q)⟩
 unfold M.bind at O
 cases hx:x σ with
 |ok d σ₁ =>
  rw [hx] at O
  intro v ι₁ h₁ tk₁ e H r
  exact k v d σ₁ ι₁ _ hx e (step e H) r ⟨tk₁,by rw [hs0]⟩ O
 |ex c σ₁ =>
  rw [hx] at O
  intro xa ι₁ h₁ tk₁ e H X
  exact comp_raise (s:={ s with heap:=h₁,toks:=tk₁ }) hf hd hL (step e H) ⟨tk₁,by rw [hs0]⟩ (X.lower z.X.live) O
 |no =>
  rw [hx] at O
  exact O.elim
end
end Mine
end
section
set_option maxRecDepth 100000
open PySem PySem.Spec PySem.Calls PyProof.Rows PySem.W
namespace Mine
section
variable {prog:Program}{w:World}{base:Heap}{K:Frag}{mg mb:Str→Option Value}{n:Nat}{cf:Nat→List D→M D}
variable {fl:List PEnv}{ι0 ι:Io}{s0 s:Shared}{σ:Hp}{ρ ρ':Ve}{A:Around}{cenv:PEnv}{NE:NEt}{sc:PySem.Scope}{E:Value→Shared→Prop}{C a L:Nat}{foot:List Nat}
def TS (prog:Program)(w:World)(base:Heap)(n:Nat)(fl:List PEnv)(sc:PySem.Scope)(NE:NEt)(ifs:List PySem.Expr)(cnd:Ve→M D):Prop:=∀(A:Around) (env:PEnv) (ι:Io) (s:Shared) (σ:Hp) (ρ:Ve) (Q:Bool→Shared→Prop) (E:Value→Shared→Prop),
 A.frames=some fl→Room A n→env.scope=sc→SR prog w base fl env NE ι σ ρ s.heap→OutG prog w base fl relB ι s (((cnd ρ).bind chkB) σ) Q E→wpAny (model prog w) A (tests ifs env) Q E s
theorem ts_nil:TS prog w base n fl sc NE [] (fun _=>M.ret (.bool true)):=by
 intro A env ι s σ ρ Q E hf Rm hsc S O
 exact wpAny_tests_nil (O.now S.hr rfl)
theorem ts_one {c:Ex}{e:PySem.Expr}(h:TrOK prog w base K n cf c)(hc:chkE K c sc NE e=true):TS prog w base n fl sc NE [e] (evE clsT cf c):=by
 intro A env ι s σ ρ Q E hf Rm hsc S O
 exact wpAny_tests_one (h fl A sc NE e env ι s σ ρ Q E hc hf Rm hsc S (by rw [evB_eq];exact O))
theorem setAll_off:∀{is:List Nat} {ds:List D} {ρ ρ':Ve},setAll is ds ρ=some ρ'→∀j,j∉is→ρ'[j]? = ρ[j]? := by
 intro is
 induction is with
 |nil=>intro ds ρ ρ' e j _;cases ds with
  |nil=>cases e;rfl
  |cons _ _=>cases e
 |cons i is ih=>intro ds ρ ρ' e j hj;cases ds with
  |nil=>cases e
  |cons d ds =>
   rw [ih (show setAll is ds (ρ.set i (some d))=some ρ' from e) j (fun q=>hj (by simp [q])),List.getElem?_set_ne (fun q=>hj (by simp [q]))]
theorem set_off {t:Tg}{d:D}(e:t.set d ρ=some ρ')(hq:∀i is,t≠.q i is):∀j,j∉tgI t→ρ'[j]? = ρ[j]? := by
 cases t with
 |n i =>
  cases e
  intro j hj
  rw [List.getElem?_set_ne (fun q=>hj (by simp [tgI,q]))]
 |p is =>
  cases d with
  |tup ds=>exact setAll_off e
  |_=>cases e
 |q i is=>exact absurd rfl (hq i is)
theorem SR.unset {t:Tg}{d:D}{h:Heap}(S:SR prog w base fl cenv NE ι σ ρ' h)(e:t.set d ρ=some ρ')(hq:∀i is,t≠.q i is):SR prog w base fl cenv NE ι σ (clr (tgI t) ρ) h :=
 ⟨S.hr,S.ff,S.fr,fun x i d' hi hd=>by
  obtain ⟨n1,n2⟩:=clr_at hd
  exact S.lc x i d' hi (by rw [set_off e hq i n1];exact n2),S.tp⟩
theorem notOwn_seq {b:Nat}{o:Obj}{xs:Array Value}{k:Nat}{h:Heap}(R:FrR base ι h cenv)(e:h.get? b=some o)(d:o.data=.seq xs k):NotOwn cenv b:=by
 refine ⟨?_,fun x c hc=>?_⟩
 ·rintro rfl
  obtain ⟨m,n⟩:=R.ns
  exact ns_soft n o e xs k d
 ·rintro rfl
  obtain ⟨v,n⟩:=R.cell x b hc
  exact cell_soft n o e xs k d
abbrev nx (prog:Program)(w:World)(A:Around)(cenv:PEnv)(E Q:Value→Shared→Prop)(a C:Nat):Value→Shared→Prop :=
 notedBy (model prog w) A cenv fun e s'=>compPost (model prog w) A E none Q (.ref a) C (.error e) s'
theorem HR.butLess {W hid:List Nat}{h h':Heap}(H:HR prog w base ι σ h)(k:∀b o,b∉W→h.get? b=some o→h'.get? b=some o)(hW:∀b∈W,b∈adr ι∨∀o,h.get? b=some o→∀xs n,o.data≠.seq xs n)
  (hn:∀b∈W,b∉nad ι.nums∧base.get? b=none) (hs:∀b∈hid,b∈ι.hid∧b∉W):HR prog w base ⟨ι.nums,hid⟩ σ h' where
 stay:=fun b o e=>k b o (fun z=>by rw [(hn b z).2] at e;cases e) (H.stay b o e)
 len:=H.len
 obj:=fun l o e=>let ⟨p,e1,r⟩:=H.obj l o e;⟨p,e1,(r.move (Mo.but k hW) H.toff fun b hb ob q=>k b ob (fun z=>(hn b z).1 (nad_of e1 hb)) q).move (Mo.less hid fun b hb=>(hs b hb).1) trivial fun b _ ob q=>q⟩
 nd:=H.nd
 off:=fun b hb=>by
  rcases List.mem_append.mp hb with q|q
  ·exact H.off b (adr_nad q)
  ·exact H.off b (List.mem_append_right _ (hs b q).1)
 hids:=fun b hb=>⟨(H.hids b (hs b hb).1).1,by
  obtain ⟨_,o,e⟩:=H.hids b (hs b hb).1
  exact ⟨o,k b o (hs b hb).2 e⟩⟩
 sys:=H.sys
 low:=H.low
theorem Mo.trans {ι₁ ι₂ ι₃:Io}{h₁ h₂ h₃:Heap}(x:Mo ι₁ ι₂ h₁ h₂)(y:Mo ι₂ ι₃ h₂ h₃):Mo ι₁ ι₃ h₁ h₃ :=
 ⟨x.pre.trans y.pre,fun q hq=>by
  rcases y.new q hq with z|z
  ·exact x.new q z
  ·by_cases ya:q∈adr ι₁
   ·exact .inl ya
   ·exact .inr fun o xs n e2 d2=>z o xs n (x.seq q o xs n e2 d2 ya) d2,fun b o xs n e1 d1 hb=>y.seq b o xs n (x.seq b o xs n e1 d1 hb) d1 fun z=>(x.new b z).elim hb fun z=>z o xs n e1 d1⟩
theorem comp_body {t:Tg}{target elt:PySem.Expr}{ifs:List PySem.Expr}{x:Ex}{cnd:Ve→M D}{v:Value}{d:D}{xs:List D}{vs:List Value}{m:Nat}{nxt:List D→M D}{Q:Value→Shared→Prop}{P:Shared→Prop}
  (hf:A.frames=some fl) (Rm:Room A n) (hd:∃e0 r,fl=e0::r∧e0.frame=cenv.frame) (hL:cenv.frame=some L) (hC:cenv.locals=C) (hel:EvOK prog w base K n cf x) (ce:chkE K x sc NE elt=true) (hsc:cenv.scope=sc)
  (ct:chkT sc NE t target=true) (ctl:tgL sc t target=true) (hts:TS prog w base n fl sc NE ifs cnd) (hq:∀i is,t≠.q i is) (hfa:a∉foot) (hfC:C∉foot)
  (z:Zc prog w base fl ι0 s0.heap C a foot ι σ s.heap) (S:SR prog w base fl cenv NE ι σ (clr (tgI t) ρ) s.heap) (acc:s.heap.get? a=some (lstObj vs m)) (rx:VRs ι s.heap vs xs) (hs:∃t,s={ s0 with heap:=s.heap,toks:=t })
  (rv:VR ι s.heap v d) (e:t.set d ρ=some ρ') (hlen:xs.length≤100000)
  (O:OutG prog w base fl VR ι0 s0 ((((cnd ρ').bind chkB).bind fun b=>if b=true then (evE clsT cf x ρ').bind fun y=>nxt (xs++[y]) else nxt xs) σ) Q E)
  (k:∀ι₁ σ₁ s₁ xs₁ vs₁ m₁,Zc prog w base fl ι0 s0.heap C a foot ι₁ σ₁ s₁.heap→SR prog w base fl cenv NE ι₁ σ₁ (clr (tgI t) ρ) s₁.heap→s₁.heap.get? a=some (lstObj vs₁ m₁)→VRs ι₁ s₁.heap vs₁ xs₁→(∃t,s₁={ s0 with heap:=s₁.heap,toks:=t })→xs₁.length≤xs.length+1 →
   (∀b∈foot,∀o,s.heap.get? b=some o→s₁.heap.get? b=some o)→Mo ι ι₁ s.heap s₁.heap→ι₁.hid=ι.hid→OutG prog w base fl VR ι0 s0 (nxt xs₁ σ₁) Q E→P s₁) :
  wpAny (model prog w) A (assign target cenv v) (fun _ s₃=>wpAny (model prog w) A (tests ifs cenv) (fun ok s₄=>if ok=true then wpAny (model prog w) A (eval elt cenv) (fun y s₅=>wpAny (model prog w) A (call (.builtin "list.append") [.ref a,y]) (fun _ s₆=>P s₆) (nx prog w A cenv E Q a C) s₅) (nx prog w A cenv E Q a C) s₄ else P s₄) (nx prog w A cenv E Q a C) s₃) (nx prog w A cenv E Q a C) s:=by
 obtain ⟨t0,hs0⟩:=hs
 have aAdr:a∈adr ι:=List.mem_append_right _ z.ah
 have aSeq:NotOwn cenv a:=notOwn_seq S.fr acc rfl
 have aC:a≠C:=hC▸aSeq.1
 refine assign_at (loc:=true) Rm.hh ct hsc (fun _=>ctl) S rv (by rw [set_clr hq];exact e) fun h₃ tk₃ own ho E₃ S₃=>?_
 have ho':∀b∈own,b=C:=fun b hb=>hC▸(ho b hb).2 rfl
 have z₃:Zc prog w base fl ι0 s0.heap C a foot ι σ h₃:=z.step E₃ (fun b hb=>by rw [ho' b hb];exact List.mem_cons_self) S₃.hr (hC▸S₃.fr.ns)
 have fa:=z.fresh a (List.mem_cons_of_mem _ List.mem_cons_self)
 have M₃:Mo ι ι s.heap h₃:=E₃.mo S.ff.soft (own_ok S.fr ho)
 have acc₃:h₃.get? a=some (lstObj vs m):=E₃.keep a _ acc fa.2.1 fa.2.2.2 fun q=>aC (ho' a q)
 have foot₃:∀b∈foot,∀o,s.heap.get? b=some o→h₃.get? b=some o:=fun b hb o q=>by
  have fb:=z.fresh b (List.mem_cons_of_mem _ (List.mem_cons_of_mem _ hb))
  exact E₃.keep b o q fb.2.1 fb.2.2.2 fun y=>hfC (ho' b y▸hb)
 have hs₃:∃t,({ s with heap:=h₃,toks:=tk₃ }:Shared)={ s0 with heap:=h₃,toks:=t }:=⟨tk₃,by rw [hs0]⟩
 -- a step of an expression keeps the list and what is drawn from
 have keepF:∀{ι₁:Io} {σ₁:Hp} {h₁ h₂:Heap} {ι₂:Io},Zc prog w base fl ι0 s0.heap C a foot ι₁ σ₁ h₁→Ext (fls fl) [] ι₁ ι₂ h₁ h₂→∀b∈a::foot,∀o,h₁.get? b=some o→h₂.get? b=some o:=fun z₁ e₁ b hb o q=>by
  have fb:=z₁.fresh b (List.mem_cons_of_mem _ hb)
  exact e₁.keep b o q fb.2.1 fb.2.2.2 fun y=>nomatch y
 refine hts A cenv ι { s with heap:=h₃,toks:=tk₃ } σ ρ' _ _ hf Rm hsc S₃ (comp_conv hf hd hL z₃ hs₃ O fun b c σ₄ ι₄ s₄ _ e₄ z₄ hbc hs₄ O₄=>?_)
 have S₄:=S₃.ext e₄ z₄.hr
 have M₄:Mo ι ι₄ h₃ s₄.heap:=S₃.mo e₄
 have acc₄:=keepF z₃ e₄ a List.mem_cons_self _ acc₃
 have foot₄:∀b∈foot,∀o,s.heap.get? b=some o→s₄.heap.get? b=some o:=fun b hb o q=>keepF z₃ e₄ b (List.mem_cons_of_mem _ hb) o (foot₃ b hb o q)
 have rx₄:VRs ι₄ s₄.heap vs xs:=(rx.mono M₃ trivial).mono M₄ trivial
 have mo₄:Mo ι ι₄ s.heap s₄.heap:=M₃.trans M₄
 cases hbc
 cases b with
 |false=>exact k ι₄ σ₄ s₄ xs vs m z₄ (S₄.unset e hq) acc₄ rx₄ hs₄ (Nat.le_succ _) foot₄ mo₄ e₄.same O₄
 |true =>
  rw [if_pos rfl] at O₄ ⊢
  refine hel fl A sc NE elt cenv ι₄ s₄ σ₄ ρ' _ _ ce hf Rm hsc S₄ (comp_conv hf hd hL z₄ hs₄ O₄ fun y dy σ₅ ι₅ s₅ _ e₅ z₅ ry hs₅ O₅=>?_)
  have S₅:=S₄.ext e₅ z₅.hr
  have M₅:Mo ι₄ ι₅ s₄.heap s₅.heap:=S₄.mo e₅
  have acc₅:=keepF z₄ e₅ a List.mem_cons_self _ acc₄
  have rx₅:VRs ι₅ s₅.heap vs xs:=rx₄.mono M₅ trivial
  have big:=sizeLine_ge
  refine call_meets PySem.F.slot_list_append ⟨_,acc₅,rfl⟩ PySem.F.entry_list_append (PySem.F.args_list_append_2 _ _) (PySem.list_append a vs.toArray m y (by rw [List.size_toArray,rx.length];omega)) ⟨acc₅,?_⟩
  have up:=PySem.IsL.update (show PySem.IsL s₅.heap a vs.toArray m from acc₅) (fun l=>l.push y)
  rw [List.push_toArray] at up
  have sb:Heap.SameBut a s₅.heap (s₅.heap.update a (Obj.mapSeq fun l=>l.push y)):=Heap.SameBut.update ..
  have a5:a∈adr ι₅:=List.mem_append_right _ z₅.ah
  have kk:∀b o,b∉[a]→s₅.heap.get? b=some o→(s₅.heap.update a (Obj.mapSeq fun l=>l.push y)).get? b=some o:=fun b o q e1=>(sb.2 b fun y=>q (y▸List.mem_singleton.mpr rfl)).trans e1
  have M₆:Mo ι₅ ι₅ s₅.heap (s₅.heap.update a (Obj.mapSeq fun l=>l.push y)):=Mo.but kk fun b hb=>.inl (by rw [List.mem_singleton.mp hb];exact a5)
  have fa5:=z₅.fresh a (List.mem_cons_of_mem _ List.mem_cons_self)
  have H₆:HR prog w base ι₅ σ₅ (s₅.heap.update a (Obj.mapSeq fun l=>l.push y)):=z₅.hr.but kk (fun b hb=>.inl (by rw [List.mem_singleton.mp hb];exact a5)) (fun b hb=>by rw [List.mem_singleton.mp hb];exact ⟨fa5.2.1,z₅.baseNone (List.mem_cons_of_mem _ List.mem_cons_self)⟩) (fun b hb _=>by rw [List.mem_singleton.mp hb];exact ⟨_,up⟩)
  have E₆:Ext (fls fl) [a] ι₅ ι₅ s₅.heap (s₅.heap.update a (Obj.mapSeq fun l=>l.push y)):=⟨List.prefix_refl _,rfl,live_but ⟨_,up⟩ fun b o q e1=>(sb.2 b q).trans e1,fun _ y=>.inl y,fun b o e1 _ _ q=>kk b o q e1,fun b o e1 _ q=>⟨o.slots,kk b o q e1⟩⟩
  have S₆:=S₅.extO E₆ H₆ (fun b hb=>by rw [List.mem_singleton.mp hb];exact ⟨aSeq,fa5.2.2.2⟩) (fun b hb=>.inl (by rw [List.mem_singleton.mp hb];exact a5))
  have z₆:=z₅.step E₆ (fun b hb=>by rw [List.mem_singleton.mp hb];exact List.mem_cons_of_mem _ List.mem_cons_self) H₆ (hC▸S₆.fr.ns)
  obtain ⟨t5,hs5⟩:=hs₅
  refine k ι₅ σ₅ _ (xs++[dy]) (vs++[y]) _ z₆ (S₆.unset e hq) up ((rx₅.append (.cons ry .nil)).mono M₆ trivial) ⟨t5,by rw [hs5]⟩ (by simp) (fun b hb o q=>?_) ((mo₄.trans M₅).trans M₆) (e₅.same.trans e₄.same) O₅
  exact kk b o (fun y=>hfa (List.mem_singleton.mp y▸hb)) (keepF z₄ e₅ b (List.mem_cons_of_mem _ hb) o (foot₄ b hb o q))
theorem comp_loop {t:Tg}{target elt iter:PySem.Expr}{ifs:List PySem.Expr}{scope:PySem.Scope}{pos:Pos}{x:Ex}{cnd:Ve→M D}{I:Addr}{W:List Nat}{St:List D→Io→Heap→Prop}{Q:Value→Shared→Prop}
  (hf:A.frames=some fl) (Rm:Room A n) (hd:∃e0 r,fl=e0::r∧e0.frame=cenv.frame) (hL:cenv.frame=some L) (hC:cenv.locals=C) (hel:EvOK prog w base K n cf x) (ce:chkE K x sc NE elt=true) (hsc:cenv.scope=sc)
  (ct:chkT sc NE t target=true) (ctl:tgL sc t target=true) (hts:TS prog w base n fl sc NE ifs cnd) (hq:∀i is,t≠.q i is) (hfa:a∉foot) (hfC:C∉foot) (hcl:∀y c,cenv.cells.lookup y=some c→∃o,s0.heap.get? c=some o) (hW:Wk prog w A I W foot St) :
  ∀(ds xs:List D) (vs:List Value) (m:Nat) (ι:Io) (σ:Hp) (s:Shared),Zc prog w base fl ι0 s0.heap C a foot ι σ s.heap→SR prog w base fl cenv NE ι σ (clr (tgI t) ρ) s.heap→s.heap.get? a=some (lstObj vs m)→VRs ι s.heap vs xs→(∃t,s={ s0 with heap:=s.heap,toks:=t })→xs.length+ds.length≤100001→St ds ι s.heap →
   OutG prog w base fl VR ι0 s0 (((compLc (evE clsT cf x) cnd t ρ ds).bind fun zs=>M.ret (.lst (xs++zs))) σ) Q E→codeAny (model prog w) A (.compLoop (.ListComp elt [⟨target,iter,ifs,0⟩] scope pos) 0 (.ref I) (.ref a) cenv) (compPost (model prog w) A E none Q (.ref a) C) s:=by
 -- a step of what is drawn from
 have turn:∀{ι:Io} {σ:Hp} {ρ1:Ve} {s:Shared} {h':Heap} {ds ds':List D},Zc prog w base fl ι0 s0.heap C a foot ι σ s.heap→SR prog w base fl cenv NE ι σ ρ1 s.heap→(∀b o,b∉W→s.heap.get? b=some o→h'.get? b=some o)→(∀b∈W,∃o,h'.get? b=some o)→St ds ι s.heap →
   Zc prog w base fl ι0 s0.heap C a foot ι σ h'∧SR prog w base fl cenv NE ι σ ρ1 h'∧Mo ι ι s.heap h':=by
  intro ι σ ρ1 s h' ds ds' z S k al st
  have own:=hW.own ds ι s.heap st
  have sub:∀b∈W,b∈C::a::foot:=fun b hb=>List.mem_cons_of_mem _ (List.mem_cons_of_mem _ (hW.sub b hb))
  have H':HR prog w base ι σ h':=z.hr.but k own (fun b hb=>⟨(z.fresh b (sub b hb)).2.1,z.baseNone (sub b hb)⟩) (fun b hb _=>al b hb)
  have E':Ext (fls fl) W ι ι s.heap h':=⟨List.prefix_refl _,rfl,fun b o e=>if y:b∈W then al b y else ⟨o,k b o y e⟩,fun _ y=>.inl y,fun b o e _ _ y=>k b o y e,fun b o e _ y=>⟨o.slots,k b o y e⟩⟩
  have no:∀b∈W,NotOwn cenv b:=fun b hb=>by
   have fb:=z.fresh b (sub b hb)
   refine ⟨fun q=>hfC (hC▸q▸hW.sub b hb),fun y c hc q=>?_⟩
   obtain ⟨o,e⟩:=hcl y c hc
   rw [←q,(z.fresh b (sub b hb)).1] at e
   cases e
  have S':=S.extO E' H' (fun b hb=>⟨no b hb,(z.fresh b (sub b hb)).2.2.2⟩) own
  exact ⟨z.step E' sub H' (hC▸S'.fr.ns),S',Mo.but k own⟩
 intro ds
 induction ds with
 |nil =>
  intro xs vs m ι σ s z S acc rx hs hlen st O
  refine comp_turn (hW.done ι s _ _ st fun h' k=>?_)
  have fC:=z.fresh C List.mem_cons_self
  have kC:∀b o,b∉C::a::foot→s.heap.get? b=some o→h'.get? b=some o:=fun b o q e=>k b o (fun y=>q (List.mem_cons_of_mem _ (List.mem_cons_of_mem _ (hW.sub b y)))) e
  obtain ⟨mC,nC⟩:=z.ns
  have nC':h'.Ns C mC:=nC.at' fun o e=>k C o (fun y=>hfC (hW.sub C y)) e
  refine ⟨mC,nC',fun h₂ hs₂=>?_⟩
  obtain ⟨t0,hs0⟩:=hs
  rw [hs0]
  have deadW:∀b∈C::W,s0.heap.get? b=none:=fun b hb=>by
   rcases List.mem_cons.mp hb with q|q
   ·rw [q];exact fC.1
   ·exact (z.fresh b (List.mem_cons_of_mem _ (List.mem_cons_of_mem _ (hW.sub b q)))).1
  have memW:∀b∈C::W,b∈C::a::foot:=fun b hb=>by
   rcases List.mem_cons.mp hb with q|q
   ·rw [q];exact List.mem_cons_self
   ·exact List.mem_cons_of_mem _ (List.mem_cons_of_mem _ (hW.sub b q))
  have old:∀b o,s0.heap.get? b=some o→b∉C::W:=fun b o e q=>by rw [deadW b q] at e;cases e
  have k2:∀b o,b∉C::W→s.heap.get? b=some o→h₂.get? b=some o:=fun b o q e =>
   (hs₂.2 b fun y=>q (y▸List.mem_cons_self)).trans (k b o (fun y=>q (List.mem_cons_of_mem _ y)) e)
  have softC:∀o,s.heap.get? C=some o→∀xs n,o.data≠.seq xs n:=ns_soft nC
  have ownW:∀b∈C::W,b∈adr ι∨∀o,s.heap.get? b=some o→∀xs n,o.data≠.seq xs n:=fun b hb=>by
   rcases List.mem_cons.mp hb with q|q
   ·rw [q];exact .inr softC
   ·exact hW.own [] ι s.heap st b q
  have aC:a≠C:=hC▸(notOwn_seq S.fr acc rfl).1
  have aW:a∉C::W:=fun y=>by
   rcases List.mem_cons.mp y with q|q
   ·exact aC q
   ·exact hfa (hW.sub a q)
  have acc2:h₂.get? a=some (lstObj vs m):=k2 a _ aW acc
  have E2:Ext (fls fl) [] ι0 ⟨ι.nums,ι0.hid⟩ s0.heap h₂:=⟨z.X.pre,z.X.same,fun b o e=>by
    obtain ⟨o',e'⟩:=z.X.live b o e
    exact ⟨o',k2 b o' (old b o e) e'⟩,z.X.new,fun b o e n1 n2 n3=>k2 b o (old b o e) (z.X.keep b o e n1 n2 n3),fun b o e n1 n2=>by
    obtain ⟨sl,e'⟩:=z.X.slot b o e n1 n2
    exact ⟨sl,k2 b _ (old b o e) e'⟩⟩
  have H2:HR prog w base ⟨ι.nums,ι0.hid⟩ σ h₂:=z.hr.butLess k2 ownW (fun b hb=>⟨(z.fresh b (memW b hb)).2.1,z.baseNone (memW b hb)⟩) fun b hb=>⟨z.hid b hb,fun q=>by
   obtain ⟨o,e⟩:=z.al0 b hb
   exact old b o e q⟩
  have na:a∉adr ⟨ι.nums,ι0.hid⟩:=fun q=>by
   have fa:=z.fresh a (List.mem_cons_of_mem _ List.mem_cons_self)
   rcases List.mem_append.mp q with q|q
   ·exact fa.2.1 q
   ·obtain ⟨o,e⟩:=z.al0 a q
    rw [fa.1] at e
    cases e
  have r2:VRs ⟨ι.nums,ι0.hid⟩ h₂ vs xs:=(rx.mono (Mo.but k2 ownW) trivial).mono (Mo.less ι0.hid z.hid) trivial
  have O':OutG prog w base fl VR ι0 s0 (.ok (.lst (xs++[])) σ) Q E:=O
  rw [List.append_nil] at O'
  exact O' (.ref a) ⟨ι.nums,ι0.hid⟩ h₂ t0 E2 H2 (.lst ⟨_,acc2,rfl,_,rfl⟩ na r2)
 |cons d ds ih =>
  intro xs vs m ι σ s z S acc rx hs hlen st O
  have hA:∀a∈adr ι,∃o,s.heap.get? a=some o:=fun b hb=>z.hr.alive hb
  refine comp_turn (hW.item d ds ι s _ _ st hA fun v h' k al rv st'=>?_)
  obtain ⟨z1,S1,M1⟩:=turn (ds':=ds) z S k al st
  obtain ⟨t0,hs0⟩:=hs
  have aW:a∉W:=fun y=>hfa (hW.sub a y)
  have acc1:h'.get? a=some (lstObj vs m):=k a _ aW acc
  refine hW.go ds ι { s with heap:=h' } target v _ _ st' fun h'' k' al' M' st''=>?_
  obtain ⟨z2,S2,M2⟩:=turn (s:={ s with heap:=h' }) (ds':=ds) z1 S1 k' (fun b hb=>al' b hb (al b hb)) st'
  have acc2:h''.get? a=some (lstObj vs m):=k' a _ aW acc1
  cases e:t.set d ρ with
  |none =>
   have:compLc (evE clsT cf x) cnd t ρ (d::ds)=M.fail:=by rw [compLc,e]
   rw [this] at O
   exact O.elim
  |some ρ' =>
   have eq:(compLc (evE clsT cf x) cnd t ρ (d::ds)).bind (fun zs=>M.ret (D.lst (xs++zs)))=((cnd ρ').bind chkB).bind fun b=>if b=true then (evE clsT cf x ρ').bind fun y=>(fun us=>(compLc (evE clsT cf x) cnd t ρ ds).bind fun zs=>M.ret (D.lst (us++zs))) (xs++[y]) else (fun us=>(compLc (evE clsT cf x) cnd t ρ ds).bind fun zs=>M.ret (D.lst (us++zs))) xs:=by
    rw [compLc,e]
    simp only
    rw [M.assoc,M.assoc]
    congr 1
    funext c
    cases c<;>try rfl
    rename_i b
    cases b
    ·rfl
    ·show M.bind (M.bind _ _) _=M.bind _ _
     rw [M.assoc]
     congr 1
     funext y
     rw [M.assoc]
     congr 1
     funext zs
     show M.ret (D.lst (xs++(y::zs)))=M.ret (D.lst (xs++[y]++zs))
     rw [List.append_assoc]
     rfl
   rw [eq] at O
   refine comp_body (nxt:=fun us=>(compLc (evE clsT cf x) cnd t ρ ds).bind fun zs=>M.ret (D.lst (us++zs))) (s:={ s with heap:=h'' }) hf Rm hd hL hC hel ce hsc ct ctl hts hq hfa hfC z2 S2 acc2 ((rx.mono M1 trivial).mono M2 trivial) ⟨t0,by rw [hs0]⟩ (rv.mono M' trivial) e (by simp at hlen;omega) O fun ι₁ σ₁ s₁ xs₁ vs₁ m₁ z₁ S₁ acc₁ rx₁ hs₁ hl₁ kf Mf hh O₁=>?_
   exact ih xs₁ vs₁ m₁ ι₁ σ₁ s₁ z₁ S₁ acc₁ rx₁ hs₁ (by simp at hlen;omega) (hW.move ds ι ι₁ h'' s₁.heap st'' Mf (fun b hb=>by rw [hh];exact hb) kf) O₁
end
end Mine
end
section
set_option maxRecDepth 100000
open PySem PySem.Spec PySem.Calls PyProof.Rows PySem.W
namespace Mine
section
variable {prog:Program}{w:World}{base:Heap}{K:Frag}{mg mb:Str→Option Value}{n:Nat}{cf:Nat→List D→M D}
variable {fl:List PEnv}{ι0 ι ι':Io}{s0 s:Shared}{σ:Hp}{ρ ρ':Ve}{A:Around}{env cenv:PEnv}{NE:NEt}{sc:PySem.Scope}{E:Value→Shared→Prop}{C a L:Nat}{foot:List Nat}
theorem SR.grow {h h':Heap}(S:SR prog w base fl env NE ι σ ρ h)(H':HR prog w base ι' σ h')(k:∀b o,h.get? b=some o→h'.get? b=some o)(M:Mo ι ι' h h')(hA:∀b,(∃o,h.get? b=some o)→b∉adr ι→b∉adr ι'):SR prog w base fl env NE ι' σ ρ h':=by
 have ns:∀{b m},h.Ns b m→h'.Ns b m:=fun n=>n.at' fun o e=>k _ o e
 have cl:∀{b v},h.IsCell b v→h'.IsCell b v:=fun ⟨o,e,d⟩=>⟨o,k _ o e,d⟩
 have al:∀{b m},h.Ns b m→∃o,h.get? b=some o:=fun ⟨o,_,_,e,_⟩=>⟨o,e⟩
 refine ⟨H',⟨frames_of S.ff.ff fun b hb=>let ⟨m,n⟩:=S.ff.ns b hb;⟨m,ns n⟩,fun b hb=>let ⟨m,n⟩:=S.ff.ns b hb;⟨m,ns n⟩,fun b hb=>let ⟨_,n⟩:=S.ff.ns b hb;hA b (al n) (S.ff.off b hb)⟩,
  ⟨S.fr.kind,S.fr.glob,S.fr.blt,let ⟨m,n⟩:=S.fr.ns;⟨m,ns n⟩,fun x c e=>let ⟨v,n⟩:=S.fr.cell x c e;⟨v,cl n⟩,S.fr.cinj,S.fr.cov,⟨let ⟨_,n⟩:=S.fr.ns;hA _ (al n) S.fr.offL.1,S.fr.offL.2⟩,
   fun x c e=>⟨let ⟨_,o,e1,_⟩:=S.fr.cell x c e;hA c ⟨o,e1⟩ (S.fr.offC x c e).1,(S.fr.offC x c e).2⟩,S.fr.cd⟩,fun x i d a b=>?_,S.tp⟩
 have V:=S.lc x i d a b
 cases V with
 |loc k' n' e' v'=>exact .loc k' (ns n') e' (v'.mono M trivial)
 |cell k' c' n' v'=>exact .cell k' c' (cl n') (v'.mono M trivial)
theorem comp_start0 {t:Tg}{target elt iter:PySem.Expr}{ifs:List PySem.Expr}{scope:PySem.Scope}{pos:Pos}{I:Addr}{Q:Value→Shared→Prop}{cl:List (Str×Addr)}
  (hsc:env.scope=sc) (ok:okC scope sc=true)
  (q1:∀x c,cl.lookup x=some c→env.cells.lookup x=some c) (q2:∀x,(x,NameKind.free)∈scope.names→∃c,cl.lookup x=some c)
  (S0:SR prog w base fl env NE ι0 σ ρ s0.heap) (hn:ι.nums=ι0.nums) (hh:∀b∈ι0.hid,b∈ι.hid) (hA:∀b,(∃o,s0.heap.get? b=some o)→b∉adr ι0→b∉adr ι) (k:∀b o,s0.heap.get? b=some o→s.heap.get? b=some o) (M0:Mo ι0 ι s0.heap s.heap) (H:HR prog w base ι σ s.heap)
  (hfo:∀b∈foot,s0.heap.get? b=none∧∃o,s.heap.get? b=some o) (hs:∃t,s={ s0 with heap:=s.heap,toks:=t })
  (self:∀(s':Shared) (Q' E':Value→Shared→Prop),(∀b o,s.heap.get? b=some o→s'.heap.get? b=some o)→Q' (.ref I) s'→wpAny (model prog w) A (pyIter (.ref I)) Q' E' s')
  (loop0:∀(a C:Nat) (ι3:Io) (s':Shared),Zc prog w base fl ι0 s0.heap C a foot ι3 σ s'.heap→SR prog w base fl (compEnvC scope cl C env) (neC scope t target NE) ι3 σ (clr (tgI t) ρ) s'.heap→s'.heap.get? a=some (lstObj [] 0)→(∃t,s'={ s0 with heap:=s'.heap,toks:=t })→a∉foot→C∉foot →
   Mo ι ι3 s.heap s'.heap→(∀b∈ι.hid,b∈ι3.hid)→ι3.nums=ι.nums→(∀b o,s.heap.get? b=some o→s'.heap.get? b=some o)→(∀y c,cl.lookup y=some c→∃o,s0.heap.get? c=some o) →
   codeAny (model prog w) A (.compLoop (.ListComp elt [⟨target,iter,ifs,0⟩] scope pos) 0 (.ref I) (.ref a) (compEnvC scope cl C env)) (compPost (model prog w) A E none Q (.ref a) C) s') :
  wpAny (model prog w) A (newList []) (fun acc s₃=>wpAny (model prog w) A (newFunctionEnv scope env.globals cl [] env.qual none .none (some env)) (fun cenv s₄ =>
   codeAny (model prog w) A (.compStart (.ListComp elt [⟨target,iter,ifs,0⟩] scope pos) 0 (.ref I) acc { cenv with scope:=relabel scope env }) (compPost (model prog w) A E none Q acc cenv.locals) s₄) E s₃) E s:=by
 obtain ⟨hk,hnm⟩:=okC_names ok
 refine wpAny_newList ?_ (by rw [sizeLine_eq];decide)
 refine wpAny_newFunctionEnv (s:={ s with heap:=s.heap.push (lstObj [] 0) }) (fun p hp=>(hnm p hp).1) (fun p hp=>nomatch hp) (fun h' hNs hSB=>?_) hk
 obtain ⟨t0,hs0⟩:=hs
 have sz1:(s.heap.push (lstObj [] 0)).objs.size=s.heap.objs.size+1:=Heap.size_push ..
 -- what stands
 have k1:∀b o,(s.heap.push (lstObj [] 0)).get? b=some o→h'.get? b=some o:=fun b o e=>by
  rw [hSB.2 b (Nat.ne_of_lt (Heap.lt_size e))]
  exact Heap.get?_push_of_some _ e
 have k2:∀b o,s.heap.get? b=some o→h'.get? b=some o:=fun b o e=>k1 b o (keeps_push b o e)
 have k3:∀b o,s0.heap.get? b=some o→h'.get? b=some o:=fun b o e=>k2 b o (k b o e)
 have acc:h'.get? s.heap.objs.size=some (lstObj [] 0):=k1 _ _ (Heap.get?_push_size _ rfl)
 have da:s.heap.get? s.heap.objs.size=none:=Heap.get?_none_of_le (Nat.le_refl _)
 have M1:Mo ι (ι.hide s.heap.objs.size) s.heap h':=Mo.hide k2 da
 have H1:HR prog w base (ι.hide s.heap.objs.size) σ h':=H.hide k2 da ⟨_,acc⟩
 have hA1:∀b,(∃o,s0.heap.get? b=some o)→b∉adr ι0→b∉adr (ι.hide s.heap.objs.size):=fun b hb hb' q=>by
  obtain ⟨o,e⟩:=hb
  rcases List.mem_append.mp q with q|q
  ·exact hA b ⟨o,e⟩ hb' (adr_nad q)
  ·rcases List.mem_cons.mp q with q|q
   ·have:=k b o e
    rw [q,da] at this
    cases this
   ·exact hA b ⟨o,e⟩ hb' (List.mem_append_right _ q)
 have S1:SR prog w base fl env NE (ι.hide s.heap.objs.size) σ ρ h':=S0.grow H1 k3 (M0.trans M1) hA1
 have dead0:∀b,s.heap.get? b=none→s0.heap.get? b=none:=fun b e=>by
  cases e':s0.heap.get? b with
  |none=>rfl
  |some o=>rw [k b o e'] at e;cases e
 have dC:s0.heap.get? (s.heap.push (lstObj [] 0)).objs.size=none:=dead0 _ (Heap.get?_none_of_le (by rw [sz1];exact Nat.le_succ _))
 have C0:(s.heap.push (lstObj [] 0)).objs.size∉adr (ι.hide s.heap.objs.size):=fun q=>by
  rcases List.mem_append.mp q with q|q
  ·obtain ⟨o,e⟩:=H.alive (adr_nad q)
   exact absurd (Heap.lt_size e) (by rw [sz1];exact Nat.not_lt.mpr (Nat.le_succ _))
  ·rcases List.mem_cons.mp q with q|q
   ·rw [sz1] at q
    exact absurd q (Nat.succ_ne_self _)
   ·obtain ⟨o,e⟩:=H.alive (List.mem_append_right _ q)
    exact absurd (Heap.lt_size e) (by rw [sz1];exact Nat.not_lt.mpr (Nat.le_succ _))
 have C1:base.get? (s.heap.push (lstObj [] 0)).objs.size=none:=by
  cases e:base.get? (s.heap.push (lstObj [] 0)).objs.size with
  |none=>rfl
  |some o=>rw [S0.hr.stay _ o e] at dC;cases dC
 have S2:=S1.comp (t:=t) (target:=target) hsc ok hNs C0 C1 q1 q2
 have dfa:∀b∈(s.heap.push (lstObj [] 0)).objs.size::s.heap.objs.size::foot,s0.heap.get? b=none∧b∉nad (ι.hide s.heap.objs.size).nums∧(∃o,h'.get? b=some o)∧b∉fls fl:=by
  have nd:∀b,s0.heap.get? b=none→b∉nad ι.nums∧b∉fls fl:=fun b e=>by
   refine ⟨fun q=>?_,fun q=>?_⟩
   ·rw [hn] at q
    obtain ⟨o,e',_⟩:=S0.hr.cls q
    rw [e] at e'
    cases e'
   ·obtain ⟨m,o,_,_,e',_⟩:=S0.ff.ns b q
    rw [e] at e'
    cases e'
  intro b hb
  rcases List.mem_cons.mp hb with rfl|hb
  ·exact ⟨dC,(nd _ dC).1,(let ⟨o,_,_,e,_⟩:=hNs;⟨o,e⟩),(nd _ dC).2⟩
  ·rcases List.mem_cons.mp hb with rfl|hb
   ·exact ⟨dead0 _ da,(nd _ (dead0 _ da)).1,⟨_,acc⟩,(nd _ (dead0 _ da)).2⟩
   ·obtain ⟨e1,o,e2⟩:=hfo b hb
    exact ⟨e1,(nd b e1).1,⟨o,k2 b o e2⟩,(nd b e1).2⟩
 have z:Zc prog w base fl ι0 s0.heap (s.heap.push (lstObj [] 0)).objs.size s.heap.objs.size foot (ι.hide s.heap.objs.size) σ h' :=
  ⟨H1,⟨by show ι0.nums <+: ι.nums;rw [hn];exact List.prefix_refl _,rfl,fun b o e=>⟨o,k3 b o e⟩,fun b hb=>.inl (by rw [←hn];exact hb),fun b o e _ _ _=>k3 b o e,fun b o e _ _=>⟨o.slots,k3 b o e⟩⟩,
   fun b hb=>List.mem_cons_of_mem _ (hh b hb),List.mem_cons_self,S1.ff,⟨_,hNs⟩,C0,S0.hr.stay,fun b hb=>(S0.hr.hids b hb).2,dfa⟩
 have hfa:s.heap.objs.size∉foot:=fun q=>by
  obtain ⟨_,o,e⟩:=hfo _ q
  rw [da] at e
  cases e
 have hfC:(s.heap.push (lstObj [] 0)).objs.size∉foot:=fun q=>by
  obtain ⟨_,o,e⟩:=hfo _ q
  exact absurd (Heap.lt_size e) (by rw [sz1];exact Nat.not_lt.mpr (Nat.le_succ _))
 have loop:∀(s':Shared),s'.heap=h'→(∃t,s'={ s0 with heap:=s'.heap,toks:=t })→codeAny (model prog w) A (.compLoop (.ListComp elt [⟨target,iter,ifs,0⟩] scope pos) 0 (.ref I) (.ref s.heap.objs.size) (compEnvC scope cl (s.heap.push (lstObj [] 0)).objs.size env)) (compPost (model prog w) A E none Q (.ref s.heap.objs.size) (s.heap.push (lstObj [] 0)).objs.size) s':=by
  intro s' e hs'
  exact loop0 _ _ (ι.hide s.heap.objs.size) s' (by rw [e];exact z) (by rw [e];exact S2) (by rw [e];exact acc) hs' hfa hfC (by rw [e];exact M1) (fun b hb=>List.mem_cons_of_mem _ hb) rfl (by rw [e];exact k2) (fun y c hc=>by
   obtain ⟨v,o,e1,_⟩:=S0.fr.cell y c (q1 y c hc)
   exact ⟨o,e1⟩)
 refine codeAny_compStart_list (loop _ rfl ⟨t0,by rw [hs0];rfl⟩) ?_
 exact self _ _ _ k2 (loop _ rfl ⟨t0,by rw [hs0];rfl⟩)
theorem comp_start {t:Tg}{target elt iter:PySem.Expr}{ifs:List PySem.Expr}{scope:PySem.Scope}{pos:Pos}{x:Ex}{cnd:Ve→M D}{I:Addr}{W:List Nat}{St:List D→Io→Heap→Prop}{Q:Value→Shared→Prop}{cl:List (Str×Addr)}{ds:List D}
  (hf:A.frames=some fl) (Rm:Room A n) (hel:EvOK prog w base K n cf x) (hsc:env.scope=sc) (ok:okC scope sc=true)
  (ce:chkE K x (relab scope sc) (neC scope t target NE) elt=true) (ct:chkT (relab scope sc) (neC scope t target NE) t target=true) (ctl:tgL (relab scope sc) t target=true) (hts:TS prog w base n fl (relab scope sc) (neC scope t target NE) ifs cnd) (hq:∀i is,t≠.q i is)
  (q1:∀x c,cl.lookup x=some c→env.cells.lookup x=some c) (q2:∀x,(x,NameKind.free)∈scope.names→∃c,cl.lookup x=some c) (hW:Wk prog w A I W foot St)
  (S0:SR prog w base fl env NE ι0 σ ρ s0.heap) (hn:ι.nums=ι0.nums) (hh:∀b∈ι0.hid,b∈ι.hid) (hA:∀b,(∃o,s0.heap.get? b=some o)→b∉adr ι0→b∉adr ι) (k:∀b o,s0.heap.get? b=some o→s.heap.get? b=some o) (M0:Mo ι0 ι s0.heap s.heap) (H:HR prog w base ι σ s.heap) (st:St ds ι s.heap)
  (hfo:∀b∈foot,s0.heap.get? b=none∧∃o,s.heap.get? b=some o) (hs:∃t,s={ s0 with heap:=s.heap,toks:=t }) (hlen:ds.length≤100000)
  (O:OutG prog w base fl VR ι0 s0 (((compLc (evE clsT cf x) cnd t ρ ds).bind fun zs=>M.ret (.lst zs)) σ) Q E) :
  wpAny (model prog w) A (newList []) (fun acc s₃=>wpAny (model prog w) A (newFunctionEnv scope env.globals cl [] env.qual none .none (some env)) (fun cenv s₄ =>
   codeAny (model prog w) A (.compStart (.ListComp elt [⟨target,iter,ifs,0⟩] scope pos) 0 (.ref I) acc { cenv with scope:=relabel scope env }) (compPost (model prog w) A E none Q acc cenv.locals) s₄) E s₃) E s:=by
 obtain ⟨e0,r0,L,hd1,hd2,hL⟩:=S0.tp
 have hd:∃e0 r,fl=e0::r∧e0.frame=env.frame:=⟨e0,r0,hd1,hd2⟩
 have mv:∀{ι3:Io} {h':Heap},Mo ι ι3 s.heap h'→(∀b∈ι.hid,b∈ι3.hid)→(∀b o,s.heap.get? b=some o→h'.get? b=some o)→St ds ι3 h':=fun M hh k=>hW.move ds ι _ s.heap _ st M hh fun b hb o e=>k b o e
 refine comp_start0 (foot:=foot) (t:=t) hsc ok q1 q2 S0 hn hh hA k M0 H hfo hs (fun s' Q' E' k' q=>hW.self ds ι s' Q' E' (hW.move ds ι ι s.heap s'.heap st (Mo.more k') (fun _ h=>h) fun b _ o e=>k' b o e) q) fun a C ι3 s' z S acc hs' hfa hfC M3 hh3 hn3 k3 hcl=>?_
 refine comp_loop (cenv:=compEnvC scope cl C env) (ρ:=ρ) (L:=L) hf Rm hd hL rfl hel ce (by subst hsc;rfl) ct ctl hts hq hfa hfC hcl hW ds [] [] 0 ι3 σ s' z S acc .nil hs' (by simp;omega) (mv M3 hh3 k3) ?_
 simpa using O
end
end Mine
end
section
set_option maxRecDepth 100000
open PySem PySem.Spec PySem.Calls PyProof.Rows PySem.W
namespace Mine
section
variable {prog:Program}{w:World}{base:Heap}{K:Frag}{mg mb:Str→Option Value}{n:Nat}{cf:Nat→List D→M D}
variable {fl:List PEnv}{ι0 ι ι':Io}{s0 s:Shared}{σ:Hp}{ρ ρ':Ve}{A:Around}{env cenv:PEnv}{NE:NEt}{sc scope:PySem.Scope}{E:Value→Shared→Prop}{C a L:Nat}{foot:List Nat}
theorem notQ {t:Tg}{target:PySem.Expr}(h:tgL sc t target=true):∀i is,t≠.q i is:=by
 rintro i is rfl
 cases h
theorem notSet_fold {iter:PySem.Expr}(h:isSet iter=false)(x:Value):foldedSetIterable iter env x=pure x:=by
 cases iter<;>first|rfl|cases h
theorem comp_items {t:Tg}{target elt iter:PySem.Expr}{ifs:List PySem.Expr}{pos:Pos}{x:Ex}{cnd:Ve→M D}{Q:Value→Shared→Prop}{cl:List (Str×Addr)}{v:Value}{d:D}{ds:List D}
  (hf:A.frames=some fl) (Rm:Room A n) (hel:EvOK prog w base K n cf x) (hsc:env.scope=sc) (ok:okC scope sc=true)
  (ce:chkE K x (relab scope sc) (neC scope t target NE) elt=true) (ct:chkT (relab scope sc) (neC scope t target NE) t target=true) (ctl:tgL (relab scope sc) t target=true) (hts:TS prog w base n fl (relab scope sc) (neC scope t target NE) ifs cnd)
  (q1:∀x c,cl.lookup x=some c→env.cells.lookup x=some c) (q2:∀x,(x,NameKind.free)∈scope.names→∃c,cl.lookup x=some c)
  (S:SR prog w base fl env NE ι σ ρ s.heap) (r:VR ι s.heap v d) (hd:items d=some ds) (hlen:ds.length≤most)
  (O:OutG prog w base fl VR ι s (((compLc (evE clsT cf x) cnd t ρ ds).bind fun zs=>M.ret (.lst zs)) σ) Q E) :
  wpAny (model prog w) A (pyIter v) (fun it s₂=>wpAny (model prog w) A (newList []) (fun acc s₃=>wpAny (model prog w) A (newFunctionEnv scope env.globals cl [] env.qual none .none (some env)) (fun cenv s₄ =>
   codeAny (model prog w) A (.compStart (.ListComp elt [⟨target,iter,ifs,0⟩] scope pos) 0 it acc { cenv with scope:=relabel scope env }) (compPost (model prog w) A E none Q acc cenv.locals) s₄) E s₃) E s₂) E s:=by
 refine sq_make S.hr r hd fun l ob hv hlt hfd hfr sq=>?_
 have k:∀b o,s.heap.get? b=some o→(s.heap.push ob).get? b=some o:=keeps_push
 exact comp_start (s0:=s) (s:={ s with heap:=s.heap.push ob }) hf Rm hel hsc ok ce ct ctl hts (notQ ctl) q1 q2 (wk_seq Rm.hh s.heap.objs.size l) S rfl (fun _ h=>h) (fun _ _ h=>h) k (Mo.more k) (S.hr.more k) sq
  (fun b hb=>by rw [List.mem_singleton.mp hb];exact ⟨Heap.get?_none_of_le (Nat.le_refl _),_,Heap.get?_push_size _ hfr⟩) ⟨s.toks,rfl⟩ hlen O
theorem comp_open {target elt iter:PySem.Expr}{ifs:List PySem.Expr}{pos:Pos}{Q:Value→Shared→Prop}(S:SR prog w base fl env NE ι σ ρ s.heap)(hsc:env.scope=sc)(hset:isSet iter=false)(ok:okC scope sc=true)
  (h:∀cl,(∀x c,cl.lookup x=some c→env.cells.lookup x=some c)→(∀x,(x,NameKind.free)∈scope.names→∃c,cl.lookup x=some c)→wpAny (model prog w) A (eval iter env) (fun v s₁=>wpAny (model prog w) A (pyIter v) (fun it s₂=>wpAny (model prog w) A (newList []) (fun acc s₃=>wpAny (model prog w) A (newFunctionEnv scope env.globals cl [] env.qual none .none (some env)) (fun cenv s₄ =>
   codeAny (model prog w) A (.compStart (.ListComp elt [⟨target,iter,ifs,0⟩] scope pos) 0 it acc { cenv with scope:=relabel scope env }) (compPost (model prog w) A E none Q acc cenv.locals) s₄) E s₃) E s₂) E s₁) E s) :
  wpAny (model prog w) A (eval (.ListComp elt [⟨target,iter,ifs,0⟩] scope pos) env) Q E s:=by
 obtain ⟨hk,hn⟩:=okC_names ok
 obtain ⟨cl,e,q1,q2⟩:=closure_of (scope:=scope) S.fr fun p hp hfr=>by
  have:=(hn p hp).2.2 hfr
  subst hsc
  exact this
 rw [eval_ListComp]
 exact wpAny_comprehension_free rfl (fun x=>notSet_fold hset x) e hk (fun p hp hl=>by rw [(hn p hp).2.1,hl]) (h cl q1 q2)
def CompIs (prog:Program)(w:World)(A:Around)(env:PEnv)(sc:PySem.Scope)(Q:Value→Shared→Prop)(E:Value→Shared→Prop)(s:Shared)(e:PySem.Expr):Prop :=
 ∃elt target iter ifs scope pos,e=PySem.Expr.ListComp elt [⟨target,iter,ifs,0⟩] scope pos∧isSet iter=false∧okC scope sc=true ∧
  ∀cl,(∀x c,cl.lookup x=some c→env.cells.lookup x=some c)→(∀x,(x,NameKind.free)∈scope.names→∃c,cl.lookup x=some c)→wpAny (model prog w) A (eval iter env) (fun v s₁=>wpAny (model prog w) A (pyIter v) (fun it s₂=>wpAny (model prog w) A (newList []) (fun acc s₃=>wpAny (model prog w) A (newFunctionEnv scope env.globals cl [] env.qual none .none (some env)) (fun cenv s₄ =>
   codeAny (model prog w) A (.compStart (.ListComp elt [⟨target,iter,ifs,0⟩] scope pos) 0 it acc { cenv with scope:=relabel scope env }) (compPost (model prog w) A E none Q acc cenv.locals) s₄) E s₃) E s₂) E s₁) E s
def CoOK (prog:Program)(w:World)(base:Heap)(K:Frag)(n:Nat)(cf:Nat→List D→M D)(e:Ex):Prop:=∀(fl:List PEnv) (A:Around) (sc:PySem.Scope) (NE:NEt) (x:PySem.Expr) (env:PEnv) (ι:Io) (s:Shared) (σ:Hp) (ρ:Ve) (Q:Value→Shared→Prop) (E:Value→Shared→Prop),
 chkE K e sc NE x=true→A.frames=some fl→Room A n→env.scope=sc→SR prog w base fl env NE ι σ ρ s.heap→OutG prog w base fl VR ι s (evE clsT cf e ρ σ) Q E→CompIs prog w A env sc Q E s x
theorem ev_of_co {e:Ex}(h:CoOK prog w base K n cf e):EvOK prog w base K n cf e:=by
 intro fl A sc NE x env ι s σ ρ Q E hc hf Rm hsc S O
 obtain ⟨elt,target,iter,ifs,scope,pos,rfl,h1,h2,h3⟩:=h fl A sc NE x env ι s σ ρ Q E hc hf Rm hsc S O
 exact comp_open S hsc h1 h2 h3
theorem co_compc {x c it:Ex}{t:Tg}(h1:EvOK prog w base K n cf x)(h2:EvOK prog w base K n cf it)(h3:TrOK prog w base K n cf c):CoOK prog w base K n cf (.compc x t it c):=by
 intro fl A sc NE e env ι s σ ρ Q E hc hf Rm hsc S O
 simp only [chkE] at hc
 split at hc
 ·rename_i elt target iter f scope pos
  simp only [Bool.and_eq_true,beq_iff_eq] at hc
  obtain ⟨⟨⟨⟨⟨⟨c1,c2⟩,c3⟩,c4⟩,c5⟩,c6⟩,c7⟩:=hc
  rw [evE] at O
  refine ⟨_,_,_,_,_,_,rfl,c1,c3,fun cl q1 q2=>?_⟩
  refine h2.step c2 hf Rm hsc S O fun v s₁ d σ₁ ι₁ S1 r O1=>?_
  cases hd:items d with
  |none=>rw [hd] at O1;exact O1.elim
  |some ds =>
   rw [hd] at O1
   simp only at O1
   by_cases hl:ds.length≤most
   ·have e1:(if ds.length≤most then (compLc (evE clsT cf x) (evE clsT cf c) t ρ ds).bind fun xs=>M.ret (D.lst xs) else M.fail)=(compLc (evE clsT cf x) (evE clsT cf c) t ρ ds).bind fun xs=>M.ret (D.lst xs):=if_pos hl
    rw [e1] at O1
    exact comp_items hf Rm h1 hsc c3 c6 c4 c5 (ts_one h3 c7) q1 q2 S1 r hd hl O1
   ·have e1:(if ds.length≤most then (compLc (evE clsT cf x) (evE clsT cf c) t ρ ds).bind fun xs=>M.ret (D.lst xs) else M.fail)=M.fail:=if_neg hl
    rw [e1] at O1
    exact O1.elim
 ·cases hc
theorem seq_go {I l:Addr}{i:Nat}{tgt:PySem.Expr}{v:Value}{Q:Unit→Shared→Prop}(x:s.heap.IsListIter I l i)(fin:Q () s):wpAny (model prog w) A (letOwnedTupleGo tgt (.ref I) v) Q E s:=by
 obtain ⟨o,e1,e2,e3⟩:=x
 have key:wpAny (model prog w) A (do
   let (.ref r,.ref a):=(Value.ref I,v)|return
   let o ←load r
   match o.cls,o.data with
   |.type n,.fields vs =>
    if ["enumerate", "zip", "dict_itemiterator", "dict_reverseitemiterator", "odict_iterator", "itertools.zip_longest", "itertools.pairwise"].contains n&&vs[0]? == some (rawInt a) then
     rule "for.unpacks-the-owned-tuple"
     updateField r 0 .none
   |_,_=>pure ()) Q E s:=by
  cases v<;>try (exact wpAny_pure fin)
  refine wpAny_bind (wpAny_load e1 ?_)
  rw [e2,e3]
  exact wpAny_pure fin
 unfold letOwnedTupleGo
 split
 ·exact key
 ·exact key
 ·exact wpAny_pure fin
theorem comp_at {t:Tg}{target elt iter:PySem.Expr}{pos:Pos}{x:Ex}{I:Addr}{l:Nat}{p:Nat×Option Nat}{Q:Value→Shared→Prop}
  (hf:A.frames=some fl) (Rm:Room A n) (hd:∃e0 r,fl=e0::r∧e0.frame=cenv.frame) (hL:cenv.frame=some L) (hC:cenv.locals=C) (hel:EvOK prog w base K n cf x) (ce:chkE K x sc NE elt=true) (hsc:cenv.scope=sc)
  (ct:chkT sc NE t target=true) (ctl:tgL sc t target=true) (hq:∀i is,t≠.q i is) (hfa:a≠I) (hfC:C≠I) (hcl:∀y c,cenv.cells.lookup y=some c→∃o,s0.heap.get? c=some o) :
  ∀(fuel i:Nat) (xs:List D) (vs:List Value) (m:Nat) (ι:Io) (σ:Hp) (s:Shared),Zc prog w base fl ι0 s0.heap C a [I] ι σ s.heap→SR prog w base fl cenv NE ι σ (clr (tgI t) ρ) s.heap→s.heap.get? a=some (lstObj vs m)→VRs ι s.heap vs xs→(∃t,s={ s0 with heap:=s.heap,toks:=t })→xs.length+fuel≤100001→s.heap.IsListIter I p.1 i→ι.nums[l]? = some p →
   OutG prog w base fl VR ι0 s0 (((compAt (evE clsT cf x) t ρ l fuel i).bind fun zs=>M.ret (.lst (xs++zs))) σ) Q E→codeAny (model prog w) A (.compLoop (.ListComp elt [⟨target,iter,[],0⟩] scope pos) 0 (.ref I) (.ref a) cenv) (compPost (model prog w) A E none Q (.ref a) C) s:=by
 intro fuel
 induction fuel with
 |zero=>intro i xs vs m ι σ s z S acc rx hs hlen hit ep O;exact O.elim
 |succ fuel ih =>
  intro i xs vs m ι σ s z S acc rx hs hlen hit ep O
  obtain ⟨t0,hs0⟩:=hs
  have hiI:∀o,s.heap.get? I=some o→∀xs n,o.data≠.seq xs n:=by
   obtain ⟨o,e1,_,e2⟩:=hit
   intro o' e' xs n q
   rw [e1] at e'
   cases e'
   rw [e2] at q
   cases q
  have fI:=z.fresh I (List.mem_cons_of_mem _ (List.mem_cons_of_mem _ List.mem_cons_self))
  have fC:=z.fresh C List.mem_cons_self
  unfold M.bind compAt at O
  cases q:σ[l]? with
  |none=>rw [q] at O;exact O.elim
  |some ob =>
   cases ob with
   |dict _=>rw [q] at O;exact O.elim
   |inst _ _=>rw [q] at O;exact O.elim
   |tab=>rw [q] at O;exact O.elim
   |list ds =>
    rw [q] at O
    simp only at O
    obtain ⟨us,k0,hp2,hg,rs⟩:=z.hr.listAt ep q
    have hl:s.heap.IsList p.1 us.toArray:=isList_of hg
    cases qd:ds[i]? with
    |none =>
     rw [qd] at O
     have hx:us.toArray[i]? = none:=by
      have h1:=rs.length
      have h2:ds.length≤i:=by simpa using qd
      simp
      omega
     refine comp_turn (wpAny_pyNext_list_end Rm.hh hit hl hx fun h' he=>?_)
     obtain ⟨mC,nC⟩:=z.ns
     have nC':h'.Ns C mC:=nC.at' fun o e=>he C o hfC e
     refine ⟨mC,nC',fun h₂ hs₂=>?_⟩
     rw [hs0]
     have k2:∀b o,b∉[C,I]→s.heap.get? b=some o→h₂.get? b=some o:=fun b o y e=>by
      simp only [List.mem_cons,List.not_mem_nil,or_false,not_or] at y
      exact (hs₂.2 b y.1).trans (he b o y.2 e)
     have old:∀b o,s0.heap.get? b=some o→b∉[C,I]:=fun b o e y=>by
      simp only [List.mem_cons,List.not_mem_nil,or_false] at y
      rcases y with rfl|rfl
      ·rw [fC.1] at e;cases e
      ·rw [fI.1] at e;cases e
     have ownW:∀b∈[C,I],b∈adr ι∨∀o,s.heap.get? b=some o→∀xs n,o.data≠.seq xs n:=fun b y=>by
      simp only [List.mem_cons,List.not_mem_nil,or_false] at y
      rcases y with rfl|rfl
      ·exact .inr (ns_soft nC)
      ·exact .inr hiI
     have aC:a≠C:=hC▸(notOwn_seq S.fr acc rfl).1
     have acc2:h₂.get? a=some (lstObj vs m):=k2 a _ (by simp [aC,hfa]) acc
     have E2:Ext (fls fl) [] ι0 ⟨ι.nums,ι0.hid⟩ s0.heap h₂:=⟨z.X.pre,z.X.same,fun b o e=>by
       obtain ⟨o',e'⟩:=z.X.live b o e
       exact ⟨o',k2 b o' (old b o e) e'⟩,z.X.new,fun b o e n1 n2 n3=>k2 b o (old b o e) (z.X.keep b o e n1 n2 n3),fun b o e n1 n2=>by
       obtain ⟨sl,e'⟩:=z.X.slot b o e n1 n2
       exact ⟨sl,k2 b _ (old b o e) e'⟩⟩
     have H2:HR prog w base ⟨ι.nums,ι0.hid⟩ σ h₂:=z.hr.butLess k2 ownW (fun b y=>by
      simp only [List.mem_cons,List.not_mem_nil,or_false] at y
      rcases y with rfl|rfl
      ·exact ⟨fC.2.1,z.baseNone List.mem_cons_self⟩
      ·exact ⟨fI.2.1,z.baseNone (List.mem_cons_of_mem _ (List.mem_cons_of_mem _ List.mem_cons_self))⟩) fun b hb=>⟨z.hid b hb,fun y=>by
      obtain ⟨o,e⟩:=z.al0 b hb
      exact old b o e y⟩
     have na:a∉adr ⟨ι.nums,ι0.hid⟩:=fun y=>by
      have fa:=z.fresh a (List.mem_cons_of_mem _ List.mem_cons_self)
      rcases List.mem_append.mp y with y|y
      ·exact fa.2.1 y
      ·obtain ⟨o,e⟩:=z.al0 a y
       rw [fa.1] at e
       cases e
     have r2:VRs ⟨ι.nums,ι0.hid⟩ h₂ vs xs:=(rx.mono (Mo.but k2 ownW) trivial).mono (Mo.less ι0.hid z.hid) trivial
     have O':OutG prog w base fl VR ι0 s0 (.ok (.lst (xs++[])) σ) Q E:=O
     rw [List.append_nil] at O'
     exact O' (.ref a) ⟨ι.nums,ι0.hid⟩ h₂ t0 E2 H2 (.lst ⟨_,acc2,rfl,_,rfl⟩ na r2)
    |some d =>
     rw [qd] at O
     simp only at O
     obtain ⟨v,hv,rv⟩:=rs.get qd
     cases e:t.set d ρ with
     |none=>rw [e] at O;exact O.elim
     |some ρ' =>
      rw [e] at O
      have hx:us.toArray[i]? = some v:=by simpa using hv
      refine comp_turn (wpAny_pyNext_list_item hit hl hx fun h' hit' hsb=>?_)
      -- the iterator turns
      have hv':∃o,h'.get? I=some o:=let ⟨o,y,_⟩:=hit';⟨o,y⟩
      have kk:∀b o,b∉[I]→s.heap.get? b=some o→h'.get? b=some o:=fun b o y e1=>(hsb.2 b fun y'=>y (y'▸List.mem_singleton.mpr rfl)).trans e1
      have ownI:∀b∈[I],b∈adr ι∨∀o,s.heap.get? b=some o→∀xs n,o.data≠.seq xs n:=fun b hb=>.inr (by rw [List.mem_singleton.mp hb];exact hiI)
      have subI:∀b∈[I],b∈C::a::[I]:=fun b hb=>List.mem_cons_of_mem _ (List.mem_cons_of_mem _ hb)
      have H':HR prog w base ι σ h':=z.hr.but kk ownI (fun b hb=>by rw [List.mem_singleton.mp hb];exact ⟨fI.2.1,z.baseNone (subI I List.mem_cons_self)⟩) (fun b hb _=>by rw [List.mem_singleton.mp hb];exact hv')
      have E':Ext (fls fl) [I] ι ι s.heap h':=⟨List.prefix_refl _,rfl,live_but hv' fun b o y e1=>(hsb.2 b y).trans e1,fun _ y=>.inl y,fun b o e1 _ _ y=>kk b o y e1,fun b o e1 _ y=>⟨o.slots,kk b o y e1⟩⟩
      have no:NotOwn cenv I:=⟨fun y=>hfC (hC▸y.symm),fun y c hc y'=>by
       obtain ⟨o,e1⟩:=hcl y c hc
       rw [←y',fI.1] at e1
       cases e1⟩
      have S':=S.extO E' H' (fun b hb=>by rw [List.mem_singleton.mp hb];exact ⟨no,fI.2.2.2⟩) ownI
      have z':=z.step E' subI H' (hC▸S'.fr.ns)
      have M':Mo ι ι s.heap h':=Mo.but kk ownI
      have acc':h'.get? a=some (lstObj vs m):=kk a _ (by simp [hfa]) acc
      refine seq_go (s:={ s with heap:=h' }) hit' ?_
      have O2:OutG prog w base fl VR ι0 s0 (((((fun _=>M.ret (D.bool true)) ρ').bind chkB).bind fun b=>if b=true then (evE clsT cf x ρ').bind fun y=>(fun us=>(compAt (evE clsT cf x) t ρ l fuel (i+1)).bind fun zs=>M.ret (D.lst (us++zs))) (xs++[y]) else (fun us=>(compAt (evE clsT cf x) t ρ l fuel (i+1)).bind fun zs=>M.ret (D.lst (us++zs))) xs) σ) Q E:=by
       have eq:(((evE clsT cf x ρ').bind fun y=>(compAt (evE clsT cf x) t ρ l fuel (i+1)).bind fun us=>M.ret (y::us)).bind fun zs=>M.ret (D.lst (xs++zs)))=((evE clsT cf x ρ').bind fun y=>(compAt (evE clsT cf x) t ρ l fuel (i+1)).bind fun zs=>M.ret (D.lst (xs++[y]++zs))):=by
        rw [M.assoc]
        congr 1
        funext y
        rw [M.assoc]
        congr 1
        funext zs
        show M.ret (D.lst (xs++(y::zs)))=M.ret (D.lst (xs++[y]++zs))
        rw [List.append_assoc]
        rfl
       have O3:OutG prog w base fl VR ι0 s0 ((((evE clsT cf x ρ').bind fun y=>(compAt (evE clsT cf x) t ρ l fuel (i+1)).bind fun us=>M.ret (y::us)).bind fun zs=>M.ret (D.lst (xs++zs))) σ) Q E:=O
       rw [eq] at O3
       exact O3
      refine comp_body (nxt:=fun us=>(compAt (evE clsT cf x) t ρ l fuel (i+1)).bind fun zs=>M.ret (D.lst (us++zs))) (s:={ s with heap:=h' }) (foot:=[I]) hf Rm hd hL hC hel ce hsc ct ctl ts_nil hq (by simp [hfa]) (by simp [hfC]) z' S' acc' (rx.mono M' trivial) ⟨t0,by rw [hs0]⟩ (rv.mono M' trivial) e (by omega) O2
       fun ι₁ σ₁ s₁ xs₁ vs₁ m₁ z₁ S₁ acc₁ rx₁ hs₁ hl₁ kf Mf hh O₁=>?_
      exact ih (i+1) xs₁ vs₁ m₁ ι₁ σ₁ s₁ z₁ S₁ acc₁ rx₁ hs₁ (by omega) (hit'.at fun o y=>kf I List.mem_cons_self o y) (by
       obtain ⟨tt,ht⟩:=Mf.pre
       rw [←ht,List.getElem?_append_left (List.getElem?_eq_some_iff.mp ep).1]
       exact ep) O₁
theorem co_comp {x it:Ex}{t:Tg}(h1:EvOK prog w base K n cf x)(h2:EvOK prog w base K n cf it):CoOK prog w base K n cf (.comp x t it):=by
 intro fl A sc NE e env ι s σ ρ Q E hc hf Rm hsc S O
 simp only [chkE] at hc
 split at hc
 ·rename_i elt target iter scope pos
  simp only [Bool.and_eq_true,beq_iff_eq] at hc
  obtain ⟨⟨⟨⟨⟨c1,c2⟩,c3⟩,c4⟩,c5⟩,c6⟩:=hc
  rw [evE] at O
  refine ⟨_,_,_,_,_,_,rfl,c1,c3,fun cl q1 q2=>?_⟩
  refine h2.step c2 hf Rm hsc S O fun v s₁ d σ₁ ι₁ S1 r O1=>?_
  have byV:∀ds,items d=some ds→OutG prog w base fl VR ι₁ s₁ ((if ds.length≤most then (compL (evE clsT cf x) t ρ ds).bind fun xs=>M.ret (D.lst xs) else M.fail) σ₁) Q E →
    wpAny (model prog w) A (pyIter v) (fun it s₂=>wpAny (model prog w) A (newList []) (fun acc s₃=>wpAny (model prog w) A (newFunctionEnv scope env.globals cl [] env.qual none .none (some env)) (fun cenv s₄ =>
     codeAny (model prog w) A (.compStart (.ListComp elt [⟨target,iter,[],0⟩] scope pos) 0 it acc { cenv with scope:=relabel scope env }) (compPost (model prog w) A E none Q acc cenv.locals) s₄) E s₃) E s₂) E s₁:=fun ds hd O1=>by
   by_cases hl:ds.length≤most
   ·have e1:(if ds.length≤most then (compL (evE clsT cf x) t ρ ds).bind fun xs=>M.ret (D.lst xs) else M.fail)=(compL (evE clsT cf x) t ρ ds).bind fun xs=>M.ret (D.lst xs):=if_pos hl
    rw [e1] at O1
    exact comp_items hf Rm h1 hsc c3 c6 c4 c5 ts_nil q1 q2 S1 r hd hl O1
   ·have e1:(if ds.length≤most then (compL (evE clsT cf x) t ρ ds).bind fun xs=>M.ret (D.lst xs) else M.fail)=M.fail:=if_neg hl
    rw [e1] at O1
    exact O1.elim
  cases d with
  |tup ds=>exact byV ds rfl O1
  |lst ds=>exact byV ds rfl O1
  |loc l =>
   obtain ⟨p,ep,rfl⟩:=r.locAt
   cases q:σ₁[l]? with
   |none=>simp only [q] at O1;exact O1.elim
   |some ob =>
    cases ob with
    |dict _=>simp only [q] at O1;exact O1.elim
    |inst _ _=>simp only [q] at O1;exact O1.elim
    |tab=>simp only [q] at O1;exact O1.elim
    |list ds =>
     simp only [q] at O1
     split at O1
     ·rename_i hl
      unfold most at hl
      obtain ⟨us,k0,hp2,hg,rs⟩:=S1.hr.listAt ep q
      obtain ⟨e0,r0,L,hd1,hd2,hL⟩:=S1.tp
      have hfr:(⟨.type "list_iterator",none,.fields #[.ref p.1,.int 0 0],#[]⟩:Obj).isFreed=false:=rfl
      refine wpAny_pyIter_list (isList_of hg) ?_
      refine comp_start0 (s:={ s₁ with heap:=s₁.heap.push { cls:=.type "list_iterator",data:=.fields #[.ref p.1,.int 0 0] } }) (foot:=[s₁.heap.objs.size]) (t:=t) hsc c3 q1 q2 S1 rfl (fun _ h=>h) (fun _ _ h=>h) keeps_push (Mo.more keeps_push) (S1.hr.more keeps_push)
       (fun b hb=>by rw [List.mem_singleton.mp hb];exact ⟨Heap.get?_none_of_le (Nat.le_refl _),_,Heap.get?_push_size _ hfr⟩) ⟨s₁.toks,rfl⟩ (fun s' Q' E' k' y=>?_) fun a C ι3 s' z S3 acc hs' hfa hfC M3 hh3 hn3 k3 hcl=>?_
      ·exact wpAny_pyIter_listiter (i:=0) ⟨_,k' _ _ (Heap.get?_push_size _ hfr),rfl,rfl⟩ y
      ·refine comp_at (cenv:=compEnvC scope cl C env) (ρ:=ρ) (L:=L) (p:=p) hf Rm ⟨e0,r0,hd1,hd2⟩ hL rfl h1 c6 (by subst hsc;rfl) c4 c5 (notQ c5) (fun y=>hfa (by rw [y];exact List.mem_cons_self)) (fun y=>hfC (by have y':C=_:=y;rw [y'];exact List.mem_cons_self)) hcl (ds.length+1) 0 [] [] 0 ι3 σ₁ s' z S3 acc .nil hs' (by simp;omega) ⟨_,k3 _ _ (Heap.get?_push_size _ hfr),rfl,rfl⟩ (by rw [hn3];exact ep) ?_
       simpa using O1
     ·exact O1.elim
  |none=>exact O1.elim
  |bool _=>exact O1.elim
  |int _=>exact O1.elim
  |str _=>exact O1.elim
  |opq=>exact O1.elim
 ·cases hc
end
end Mine
end
section
set_option maxRecDepth 100000
open PySem PySem.Spec PySem.Calls PyProof.Rows PySem.W
namespace Mine
theorem zipD_len:∀(xs ys:List D),(zipD xs ys).length≤xs.length
 |[],_=>Nat.le_refl _
 |_::_,[]=>Nat.zero_le _
 |x::xs,y::ys=>Nat.succ_le_succ (zipD_len xs ys)
section
variable {prog:Program}{w:World}{base:Heap}{K:Frag}{mg mb:Str→Option Value}{n:Nat}{cf:Nat→List D→M D}
variable {fl:List PEnv}{ι0 ι ι':Io}{s0 s:Shared}{σ:Hp}{ρ ρ':Ve}{A:Around}{env cenv:PEnv}{NE:NEt}{sc scope:PySem.Scope}{E:Value→Shared→Prop}{C a L:Nat}{foot:List Nat}
theorem co_compz {x y z:Ex}{i j:Nat}(W:Wd prog w base K mg mb n cf)(h1:EvOK prog w base K n cf x)(h2:EvOK prog w base K n cf y)(h3:EvsOK prog w base K n cf (.cons y (.cons z .nil))):CoOK prog w base K n cf (.compz x i j y z):=by
 intro fl A sc NE e env ι s σ ρ Q E hc hf Rm hsc S O
 simp only [chkE] at hc
 split at hc
 ·rename_i elt target zn zp l r cpos scope pos
  simp only [Bool.and_eq_true] at hc
  obtain ⟨⟨⟨⟨⟨⟨⟨⟨c0,c1'⟩,c1⟩,c2'⟩,c2⟩,c3⟩,c4⟩,c5⟩,c6⟩:=hc
  have cA:chkEs K (.cons y (.cons z .nil)) sc NE [l,r]=true:=by simp only [chkEs,Bool.and_eq_true];exact ⟨⟨c1',c1⟩,⟨c2',c2⟩,trivial⟩
  have O':OutG prog w base fl VR ι s (((evEs clsT cf (.cons y (.cons z .nil)) ρ).bind fun ds=>match ds with
   |[d,e]=>(match items d,items e with
    |some xs,some ys=>if xs.length≤most∧ys.length≤most then (compL (evE clsT cf x) (.p [i,j]) ρ (zipD xs ys)).bind fun zs=>M.ret (.lst zs) else M.fail
    |_,_=>M.fail)
   |_=>M.fail) σ) Q E:=by
   rw [evE] at O
   rw [evEs,evEs,evEs]
   simp only [M.assoc]
   exact O
  refine ⟨_,_,_,_,_,_,rfl,rfl,c3,fun cl q1 q2=>?_⟩
  refine Call_ (glob_at W S (by rw [hsc];exact isTy_of c0) _ ?_)
  refine call_own (fun a q=>by cases q) h3 cA hf Rm hsc S O' fun vs s₁ ds σ₁ ι₁ _ S1 r O1=>?_
  match ds,vs,r,O1 with
  |[],_,_,O1=>exact O1.elim
  |[_],_,_,O1=>exact O1.elim
  |_::_::_::_,_,_,O1=>exact O1.elim
  |[d,e],_,.cons (v:=v) rd (.cons (v:=u) re .nil),O1 =>
   simp only at O1
   cases hd:items d with
   |none=>rw [hd] at O1;exact O1.elim
   |some xs =>
    cases he:items e with
    |none=>rw [hd,he] at O1;exact O1.elim
    |some ys =>
     rw [hd,he] at O1
     simp only at O1
     by_cases hl:xs.length≤most∧ys.length≤most
     ·have e1:(if xs.length≤most∧ys.length≤most then (compL (evE clsT cf x) (.p [i,j]) ρ (zipD xs ys)).bind fun zs=>M.ret (D.lst zs) else M.fail)=(compL (evE clsT cf x) (.p [i,j]) ρ (zipD xs ys)).bind fun zs=>M.ret (D.lst zs):=if_pos hl
      rw [e1] at O1
      refine zip_make S1.hr rd re hd he fun h' l1 l2 k al Z=>?_
      have dead:∀m,s₁.heap.get? (s₁.heap.objs.size+m)=none:=fun m=>Heap.get?_none_of_le (Nat.le_add_right _ _)
      refine zip_self (s:={ s₁ with heap:=h' }) Z ?_
      exact comp_start (ι:=ι₁.hide (s₁.heap.objs.size+3)) (s0:=s₁) (s:={ s₁ with heap:=h' }) hf Rm h1 hsc c3 c6 c4 c5 ts_nil (notQ c5) q1 q2 (wk_zip Rm.hh _ _ _ _ _ l1 l2) S1 rfl (fun b hb=>List.mem_cons_of_mem _ hb)
       (fun b hb hb' q=>by
        rcases List.mem_append.mp q with q|q
        ·exact hb' (adr_nad q)
        ·rcases List.mem_cons.mp q with q|q
         ·obtain ⟨o,e⟩:=hb
          rw [q,dead] at e
          cases e
         ·exact hb' (List.mem_append_right _ q)) k (Mo.hide k (dead 3)) (S1.hr.hide k (dead 3) (al _ (by simp))) ⟨List.mem_cons_self,xs,ys,rfl,Z⟩
       (fun b hb=>⟨by
        simp only [List.mem_cons,List.not_mem_nil,or_false] at hb
        rcases hb with rfl|rfl|rfl|rfl|rfl
        ·exact dead 4
        ·exact dead 2
        ·exact dead 3
        ·exact dead 0
        ·exact dead 1,al b hb⟩) ⟨s₁.toks,rfl⟩ (Nat.le_trans (zipD_len xs ys) hl.1) O1
     ·have e1:(if xs.length≤most∧ys.length≤most then (compL (evE clsT cf x) (.p [i,j]) ρ (zipD xs ys)).bind fun zs=>M.ret (D.lst zs) else M.fail)=M.fail:=if_neg hl
      rw [e1] at O1
      exact O1.elim
 ·cases hc
end
end Mine
end
section
set_option maxRecDepth 100000
open PySem PySem.Spec PySem.Calls PyProof.Rows PySem.W
namespace Mine
theorem zip_no_len:typeLookup (.type "zip") "__len__" = pure none:=by rw [typeLookup_type,builtinLookup_eq_fast];kernel_rfl
theorem zip_no_hint:typeLookup (.type "zip") "__length_hint__" = pure none:=by rw [typeLookup_type,builtinLookup_eq_fast];kernel_rfl
abbrev accObj (acc:Array Value)(c:Nat):Obj:={ cls:=.type "list",dict:=none,data:=.seq acc c,slots:=#[] }
section
variable {prog:Program}{w:World}{base:Heap}{K:Frag}{mg mb:Str→Option Value}{n:Nat}{cf:Nat→List D→M D}
variable {fl:List PEnv}{ι:Io}{s:Shared}{σ:Hp}{ρ:Ve}{A:Around}{env:PEnv}{NE:NEt}{sc:PySem.Scope}{E:Value→Shared→Prop}
theorem ext_loop {I S:Addr}{W foot:List Nat}{St:List D→Io→Heap→Prop}{res:Value}{R:Result→Shared→Prop}(hW:Wk prog w A.in1 I W foot St)(hSf:S∉foot)(hSh:S∈ι.hid) :
  ∀(ds us:List D) (acc:Array Value) (c:Nat) (s:Shared),St ds ι s.heap→(∀a∈adr ι,∃o,s.heap.get? a=some o)→s.heap.get? S=some (accObj acc c)→VRs ι s.heap acc.toList us→us.length+ds.length≤100000 →
  (∀h' acc' c',(∀b o,b∉W→b≠S→s.heap.get? b=some o→h'.get? b=some o)→h'.get? S=some (accObj acc' c')→VRs ι h' acc'.toList (us++ds)→R (.ok (.ret res)) { s with heap:=h' }) →
  codeAny (model prog w) A (.builtin "list.extend.loop" ⟨[.ref S,.ref I,res],[]⟩) R s:=by
 have hSW:S∉W:=fun q=>hSf (hW.sub S q)
 intro ds
 induction ds with
 |nil =>
  intro us acc c s st al hS r hl hR
  refine codeAny_builtin PySem.F.entry_extend_loop ?_
  rw [Around.under_plainId PySem.F.plain_extend_loop _]
  show wpAny _ A.in1 (pyNext (.ref I) >>= _) _ _ s
  refine wpAny_bind (hW.done ι s _ _ st fun h' k=>?_)
  exact wpAny_pure (hR h' acc c (fun b o hb _ e=>k b o hb e) (k S _ hSW hS) (by rw [List.append_nil];exact r.mono (Mo.but k (hW.own _ _ _ st)) trivial))
 |cons d ds ih =>
  intro us acc c s st al hS r hl hR
  refine codeAny_builtin PySem.F.entry_extend_loop ?_
  rw [Around.under_plainId PySem.F.plain_extend_loop _]
  show wpAny _ A.in1 (pyNext (.ref I) >>= _) _ _ s
  refine wpAny_bind (hW.item d ds ι s _ _ st al fun v h' k alW rv st'=>?_)
  have hS':=k S _ hSW hS
  have hlen:acc.size=us.length:=by have:=r.length;simpa using this
  have hz:us.length < 100000:=by simp only [List.length_cons] at hl;omega
  have r1:VRs ι h' acc.toList us:=r.mono (Mo.but k (hW.own _ _ _ st)) trivial
  show wpAny _ A.in1 (updateSeq S (·.push v) >>= _) _ _ _
  refine wpAny_bind ?_
  have hsl:(100000:Nat)≤sizeLine:=by rw [sizeLine_eq];decide
  refine wpAny_updateSeq hS' rfl (wpAny_pure ⟨plainId_quiet PySem.F.plain_extend_loop _,?_⟩) (by rw [hlen];omega) (by show (acc.push v).size≤sizeLine+1;rw [Array.size_push,hlen];omega)
  have oth:∀b o,b≠S→h'.get? b=some o→(h'.update S (Obj.mapSeq (·.push v))).get? b=some o:=fun b o hb e=>(Heap.get?_update_other _ _ (Ne.symm hb)).trans e
  have g:=Heap.get?_update_self (Obj.mapSeq (·.push v)) hS' rfl
  have M1:Mo ι ι h' (h'.update S (Obj.mapSeq (·.push v))):=Mo.but (W:=[S]) (fun b o hb e=>oth b o (fun q=>hb (q▸List.mem_singleton.mpr rfl)) e) (fun b hb=>.inl (by rw [List.mem_singleton.mp hb];exact List.mem_append_right _ hSh))
  refine ih (us++[d]) (acc.push v) _ _ (hW.move _ _ _ _ _ st' M1 (fun _ q=>q) fun b hb o e=>oth b o (fun q=>hSf (q▸hb)) e) (fun a ha=>?_) g (by rw [Array.toList_push];exact (r1.append (.cons rv .nil)).mono M1 trivial) (by simp only [List.length_append,List.length_cons,List.length_nil] at hl ⊢;omega) fun h₂ acc' c' k₂ hS₂ r₂=>?_
  ·by_cases q:a=S
   ·exact ⟨_,by rw [q];exact g⟩
   ·by_cases q':a∈W
    ·obtain ⟨o,e⟩:=alW a q'
     exact ⟨o,oth a o q e⟩
    ·obtain ⟨o,e⟩:=al a ha
     exact ⟨o,oth a o q (k a o q' e)⟩
  ·refine hR h₂ acc' c' (fun b o hb hb' e=>k₂ b o hb hb' (oth b o hb' (k b o hb e))) hS₂ (by rwa [List.append_assoc] at r₂)
theorem list_zip {z TI TO i1 i2 l1 l2:Addr}{xs ys:List D}{Q:Value→Shared→Prop}(hh:A.handled=none)(hA:∀a∈adr ι,∃o,s.heap.get? a=some o)(hTO:TO∈ι.hid)(Z:ZipR ι s.heap z TI TO i1 i2 l1 l2 xs ys)(hf:∀b∈[z,TI,TO,i1,i2],∃o,s.heap.get? b=some o)(hl:xs.length≤100000)
  (hQ:∀h' acc' c',(∀b o,b∉[z,TI,TO,i1,i2]→s.heap.get? b=some o→h'.get? b=some o)→h'.get? s.heap.objs.size=some (accObj acc' c')→VRs (ι.hide s.heap.objs.size) h' acc'.toList (zipD xs ys)→Q (.ref s.heap.objs.size) { s with heap:=h' }) :
  wpAny (model prog w) A (call (.type "list") [.ref z]) Q E s:=by
 refine callType_codes (Q₁:=fun obj s₁=>obj=.ref s.heap.objs.size∧s₁={ s with heap:=s.heap.push { cls:=.type "list",data:=.seq #[] } }) PySem.F.called_list (PySem.F.typeCall_list_1 _) PySem.F.entry_list_init
  (code_list_new _ ⟨rfl,rfl⟩) fun obj s₁ h₁=>?_
 obtain ⟨rfl,rfl⟩:=h₁
 have dS:s.heap.get? s.heap.objs.size=none:=Heap.get?_none_of_le (Nat.le_refl _)
 have hSf:s.heap.objs.size∉[z,TI,TO,i1,i2]:=fun q=>by obtain ⟨o,e⟩:=hf _ q;rw [dS] at e;cases e
 have hW:Wk prog w A.in1.in1 z [z,TO,i1,i2] [z,TI,TO,i1,i2] (fun ds ι h=>TO∈ι.hid∧∃xs ys,ds=zipD xs ys∧ZipR ι h z TI TO i1 i2 l1 l2 xs ys):=wk_zip (A:=A.in1.in1) hh z TI TO i1 i2 l1 l2
 have hW2:Wk prog w A.in1.in1 z [z,TO,i1,i2] [z,TI,TO,i1,i2] (fun ds ι h=>TO∈ι.hid∧∃xs ys,ds=zipD xs ys∧ZipR ι h z TI TO i1 i2 l1 l2 xs ys):=wk_zip (A:=A.in1.in1) hh z TI TO i1 i2 l1 l2
 generalize hSe:s.heap.objs.size=S at *
 have hS:(s.heap.push { cls:=.type "list",data:=.seq #[] }).get? S=some (accObj #[] 0):=by rw [←hSe];exact Heap.get?_push_size _ rfl
 have key:∀(h:Heap) (c:Nat),(∀b o,s.heap.get? b=some o→h.get? b=some o)→h.get? S=some (accObj #[] c) →
   codeAny (model prog w) A.in1 (.builtin "list.extend.loop" ⟨[.ref S,.ref z,.none],[]⟩) (fun r s'=>wants (fun r s₂=>r=.none∧Q (.ref S) s₂) E r s') { s with heap:=h }:=by
  intro h c k hS'
  have M1:Mo ι (ι.hide S) s.heap h:=Mo.hide k dS
  have st:TO∈(ι.hide S).hid∧∃xs' ys',zipD xs ys=zipD xs' ys'∧ZipR (ι.hide S) h z TI TO i1 i2 l1 l2 xs' ys':=hW.move (zipD xs ys) ι _ s.heap h ⟨hTO,xs,ys,rfl,Z⟩ M1 (fun a q=>List.mem_cons_of_mem _ q) fun b _ o e=>k b o e
  refine ext_loop (ι:=ι.hide S) hW hSf List.mem_cons_self (zipD xs ys) [] #[] c { s with heap:=h } st (fun a ha=>?_) hS' .nil (by have:=zipD_len xs ys;simp;omega) fun h' acc' c' k' hS'' r=>?_
  ·rcases List.mem_append.mp ha with q|q
   ·obtain ⟨o,e⟩:=hA a (adr_nad q)
    exact ⟨o,k a o e⟩
   ·rcases List.mem_cons.mp q with q|q
    ·exact ⟨_,by rw [q];exact hS'⟩
    ·obtain ⟨o,e⟩:=hA a (List.mem_append_right _ q)
     exact ⟨o,k a o e⟩
  ·exact ⟨rfl,hQ h' acc' c' (fun b o hb e=>k' b o (fun q=>hb (hW.sub b q)) (fun q=>by rw [q,dS] at e;cases e) (k b o e)) hS'' (by simpa using r)⟩
 have hzT:∀(h:Heap),(∀b o,s.heap.get? b=some o→h.get? b=some o)→({ s with heap:=h }:Shared).TypeIs (.ref z) "zip" := fun h k=>by
  obtain ⟨f0,f1,e,_⟩:=Z.hz
  exact ⟨_,k _ _ e,rfl⟩
 have hSz:S≠z:=fun q=>hSf (q▸List.mem_cons_self)
 have k0:∀b o,s.heap.get? b=some o→(s.heap.push { cls:=.type "list",data:=.seq #[] }).get? b=some o:=keeps_push
 refine ⟨⟨_,hS,rfl⟩,PySem.F.args_list_init_2 _ _,?_⟩
 show wpAny _ _ (do let old ←Builtin.List.listItems (.ref S);Builtin.List.listUpdate (.ref S) (fun _=>#[]);letGo old.toList.reverse;Builtin.List.listExtendWith (.ref S) (.ref z) .none) _ _ _
 refine wpAny_bind ?_
 unfold Builtin.List.listItems
 refine wpAny_bind (wpAny_seqItems hS rfl (wpAny_pure ?_))
 show wpAny _ _ (updateSeq S (fun _=>#[]) >>= fun _=>letGo (#[]:Array Value).toList.reverse >>= fun _=>Builtin.List.listExtendWith (.ref S) (.ref z) .none) _ _ _
 refine wpAny_bind (wpAny_updateSeq hS rfl ?_)
 have hS₁:=Heap.get?_update_self (Obj.mapSeq (fun _=>(#[]:Array Value))) hS rfl
 have ne:∀{b o},s.heap.get? b=some o→b≠S:=fun {b o} e q=>by rw [q,dS] at e;cases e
 have k1:∀b o,s.heap.get? b=some o→((s.heap.push { cls:=.type "list",data:=.seq #[] }).update S (Obj.mapSeq (fun _=>(#[]:Array Value)))).get? b=some o :=
  fun b o e=>(Heap.get?_update_other _ _ (Ne.symm (ne e))).trans (k0 b o e)
 refine wpAny_bind (wpAny_letGo ?_)
 unfold Builtin.List.listExtendWith
 refine wpAny_bind (wpAny_typeOf (hzT _ k1) ?_)
 have h1:Builtin.List.listSameRef (.ref S) (.ref z)=false:=by simp [Builtin.List.listSameRef,hSz]
 have h2:(Value.type "zip" == Value.type "list")=false:=by decide
 have h3:(Value.type "zip" == Value.type "tuple")=false:=by decide
 simp only [h1,h2,h3,Bool.or_false,Bool.false_eq_true,if_false]
 have st1:TO∈(ι.hide S).hid∧∃xs' ys',zipD xs ys=zipD xs' ys'∧ZipR (ι.hide S) ((s.heap.push { cls:=.type "list",data:=.seq #[] }).update S (Obj.mapSeq (fun _=>(#[]:Array Value)))) z TI TO i1 i2 l1 l2 xs' ys' :=
  hW.move (zipD xs ys) ι _ s.heap _ ⟨hTO,xs,ys,rfl,Z⟩ (Mo.hide k1 dS) (fun a q=>List.mem_cons_of_mem _ q) fun b _ o e=>k1 b o e
 refine wpAny_bind (hW2.self _ _ _ _ _ st1 ?_)
 refine wpAny_bind (wpAny_holding ?_)
 unfold Builtin.List.listLengthHint
 refine wpAny_bind (wpAny_specialOf (hzT _ k1) zip_no_len ?_)
 show wpAny _ _ (specialOf (Value.ref z) (Str.ofString "__length_hint__") >>= _) _ _ _
 refine wpAny_bind (wpAny_specialOf (hzT _ k1) zip_no_hint ?_)
 refine wpAny_pure ?_
 show wpAny _ _ (rule "list.extend.makes-room" >>= fun _=>Builtin.List.listTouch (.ref S) >>= fun _ =>
  again (.builtin "list.extend.loop" ⟨[.ref S,.ref z,.none],[]⟩)) _ _ _
 refine wpAny_bind (wpAny_rule ?_)
 refine wpAny_bind ?_
 show wpAny _ _ (updateSeq S (·.push .none) >>= fun _=>updateSeq S (·.pop)) _ _ _
 refine wpAny_bind (wpAny_updateSeq hS₁ rfl ?_)
 have hS₂:=Heap.get?_update_self (Obj.mapSeq (·.push Value.none)) hS₁ rfl
 refine wpAny_updateSeq (hz:=by seq_fits) hS₂ rfl ?_
 have hS₃:=Heap.get?_update_self (Obj.mapSeq (·.pop)) hS₂ rfl
 refine wpAny_pure ⟨plainId_quiet PySem.F.plain_extend_loop _,?_⟩
 exact key _ _ (fun b o e=>(Heap.get?_update_other _ _ (Ne.symm (ne e))).trans ((Heap.get?_update_other _ _ (Ne.symm (ne e))).trans (k1 b o e))) hS₃
end
end Mine
end
section
set_option maxRecDepth 100000
open PySem PySem.Spec PySem.Calls PyProof.Rows PySem.W
namespace Mine
theorem slot_zip_ga:Slot "zip" "__getattribute__" "zip.__getattribute__" :=
 .of (owner := "zip") (n := "__getattribute__") (by rw [typeLookup_type,builtinLookup_eq_fast];kernel_rfl) (by decide +kernel) (by decide +kernel) (by decide +kernel)
  (by first|exact .inl (by decide +kernel)|exact .inr (by decide +kernel)) (by rw [isSubtype_type];kernel_rfl)
theorem entry_zip_ga:entryFor table "zip.__getattribute__" = some Builtin.«object.__getattribute__» :=
 entryFor_alias (id' := "object.__getattribute__") (by kernel_rfl) (by first|rfl|decide +kernel) (by decide +kernel) (by kernel_rfl)
theorem zip_no_keys:typeLookup (.type "zip") "keys" = pure none:=by rw [typeLookup_type,builtinLookup_eq_fast];kernel_rfl
theorem zip_no_getattr:typeLookup (.type "zip") "__getattr__" = pure none:=by rw [typeLookup_type,builtinLookup_eq_fast];kernel_rfl
theorem args_zip_ga (a b:Value):argsOk "zip.__getattribute__" ⟨[a,b],[]⟩:=by
 unfold argsOk;rw [signature?_of (id := "zip.__getattribute__") (n:=['_','_','e','t','u','b','i','r','t','t','a','t','e','g','_','_']) (o:=['p','i','z']) (by kernel_rfl) PySem.F.owner_zip];kernel_rfl
theorem plain_update_loop:plainId "dict.update.loop" = true:=by decide +kernel
theorem entry_update_loop:entryFor table "dict.update.loop" = some Builtin.«dict.update.loop» := entryFor_of_tree (by kernel_rfl)
theorem zip_miss (a:Addr)(vs:Array Value)(u:Tok) :
  Meets (Builtin.«object.__getattribute__» ⟨[.ref a,.str "keys" u],[]⟩) (fun A R s=>s.heap.get? a=some { cls:=.type "zip",dict:=none,data:=.fields vs,slots:=#[] }∧raisesAttr (.ref a) "keys" A R s) :=
 Meets.of_wp fun prog w A R s hs=>by
  obtain ⟨hp,g,d,tk,os⟩:=s
  obtain ⟨hx,hs⟩:=hs
  have hT:(⟨hp,g,d,tk,os⟩:Shared).TypeIs (.ref a) "zip" := ⟨_,hx,rfl⟩
  have hname:(["__module__", "__name__", "__qualname__", "__doc__", "__annotations__"]:List Str).contains (Str.ofString "keys")=false:=by decide +kernel
  have f1:=zip_no_keys
  unfold Builtin.«object.__getattribute__»
  repeat (any_goals (first|assumption|wp_step))
  exact wpAny_raiseAttrError hs.1 hs.2 (attrMsg_fits (by decide +kernel) (by size_fits))
section
variable {prog:Program}{w:World}{base:Heap}{K:Frag}{mg mb:Str→Option Value}{n:Nat}{cf:Nat→List D→M D}
variable {fl:List PEnv}{ι:Io}{s:Shared}{σ:Hp}{ρ:Ve}{A:Around}{env:PEnv}{NE:NEt}{sc:PySem.Scope}{E:Value→Shared→Prop}
theorem zip_keys {a:Addr}{vs:Array Value}{Q:Option Value→Shared→Prop}(hx:s.heap.get? a=some { cls:=.type "zip",dict:=none,data:=.fields vs,slots:=#[] })(hA:A.handled=none)
  (h:∀h' tk,(∀b o,s.heap.get? b=some o→h'.get? b=some o)→Q none { s with heap:=h',toks:=tk }):wpAny (model prog w) A (getAttr? (.ref a) "keys") Q E s:=by
 obtain ⟨hp,g,d,tk,os⟩:=s
 have hT:∀tk',(⟨hp,g,d,tk',os⟩:Shared).TypeIs (.ref a) "zip" := fun _=>⟨_,hx,rfl⟩
 have f1:=sub_AttributeError
 have f3:=slot_zip_ga.lookup
 have f4:=slot_zip_ga.bind (.ref a)
 have f5:=zip_no_getattr
 unfold getAttr? getAttrBy? getAttrBy
 repeat (any_goals (first|assumption|exact hT _|((with_reducible show wpAny _ _ (call (Value.builtin "zip.__getattribute__") _ _) _ _ _);refine call_meets slot_zip_ga (hT _) entry_zip_ga (args_zip_ga _ _) (zip_miss a vs _) ⟨hx,hA,fun h' tk' e hx'=>?_⟩)|wp_step))
 obtain ⟨t',u',he⟩:=hx'.there
 have hE:(⟨h',g,d,tk',os⟩:Shared).TypeIs (.ref e) "AttributeError" := ⟨_,he,rfl⟩
 show wpAny _ _ (getattributeRaised _ _ _ _ _ _ _) _ _ _
 unfold getattributeRaised
 repeat (any_goals (first|assumption|wp_step))
 exact h _ _ hx'.keeps
theorem pairsOf_cons {d:D}{ds:List D}{kvs:List (List Nat×D)}(h:pairsOf (d::ds)=some kvs):∃k v r,d=.tup [.str k,v]∧kvs=(k,v)::r∧pairsOf ds=some r:=by
 unfold pairsOf at h
 split at h
 ·rename_i q;cases q
 ·rename_i k v r q
  cases q
  cases e:pairsOf ds with
  |none=>rw [e] at h;cases h
  |some r'=>rw [e] at h;cases h;exact ⟨k,v,r',rfl,rfl,rfl⟩
 ·cases h
theorem putV_len (es:List (Str×Value))(x:Str)(v:Value):(putV es x v).length≤es.length+1:=by
 induction es with
 |nil=>simp [putV]
 |cons p r ih =>
  obtain ⟨k,u⟩:=p
  unfold putV
  split<;>simp<;>omega
theorem upd_loop {I S:Addr}{W foot:List Nat}{St:List D→Io→Heap→Prop}{R:Result→Shared→Prop}(hW:Wk prog w A.in1 I W foot St)(hSf:S∉foot)(hSh:S∈ι.hid) :
  ∀(ds:List D) (more:List (List Nat×D)) (es:List (Str×Value)) (kvs:List (List Nat×D)) (i:Int) (ti:Tok) (s:Shared),pairsOf ds=some more→St ds ι s.heap→(∀a∈adr ι,∃o,s.heap.get? a=some o)→s.heap.DictOf (PySem.strKind prog w) S es→Ents ι s.heap es kvs→es.length+ds.length≤100000 →
  (∀h' tk es',(∀b o,b∉W→b≠S→s.heap.get? b=some o→h'.get? b=some o)→h'.DictOf (PySem.strKind prog w) S es'→Ents ι h' es' (putAll kvs more)→R (.ok (.ret .none)) { s with heap:=h',toks:=tk }) →
  codeAny (model prog w) A (.builtin "dict.update.loop" ⟨[.ref S,.ref I,.int i ti,.none],[]⟩) R s:=by
 have hSW:S∉W:=fun q=>hSf (hW.sub S q)
 intro ds
 induction ds with
 |nil =>
  intro more es kvs i ti s hp st al hS r hl hR
  cases hp
  refine codeAny_builtin entry_update_loop ?_
  rw [Around.under_plainId plain_update_loop _]
  show wpAny _ A.in1 (pyNext (.ref I) >>= _) _ _ s
  refine wpAny_bind (hW.done ι s _ _ st fun h' k=>?_)
  refine wpAny_bind (wpAny_pure ?_)
  exact wpAny_pure (hR h' s.toks es (fun b o hb _ e=>k b o hb e) (let ⟨o,es,ep,e,r⟩:=hS;⟨o,es,ep,k S o hSW e,r⟩) (r.mono (Mo.but k (hW.own _ _ _ st)) trivial))
 |cons d ds ih =>
  intro more es kvs i ti s hp st al hS r hl hR
  obtain ⟨kx,dv,more',rfl,rfl,hp'⟩:=pairsOf_cons hp
  refine codeAny_builtin entry_update_loop ?_
  rw [Around.under_plainId plain_update_loop _]
  show wpAny _ A.in1 (pyNext (.ref I) >>= _) _ _ s
  refine wpAny_bind (hW.item _ ds ι s _ _ st al fun v h' k alW rv st'=>?_)
  have hS':h'.DictOf (PySem.strKind prog w) S es:=let ⟨o,es,ep,e,r⟩:=hS;⟨o,es,ep,k S o hSW e,r⟩
  have r1:Ents ι h' es kvs:=r.mono (Mo.but k (hW.own _ _ _ st)) trivial
  cases rv with
  |@tup T vs _ hT hTn rvs =>
   cases rvs with
   |@cons v1 _ _ _ rk rvs' =>
   cases rvs' with
   |@cons v2 _ _ _ rd rn =>
   cases rn
   cases rk with
   |str x tx =>
   obtain ⟨oT,eT,cT,nT,qT⟩:=hT
   have hTT:({ s with heap:=h' }:Shared).TypeIs (.ref T) "tuple" := ⟨_,eT,cT⟩
   refine wpAny_bind (wpAny_holding ?_)
   refine wpAny_bind (wpAny_tryCatch ?_)
   unfold Builtin.Dict.pairItems
   refine wpAny_bind (wpAny_typeOf hTT ?_)
   rw [if_pos (by decide)]
   refine wpAny_bind (wpAny_seqItems (s:={ s with heap:=h' }) eT qT (wpAny_pure ?_))
   show wpAny _ _ (holding [Value.str x tx,v2] (dictSet S (.str x tx) v2)) _ _ _
   refine wpAny_holding (wpAny_dictSet_pairs (knd:=PySem.strKind prog w) (k:=x) (by simp [PySem.strKind,Value.isStrOf]) hS' (fun h₂ hd₂ hs₂=>?_) (by rw [sizeLine_eq];simp only [List.length_cons] at hl;omega))
   rw [stored_eq (dictOf_nodup hS')] at hd₂
   refine wpAny_pure ⟨plainId_quiet plain_update_loop _,?_⟩
   have oth:∀b o,b≠S→h'.get? b=some o→h₂.get? b=some o:=fun b o hb e=>(hs₂.2 b hb).trans e
   have M1:Mo ι ι h' h₂:=Mo.but (W:=[S]) (fun b o hb e=>oth b o (fun q=>hb (q▸List.mem_singleton.mpr rfl)) e) (fun b hb=>.inl (by rw [List.mem_singleton.mp hb];exact List.mem_append_right _ hSh))
   have r2:Ents ι h₂ (putV es x v2) (putK kvs x.cps.toList dv):=by
    have:=r1.put (x:=x.cps.toList) rd
    rw [toS_cps] at this
    exact this.mono M1 trivial
   refine ih more' _ _ _ _ { s with heap:=h₂,toks:=s.toks+1 } hp' (hW.move _ _ _ _ _ st' M1 (fun _ q=>q) fun b hb o e=>oth b o (fun q=>hSf (q▸hb)) e) (fun a ha=>?_) hd₂ r2 (by have:=putV_len es x v2;simp only [List.length_cons] at hl;omega) fun h₃ tk₃ es' k₃ hS₃ r₃=>?_
   ·by_cases q:a=S
    ·obtain ⟨o,_,_,e,_⟩:=hd₂
     exact ⟨o,by rw [q];exact e⟩
    ·by_cases q':a∈W
     ·obtain ⟨o,e⟩:=alW a q'
      exact ⟨o,oth a o q e⟩
     ·obtain ⟨o,e⟩:=al a ha
      exact ⟨o,oth a o q (k a o q' e)⟩
   ·exact hR h₃ tk₃ es' (fun b o hb hb' e=>k₃ b o hb hb' (oth b o hb' (k b o hb e))) hS₃ r₃
theorem dict_zip {z TI TO i1 i2 l1 l2:Addr}{xs ys:List D}{kvs:List (List Nat×D)}{Q:Value→Shared→Prop}(hh:A.handled=none)(hA:∀a∈adr ι,∃o,s.heap.get? a=some o)(hTO:TO∈ι.hid)(Z:ZipR ι s.heap z TI TO i1 i2 l1 l2 xs ys)(hf:∀b∈[z,TI,TO,i1,i2],∃o,s.heap.get? b=some o)(hp:pairsOf (zipD xs ys)=some kvs)(hl:kvs.length≤100000)
  (hQ:∀h' tk es,(∀b o,b∉[z,TI,TO,i1,i2]→s.heap.get? b=some o→h'.get? b=some o)→h'.DictOf (PySem.strKind prog w) s.heap.objs.size es→Ents (ι.hide s.heap.objs.size) h' es (putAll [] kvs)→Q (.ref s.heap.objs.size) { s with heap:=h',toks:=tk }) :
  wpAny (model prog w) A (call (.type "dict") [.ref z]) Q E s:=by
 refine callType_codes (Q₁:=fun obj s₁=>obj=.ref s.heap.objs.size∧s₁={ s with heap:=s.heap.push { cls:=.type "dict",data:=.dict #[] } }) PySem.F.kt_called_dict (PySem.F.kt_typeCall_dict_1 _) PySem.F.entry_dict_init (kt_code_dict_new _ ⟨rfl,rfl⟩) ?_
 rintro obj s₁ ⟨rfl,rfl⟩
 have dS:s.heap.get? s.heap.objs.size=none:=Heap.get?_none_of_le (Nat.le_refl _)
 have hSf:s.heap.objs.size∉[z,TI,TO,i1,i2]:=fun q=>by obtain ⟨o,e⟩:=hf _ q;rw [dS] at e;cases e
 have hnew:(s.heap.push { cls:=.type "dict",data:=.dict #[] }).DictOf (PySem.strKind prog w) s.heap.objs.size []:=Heap.DictOf.new s.heap
 have k0:∀b o,s.heap.get? b=some o→(s.heap.push { cls:=.type "dict",data:=.dict #[] }).get? b=some o:=keeps_push
 have hW:Wk prog w A.in1.in1 z [z,TO,i1,i2] [z,TI,TO,i1,i2] (fun ds ι h=>TO∈ι.hid∧∃xs ys,ds=zipD xs ys∧ZipR ι h z TI TO i1 i2 l1 l2 xs ys):=wk_zip (A:=A.in1.in1) hh z TI TO i1 i2 l1 l2
 generalize hSe:s.heap.objs.size=S at *
 obtain ⟨f0,f1,hz,hf0⟩:=Z.hz
 have hz1:=k0 _ _ hz
 have hzT:({ s with heap:=s.heap.push { cls:=.type "dict",data:=.dict #[] } }:Shared).TypeIs (.ref z) "zip" := ⟨_,hz1,rfl⟩
 refine ⟨hnew.typeIs,PySem.F.args_dict_init_2 _ _,?_⟩
 unfold Builtin.«dict.__init__»
 refine wpAny_bind ?_
 unfold Builtin.Dict.selfAndRest
 refine wpAny_bind (wpAny_notOrdered_dict hnew.typeIs ?_)
 show wpAny _ _ (pure (S,[Value.ref z])) _ _ _
 refine wpAny_pure ?_
 show wpAny _ _ (Builtin.Dict.updateFrom "dict.__init__" S (.ref z) [] .none) _ _ _
 unfold Builtin.Dict.updateFrom
 refine wpAny_bind (wpAny_typeOf hzT ?_)
 rw [if_pos (by decide)]
 refine wpAny_bind (zip_keys hz1 hh fun h' tk k1=>?_)
 rw [if_pos (show (Option.isNone (none:Option Value))=true from rfl)]
 refine wpAny_bind (wpAny_rule ?_)
 have k2:∀b o,s.heap.get? b=some o→h'.get? b=some o:=fun b o e=>k1 b o (k0 b o e)
 have hnew':h'.DictOf (PySem.strKind prog w) S []:=let ⟨o,es,ep,e,r⟩:=hnew;⟨o,es,ep,k1 _ o e,r⟩
 have M1:Mo ι (ι.hide S) s.heap h':=Mo.hide k2 dS
 have st:TO∈(ι.hide S).hid∧∃xs' ys',zipD xs ys=zipD xs' ys'∧ZipR (ι.hide S) h' z TI TO i1 i2 l1 l2 xs' ys':=hW.move (zipD xs ys) ι _ s.heap h' ⟨hTO,xs,ys,rfl,Z⟩ M1 (fun a q=>List.mem_cons_of_mem _ q) fun b _ o e=>k2 b o e
 refine wpAny_bind (hW.self _ _ { s with heap:=h',toks:=tk } _ _ st ?_)
 have hpl:∀{ds:List D} {kvs:List (List Nat×D)},pairsOf ds=some kvs→ds.length=kvs.length:=by
  intro ds
  induction ds with
  |nil=>intro kvs h;cases h;rfl
  |cons d ds ih =>
   intro kvs h
   obtain ⟨_,_,r,_,rfl,h'⟩:=pairsOf_cons h
   simp [ih h']
 refine wpAny_pure ⟨plainId_quiet plain_update_loop _,?_⟩
 refine upd_loop (ι:=ι.hide S) hW hSf List.mem_cons_self (zipD xs ys) kvs [] [] _ _ { s with heap:=h',toks:=tk } hp st (fun a ha=>?_) hnew' .nil (by rw [hpl hp];simpa using hl) fun h₂ tk₂ es' k₂ hd r=>?_
 ·rcases List.mem_append.mp ha with q|q
  ·obtain ⟨o,e⟩:=hA a (adr_nad q)
   exact ⟨o,k2 a o e⟩
  ·rcases List.mem_cons.mp q with q|q
   ·obtain ⟨o,_,_,e,_⟩:=hnew'
    exact ⟨o,by rw [q];exact e⟩
   ·obtain ⟨o,e⟩:=hA a (List.mem_append_right _ q)
    exact ⟨o,k2 a o e⟩
 ·exact ⟨rfl,hQ h₂ tk₂ es' (fun b o hb e=>k₂ b o (fun q=>hb (hW.sub b q)) (fun q=>by rw [q,dS] at e;cases e) (k2 b o e)) hd r⟩
theorem OutG.dictNew2 {es:List (Str×Value)}{kvs:List (List Nat×D)}{t:Nat}{h':Heap}{Q:Value→Shared→Prop}(O:OutG prog w base fl VR ι s (alloc (.dict kvs) σ) Q E)(H:HR prog w base ι σ s.heap)(k:∀b o,s.heap.get? b=some o→h'.get? b=some o){a:Nat}(ha:s.heap.get? a=none)(hlo:mainGlobals < a)
  (hd:h'.DictOf (PySem.strKind prog w) a es) (r:Ents ι h' es kvs):Q (.ref a) { s with heap:=h',toks:=t }:=by
 have M1:Mo ι (ι.add (a,none)) h' h':=⟨List.prefix_append ..,fun b hb=>by
  rcases List.mem_append.mp hb with q|q
  ·refine (add_new q).imp adr_nad fun z o xs n e=>?_
   rcases z with rfl|z
   ·obtain ⟨o',_,_,e',_,e3,_⟩:=hd
    rw [e] at e'
    cases e'
    rw [e3]
    intro q
    cases q
   ·cases z
  ·exact .inl (List.mem_append_right _ q),fun b o _ _ e _ _=>e⟩
 refine O _ (ι.add (a,none)) _ t (Ext.alloc k ?_) (H.alloc k ?_ ?_ (by simp) (.dict hd (r.mono M1 trivial))) (.loc (p:=(a,none)) (by rw [←H.len];simp))
 ·rintro b (rfl|q)
  ·exact ha
  ·cases q
 ·rintro b (rfl|q)
  ·exact ha
  ·cases q
 ·rintro b (rfl|q)
  ·exact hlo
  ·cases q
theorem ev_overzip {b:Bi}{es:Exs}{T:String}{x y:Str}{p py pz pos:Pos}{l:List PySem.Expr}{Q:Value→Shared→Prop}(W:Wd prog w base K mg mb n cf)(h2:EvsOK prog w base K n cf es)
  (c0:isTy (glob K sc x) T=true) (c1:isTy (glob K sc y) "zip" = true) (c2:chkEs K es sc NE l=true) (hf:A.frames=some fl) (Rm:Room A n) (hsc:env.scope=sc) (S:SR prog w base fl env NE ι σ ρ s.heap)
  (hb:∀as σ,(∀a c,as≠[a,c])→biD b as σ=.no) (O:OutG prog w base fl VR ι s (evE clsT cf (.bi b es) ρ σ) Q E)
  (k:∀s₁ ι₁ σ₁ v u a c xs ys,SR prog w base fl env NE ι₁ σ₁ ρ s₁.heap→VR ι₁ s₁.heap v a→VR ι₁ s₁.heap u c→items a=some xs→items c=some ys→OutG prog w base fl VR ι₁ s₁ (biD b [a,c] σ₁) Q E →
   ∀h' l1 l2,(∀c o,s₁.heap.get? c=some o→h'.get? c=some o)→(∀c∈[s₁.heap.objs.size+4,s₁.heap.objs.size+2,s₁.heap.objs.size+3,s₁.heap.objs.size,s₁.heap.objs.size+1],∃o,h'.get? c=some o) →
   ZipR (ι₁.hide (s₁.heap.objs.size+3)) h' (s₁.heap.objs.size+4) (s₁.heap.objs.size+2) (s₁.heap.objs.size+3) s₁.heap.objs.size (s₁.heap.objs.size+1) l1 l2 xs ys→wpAny (model prog w) A (call (.type T) [.ref (s₁.heap.objs.size+4)]) Q E { s₁ with heap:=h' })
  (hi:∀a c σ,(items a=none∨items c=none)→biD b [a,c] σ=.no) :
  wpAny (model prog w) A (eval (.Call (.Name x p) [.Call (.Name y py) l [] pz] [] pos) env) Q E s:=by
 rw [evE] at O
 refine Call_ (glob_at W S (by rw [hsc];exact isTy_of c0) _ ?_)
 refine callWith_of (P:=fun _=>True) rfl (fun h _=>keeps_M0 (fun a q=>by cases q) h) ?_
 refine evalArgs_plain (spliced_cons (Call_ (glob_at W S (by rw [hsc];exact isTy_of c1) _ ?_)))
 refine call_own (fun a q=>by cases q) h2 c2 hf Rm hsc S O fun vs s₁ ds σ₁ ι₁ _ S1 r O1=>?_
 match ds,vs,r,O1 with
 |[],_,_,O1=>rw [hb _ _ (fun a c q=>by cases q)] at O1;exact O1.elim
 |[_],_,_,O1=>rw [hb _ _ (fun a c q=>by cases q)] at O1;exact O1.elim
 |_::_::_::_,_,_,O1=>rw [hb _ _ (fun a c q=>by cases q)] at O1;exact O1.elim
 |[d,e],_,.cons (v:=v) rd (.cons (v:=u) re .nil),O1 =>
  cases hd:items d with
  |none=>rw [hi d e σ₁ (.inl hd)] at O1;exact O1.elim
  |some xs =>
   cases he:items e with
   |none=>rw [hi d e σ₁ (.inr he)] at O1;exact O1.elim
   |some ys =>
    refine zip_make S1.hr rd re hd he fun h' l1 l2 kk al Z=>?_
    exact spliced_nil ⟨trivial,k s₁ ι₁ σ₁ v u d e xs ys S1 rd re hd he O1 h' l1 l2 kk al Z⟩
theorem alive_hide {ι:Io}{a:Nat}{h h':Heap}(H:HR prog w base ι σ h)(k:∀c o,h.get? c=some o→h'.get? c=some o)(ha:∃o,h'.get? a=some o):∀b∈adr (ι.hide a),∃o,h'.get? b=some o:=fun b hb=>by
 rcases List.mem_append.mp hb with q|q
 ·obtain ⟨o,e⟩:=H.alive (adr_nad q)
  exact ⟨o,k b o e⟩
 ·rcases List.mem_cons.mp q with q|q
  ·rw [q];exact ha
  ·obtain ⟨o,e⟩:=H.alive (List.mem_append_right _ q)
   exact ⟨o,k b o e⟩
theorem ev_listzip {es:Exs}(W:Wd prog w base K mg mb n cf)(h2:EvsOK prog w base K n cf es):EvOK prog w base K n cf (.bi .listzip es):=by
 intro fl A sc NE x env ι s σ ρ Q E hc hf Rm hsc S O
 simp only [chkE] at hc
 split at hc
 ·rename_i x p args pos
  simp only [Bool.and_eq_true] at hc
  obtain ⟨c0,c1⟩:=hc
  split at c1
  ·rename_i y py l pz
   simp only [Bool.and_eq_true] at c1
   refine ev_overzip (b:=.listzip) W h2 c0 c1.1 c1.2 hf Rm hsc S (fun as σ q=>?_) O (fun s₁ ι₁ σ₁ v u a c xs ys S1 rv ru ha hc O1 h' l1 l2 k al Z=>?_) (fun a c σ q=>?_)
   ·unfold biD
    match as with
    |[]=>rfl
    |[_]=>rfl
    |[a,c]=>exact absurd rfl (q a c)
    |_::_::_::_=>rfl
   ·unfold biD at O1
    simp only [ha,hc] at O1
    split at O1
    ·rename_i hl
     have dead:∀m,s₁.heap.get? (s₁.heap.objs.size+m)=none:=fun m=>Heap.get?_none_of_le (Nat.le_add_right _ _)
     refine list_zip (s:={ s₁ with heap:=h' }) Rm.hh (alive_hide S1.hr k (al _ (by simp))) List.mem_cons_self Z al hl.1 fun h₂ acc c' k₂ g r=>?_
     have k₃:∀b o,s₁.heap.get? b=some o→h₂.get? b=some o:=fun b o e=>k₂ b o (fun q=>by
      simp only [List.mem_cons,List.not_mem_nil,or_false] at q
      rcases q with rfl|rfl|rfl|rfl|rfl
      ·rw [dead 4] at e;cases e
      ·rw [dead 2] at e;cases e
      ·rw [dead 3] at e;cases e
      ·have:=dead 0;rw [Nat.add_zero,e] at this;cases this
      ·rw [dead 1] at e;cases e) (k b o e)
     have r':VRs ι₁ h₂ acc.toList (zipD xs ys):=(r.mono Mo.unhide trivial).mono Mo.unhide trivial
     refine O1.more (t:=s₁.toks) S1.hr k₃ (.lst (vs:=acc.toList) ⟨_,g,rfl,c',by simp⟩ (fun q=>?_) r')
     obtain ⟨o,e⟩:=S1.hr.alive q
     exact absurd (Heap.lt_size (k _ _ e)) (Nat.lt_irrefl _)
    ·exact O1.elim
   ·unfold biD
    rcases q with q|q
    ·simp only [q]
    ·cases e:items a<;>simp [e,q]
  ·cases c1
 ·cases hc
theorem ev_dictzip {es:Exs}(W:Wd prog w base K mg mb n cf)(h2:EvsOK prog w base K n cf es):EvOK prog w base K n cf (.bi .dictzip es):=by
 intro fl A sc NE x env ι s σ ρ Q E hc hf Rm hsc S O
 simp only [chkE] at hc
 split at hc
 ·rename_i x p args pos
  simp only [Bool.and_eq_true] at hc
  obtain ⟨c0,c1⟩:=hc
  split at c1
  ·rename_i y py l pz
   simp only [Bool.and_eq_true] at c1
   refine ev_overzip (b:=.dictzip) W h2 c0 c1.1 c1.2 hf Rm hsc S (fun as σ q=>?_) O (fun s₁ ι₁ σ₁ v u a c xs ys S1 rv ru ha hc O1 h' l1 l2 k al Z=>?_) (fun a c σ q=>?_)
   ·unfold biD
    match as with
    |[]=>rfl
    |[_]=>rfl
    |[a,c]=>exact absurd rfl (q a c)
    |_::_::_::_=>rfl
   ·unfold biD at O1
    simp only [ha,hc] at O1
    cases hp:pairsOf (zipD xs ys) with
    |none=>rw [hp] at O1;exact O1.elim
    |some kvs =>
     rw [hp] at O1
     simp only at O1
     split at O1
     ·rename_i hlen
      have dead:∀m,s₁.heap.get? (s₁.heap.objs.size+m)=none:=fun m=>Heap.get?_none_of_le (Nat.le_add_right _ _)
      refine dict_zip (s:={ s₁ with heap:=h' }) Rm.hh (alive_hide S1.hr k (al _ (by simp))) List.mem_cons_self Z al hp hlen fun h₂ tk es' k₂ g r=>?_
      have k₃:∀b o,s₁.heap.get? b=some o→h₂.get? b=some o:=fun b o e=>k₂ b o (fun q=>by
       simp only [List.mem_cons,List.not_mem_nil,or_false] at q
       rcases q with rfl|rfl|rfl|rfl|rfl
       ·rw [dead 4] at e;cases e
       ·rw [dead 2] at e;cases e
       ·rw [dead 3] at e;cases e
       ·have:=dead 0;rw [Nat.add_zero,e] at this;cases this
       ·rw [dead 1] at e;cases e) (k b o e)
      have r':Ents ι₁ h₂ es' (putAll [] kvs):=(r.mono Mo.unhide trivial).mono Mo.unhide trivial
      refine O1.dictNew2 (t:=tk) S1.hr k₃ ?_ ?_ g r'
      ·cases e:s₁.heap.get? h'.objs.size with
       |none=>rfl
       |some o=>exact absurd (Heap.lt_size (k _ _ e)) (Nat.lt_irrefl _)
      ·obtain ⟨o,e⟩:=S1.hr.sys
       exact Heap.lt_size (k _ _ (S1.hr.stay _ o e))
     ·exact O1.elim
   ·unfold biD
    rcases q with q|q
    ·simp [q]
    ·cases e:items a with
     |none=>simp [e]
     |some xs=>cases xs<;>simp [e,q]
  ·cases c1
 ·cases hc
end
end Mine
end
section
set_option maxRecDepth 100000
open PySem PySem.Spec PySem.Calls PyProof.Rows PySem.W
namespace Mine
section
variable {prog:Program}{w:World}{base:Heap}{K:Frag}{mg mb:Str→Option Value}{n:Nat}{cf:Nat→List D→M D}
mutual
theorem ex_all (W:Wd prog w base K mg mb n cf):∀e:Ex,EvOK prog w base K n cf e∧TrOK prog w base K n cf e
 |.lit d=>⟨ev_lit W,tr_plain (ev_lit W) fun sc NE x env whole hc=>by cases x<;>first|rfl|(cases hc;done)⟩
 |.neg k=>⟨ev_neg W,tr_plain (ev_neg W) fun sc NE x env whole hc=>by simp only [chkE] at hc;split at hc<;>first|rfl|(cases hc;done)⟩
 |.var i=>⟨ev_var W,tr_plain (ev_var W) fun sc NE x env whole hc=>by simp only [chkE] at hc;split at hc<;>first|rfl|(cases hc;done)⟩
 |.tup es=>have h:=ev_tup (evs_all (exs_all W es));⟨h,tr_plain h fun sc NE x env whole hc=>by simp only [chkE] at hc;split at hc<;>first|rfl|(cases hc;done)⟩
 |.vlist es=>have h:=ev_vlist (evs_all (exs_all W es));⟨h,tr_plain h fun sc NE x env whole hc=>by simp only [chkE] at hc;split at hc<;>first|rfl|(cases hc;done)⟩
 |.mlist es=>have h:=ev_mlist (evs_all (exs_all W es));⟨h,tr_plain h fun sc NE x env whole hc=>by simp only [chkE] at hc;split at hc<;>first|rfl|(cases hc;done)⟩
 |.mdict ks es=>have h:=ev_mdict (ks:=ks) (exs_all W es);⟨h,tr_plain h fun sc NE x env whole hc=>by simp only [chkE] at hc;split at hc<;>first|rfl|(cases hc;done)⟩
 |.item e i=>have h:=ev_item (ex_all W e).1 (ex_all W i).1;⟨h,tr_plain h fun sc NE x env whole hc=>by simp only [chkE] at hc;split at hc<;>first|rfl|(cases hc;done)⟩
 |.lpick es i=>have h:=ev_lpick (evs_all (exs_all W es)) (ex_all W i).1;⟨h,tr_plain h fun sc NE x env whole hc=>by simp only [chkE] at hc;split at hc<;>first|rfl|(cases hc;done)⟩
 |.rev e=>have h:=ev_rev (ex_all W e).1;⟨h,tr_plain h fun sc NE x env whole hc=>by simp only [chkE] at hc;split at hc<;>first|rfl|(cases hc;done)⟩
 |.attr e a=>have h:=ev_attr (a:=a) W (ex_all W e).1;⟨h,tr_plain h fun sc NE x env whole hc=>by simp only [chkE] at hc;split at hc<;>first|rfl|(cases hc;done)⟩
 |.call f es=>have h:=ev_call (f:=f) W (evs_all (exs_all W es));⟨h,tr_plain h fun sc NE x env whole hc=>by simp only [chkE] at hc;split at hc<;>first|rfl|(cases hc;done)⟩
 |.fresh f es=>have h:=ev_fresh (f:=f) W (evs_all (exs_all W es));⟨h,tr_plain h fun sc NE x env whole hc=>by simp only [chkE] at hc;split at hc<;>first|rfl|(cases hc;done)⟩
 |.meth a e es=>have h:=ev_meth (a:=a) W (ex_all W e).1 (evs_all (exs_all W es));⟨h,tr_plain h fun sc NE x env whole hc=>by simp only [chkE] at hc;split at hc<;>first|rfl|(cases hc;done)⟩
 |.new c es=>have h:=ev_new (c:=c) W (evs_all (exs_all W es));⟨h,tr_plain h fun sc NE x env whole hc=>by simp only [chkE] at hc;split at hc<;>first|rfl|(cases hc;done)⟩
 |.bi b es =>
  have A:=exs_all W es
  have h:EvOK prog w base K n cf (.bi b es):=by
   by_cases h1:b=.dictzip
   ·subst h1;exact ev_dictzip W (evs_all A)
   ·by_cases h2:b=.listzip
    ·subst h2;exact ev_listzip W (evs_all A)
    ·exact ev_bi h1 h2 W A
  ⟨h,tr_plain h fun sc NE x env whole hc=>by simp only [chkE] at hc;split at hc<;>first|rfl|(cases hc;done)⟩
 |.bm b e es=>have h:=ev_bm (b:=b) (ex_all W e).1 (evs_all (exs_all W es));⟨h,tr_plain h fun sc NE x env whole hc=>by simp only [chkE] at hc;split at hc<;>first|rfl|(cases hc;done)⟩
 |.andor a es=>⟨ev_andor (exs_all W es),tr_andor (exs_all W es)⟩
 |.not e=>⟨ev_not (ex_all W e).1,tr_not (ex_all W e).2⟩
 |.cmp op a b=>⟨ev_cmp (ex_all W a).1 (ex_all W b).1,tr_cmp (ex_all W a).1 (ex_all W b).1⟩
 |.bin op a b=>have h:=ev_bin (op:=op) (ex_all W a).1 (ex_all W b).1;⟨h,tr_plain h fun sc NE x env whole hc=>by simp only [chkE] at hc;split at hc<;>first|rfl|(cases hc;done)⟩
 |.ite c a b=>⟨ev_ite (ex_all W c).2 (ex_all W a).1 (ex_all W b).1,tr_ite (ex_all W c).2 (ex_all W a).2 (ex_all W b).2⟩
 |.comp x t it=>have h:=ev_of_co (co_comp (t:=t) (ex_all W x).1 (ex_all W it).1);⟨h,tr_plain h fun sc NE x env whole hc=>by simp only [chkE] at hc;split at hc<;>first|rfl|(cases hc;done)⟩
 |.compc x t it c=>have h:=ev_of_co (co_compc (t:=t) (ex_all W x).1 (ex_all W it).1 (ex_all W c).2);⟨h,tr_plain h fun sc NE x env whole hc=>by simp only [chkE] at hc;split at hc<;>first|rfl|(cases hc;done)⟩
 |.compz x i j a b=>have h:=ev_of_co (co_compz (i:=i) (j:=j) W (ex_all W x).1 (ex_all W a).1 (evs_all (es:=.cons a (.cons b .nil)) ⟨ex_all W a,ex_all W b,trivial⟩));⟨h,tr_plain h fun sc NE x env whole hc=>by simp only [chkE] at hc;split at hc<;>first|rfl|(cases hc;done)⟩
 |.stuck=>⟨ev_stuck,tr_stuck⟩
theorem exs_all (W:Wd prog w base K mg mb n cf):∀es:Exs,AllOK prog w base K n cf es
 |.nil=>trivial
 |.cons e es=>⟨ex_all W e,exs_all W es⟩
end
end
end Mine
end
section
set_option maxRecDepth 100000
open PySem PySem.Spec PySem.Calls PyProof.Rows PySem.W
namespace Mine
def ownE (env:PEnv):List Nat:=env.locals::env.cells.filterMap fun p=>env.cells.lookup p.1
inductive FlR (ι:Io) (h:Heap):Flow→Fl→Prop
 |nx:FlR ι h .next .nx
 |ct:FlR ι h .cont .ct
 |rt {v:Value} {d:D}:VR ι h v d→FlR ι h (.ret v) (.rt d)
theorem FlR.mono {ι ι':Io}{h h':Heap}{f:Flow}{g:Fl}(r:FlR ι h f g)(m:Mo ι ι' h h'):FlR ι' h' f g:=by
 cases r with
 |nx=>exact .nx
 |ct=>exact .ct
 |rt v=>exact .rt (v.mono m trivial)
section
variable (prog:Program)(w:World)(base:Heap)(fl:List PEnv)(env:PEnv)(NE:NEt)
def OutS (ι:Io)(s:Shared)(r:RS)(Q:Flow→Shared→Prop)(E:Value→Shared→Prop):Prop :=
 match r with
 |.ok f ρ' σ'=>∀v ι' h' tk',Ext (fls fl) (ownE env) ι ι' s.heap h'→SR prog w base fl env NE ι' σ' ρ' h'→FlR ι' h' v f→Q v { s with heap:=h',toks:=tk' }
 |.ex c ρ' σ'=>∀x ι' h' tk',Ext (fls fl) (ownE env) ι ι' s.heap h'→SR prog w base fl env NE ι' σ' ρ' h'→ExcR base s.heap h' x (clsA c) false→E (.ref x) { s with heap:=h',toks:=tk' }
 |.no=>False
end
def bindS (r:RS)(k:Fl→Ve→Hp→RS):RS:=match r with
 |.ok f ρ h=>k f ρ h
 |.ex c ρ h=>.ex c ρ h
 |.no=>.no
def withA {α:Type}(x:R α)(ρ:Ve)(f:α→Hp→RS):RS:=match x with
 |.ok d h=>f d h
 |.ex c h=>.ex c ρ h
 |.no=>.no
theorem withD_eq {x:R D}{ρ:Ve}{f:D→Hp→RS}:withD x ρ f=withA x ρ f:=by cases x<;>rfl
def brB (x y:Hp→RS)(d:D)(h:Hp):RS:=match d with
 |.bool true=>x h
 |.bool false=>y h
 |_=>.no
section
variable {prog:Program}{w:World}{base:Heap}{K:Frag}{mg mb:Str→Option Value}{n:Nat}{cf:Nat→List D→M D}
variable {fl:List PEnv}{ι ι0 ι':Io}{s s0:Shared}{σ σ':Hp}{ρ ρ':Ve}{A:Around}{env:PEnv}{NE:NEt}{sc:PySem.Scope}{E:Value→Shared→Prop}{Q:Flow→Shared→Prop}{h':Heap}{tk':Nat}
theorem ownIn_sub {loc:Bool}{own:List Nat}(h:OwnIn env loc own):∀b∈own,b∈ownE env:=fun b hb=>by
 rcases (h b hb).1 with q|⟨y,q⟩
 ·exact q▸List.mem_cons_self
 ·exact List.mem_cons_of_mem _ (List.mem_filterMap.mpr ⟨(y,b),mem_of_lookup q,q⟩)
theorem own_in:OwnIn env false (ownE env):=fun b hb=>by
 refine ⟨?_,fun q=>by cases q⟩
 rcases List.mem_cons.mp hb with q|q
 ·exact .inl q
 ·obtain ⟨p,_,e⟩:=List.mem_filterMap.mp q
  exact .inr ⟨p.1,e⟩
theorem not_own {b:Nat}(h:NotOwn env b):b∉ownE env:=fun q=>by
 rcases (own_in b q).1 with y|⟨y,e⟩
 ·exact h.1 y
 ·exact h.2 y b e rfl
theorem OutS.later {r:RS}(O:OutS prog w base fl env NE ι s r Q E)(X:Ext (fls fl) (ownE env) ι ι' s.heap h'):OutS prog w base fl env NE ι' { s with heap:=h',toks:=tk' } r Q E:=by
 cases r with
 |ok d ρ σ'=>exact fun v ι₂ h₂ tk₂ e h r=>O v ι₂ h₂ tk₂ (X.trans e) h r
 |ex c ρ σ'=>exact fun v ι₂ h₂ tk₂ e h r=>O v ι₂ h₂ tk₂ (X.trans e) h (r.lower X.live)
 |no=>exact O
theorem OutS.expr {α β:Type}{rel:Io→Heap→β→α→Prop}{r:R α}{k:α→Hp→RS}(S:SR prog w base fl env NE ι σ ρ s.heap)
  (O:OutS prog w base fl env NE ι s (withA r ρ k) Q E) :
  OutG prog w base fl rel ι s r (fun v s₁=>∃d σ₁ ι₁,r=.ok d σ₁∧Ext (fls fl) [] ι ι₁ s.heap s₁.heap∧SR prog w base fl env NE ι₁ σ₁ ρ s₁.heap∧rel ι₁ s₁.heap v d∧(∃t,s₁={ s with heap:=s₁.heap,toks:=t })∧OutS prog w base fl env NE ι₁ s₁ (k d σ₁) Q E) E:=by
 cases r with
 |ok d σ₁=>exact fun v ι₁ h₁ tk₁ e h r=>⟨d,σ₁,ι₁,rfl,e,S.ext e h,r,⟨tk₁,rfl⟩,O.later (e.widen fun _ q=>nomatch q)⟩
 |ex c σ₁=>exact fun x ι₁ h₁ tk₁ e h X=>O x ι₁ h₁ tk₁ (e.widen fun _ q=>nomatch q) (S.ext e h) X
 |no=>exact O
theorem OutS.seq {r:RS}{k:Fl→Ve→Hp→RS}(O:OutS prog w base fl env NE ι0 s0 (bindS r k) Q E)(E0:Ext (fls fl) (ownE env) ι0 ι s0.heap s.heap)(hs:∃t,s={ s0 with heap:=s.heap,toks:=t }) :
  OutS prog w base fl env NE ι s r (fun v s₁=>∃f ρ₁ σ₁ ι₁,r=.ok f ρ₁ σ₁∧Ext (fls fl) (ownE env) ι ι₁ s.heap s₁.heap∧SR prog w base fl env NE ι₁ σ₁ ρ₁ s₁.heap∧FlR ι₁ s₁.heap v f∧(∃t,s₁={ s0 with heap:=s₁.heap,toks:=t })∧OutS prog w base fl env NE ι0 s0 (k f ρ₁ σ₁) Q E) E:=by
 obtain ⟨t0,hs0⟩:=hs
 cases r with
 |ok f ρ₁ σ₁=>exact fun v ι₁ h₁ tk₁ e h r=>⟨f,ρ₁,σ₁,ι₁,rfl,e,h,r,⟨tk₁,by rw [hs0]⟩,O⟩
 |ex c ρ₁ σ₁ =>
  intro x ι₁ h₁ tk₁ e h X
  have:=O x ι₁ h₁ tk₁ (E0.trans e) h (X.lower E0.live)
  rw [hs0]
  exact this
 |no=>exact O
theorem SR.touch {h h' lo:Heap}(S:SR prog w base fl env NE ι σ ρ h)(t:Touch lo (fls fl) h h')(hb0:∀b o,base.get? b=some o→∃o',lo.get? b=some o'):SR prog w base fl env NE ι σ ρ h':=by
 have ns:∀{b m},h.Ns b m→h'.Ns b m:=fun {b m} n=>by
  by_cases q:b∈fls fl
  ·exact ns_slot n fun o e=>t.slot b o e q
  ·obtain ⟨o,es,ep,e,d,r⟩:=n
   exact ⟨o,es,ep,t.nf b o e q (fun vs z=>by rw [d] at z;cases z),d,r⟩
 have cell:∀{b v},h.IsCell b v→h'.IsCell b v:=fun {b v} n=>by
  obtain ⟨o,e,d⟩:=n
  refine ⟨o,t.nf b o e (fun q=>?_) (fun vs z=>by rw [d] at z;cases z),d⟩
  obtain ⟨_,o',_,_,e',d',_⟩:=S.ff.ns b q
  rw [e] at e'
  cases e'
  rw [d] at d'
  cases d'
 have M:=t.mo S.ff
 refine ⟨S.hr.touch t S.ff hb0,S.ff.touch t,⟨S.fr.kind,S.fr.glob,S.fr.blt,let ⟨m,n⟩:=S.fr.ns;⟨m,ns n⟩,fun x c e=>let ⟨v,n⟩:=S.fr.cell x c e;⟨v,cell n⟩,S.fr.cinj,S.fr.cov,S.fr.offL,S.fr.offC,S.fr.cd⟩,fun x i d a b=>?_,S.tp⟩
 have V:=S.lc x i d a b
 cases V with
 |loc k' n' e' v'=>exact .loc k' (ns n') e' (v'.mono M trivial)
 |cell k' c' n' v'=>exact .cell k' c' (cell n') (v'.mono M trivial)
theorem SR.base0 (S:SR prog w base fl env NE ι σ ρ s.heap):∀b o,base.get? b=some o→∃o',s.heap.get? b=some o':=fun b o e=>⟨o,S.hr.stay b o e⟩
theorem noted_at {x C:Nat}{tr:Bool}{own:List Nat}{h₁:Heap}{tk₁:Nat}(hf:A.frames=some fl)(hb0:∀b o,base.get? b=some o→∃o',s.heap.get? b=some o')(S₁:SR prog w base fl env NE ι' σ ρ h₁)(e:Ext (fls fl) own ι ι' s.heap h₁)(X:ExcR base s.heap h₁ x C tr)
  (k:∀h₃,Ext (fls fl) own ι ι' s.heap h₃→SR prog w base fl env NE ι' σ ρ h₃→ExcR base s.heap h₃ x C false→E (.ref x) { s with heap:=h₃,toks:=tk₁ }):notedBy (model prog w) A env (cameBackBy (model prog w) A env E) (.ref x) { s with heap:=h₁,toks:=tk₁ }:=by
 obtain ⟨e0,r0,L,hd1,hd2,hL⟩:=S₁.tp
 refine noteFrame_at (s:={ s with heap:=h₁,toks:=tk₁ }) hf ⟨e0,r0,hd1,hd2⟩ S₁.ff.ff hL X S₁.hr.stay e.live fun h₂ t₂ X₂=>?_
 have S₂:=S₁.touch t₂ hb0
 have e₂:=t₂.ext e
 refine wpAny_bind (traced_field (s:={ s with heap:=h₂,toks:=tk₁ }) X₂ fun T=>?_)
 rw [if_neg (by simp)]
 refine setFlight_at (s:={ s with heap:=h₂,toks:=tk₁ }) S₂.ff.ff X₂ fun h₃ t₃ X₃=>?_
 exact k h₃ (t₃.ext e₂) (S₂.touch t₃ hb0) X₃.loose
theorem OutS.noted {r:RS}(hf:A.frames=some fl)(S:SR prog w base fl env NE ι σ ρ s.heap)(O:OutS prog w base fl env NE ι s r Q E) :
  OutS prog w base fl env NE ι s r Q (notedBy (model prog w) A env (cameBackBy (model prog w) A env E)):=by
 cases r with
 |ok f ρ₁ σ₁=>exact O
 |no=>exact O
 |ex c ρ₁ σ₁=>exact fun x ι₁ h₁ tk₁ e S₁ X=>noted_at hf S.base0 S₁ e X fun h₃ e₃ S₃ X₃=>O x ι₁ h₃ tk₁ e₃ S₃ X₃
theorem OutG.noted {α β:Type}{rel:Io→Heap→β→α→Prop}{r:R α}{Q:β→Shared→Prop}(hf:A.frames=some fl)(S:SR prog w base fl env NE ι σ ρ s.heap)(O:OutG prog w base fl rel ι s r Q E) :
  OutG prog w base fl rel ι s r Q (notedBy (model prog w) A env (cameBackBy (model prog w) A env E)):=by
 cases r with
 |ok f σ₁=>exact O
 |no=>exact O
 |ex c σ₁=>exact fun x ι₁ h₁ tk₁ e H X=>noted_at hf S.base0 (S.ext e H) e X fun h₃ e₃ S₃ X₃=>O x ι₁ h₃ tk₁ e₃ S₃.hr X₃
section
variable (prog w base K n cf)
def StOK (st:St):Prop:=∀(fl:List PEnv) (A:Around) (sc:PySem.Scope) (NE:NEt) (x:PySem.Stmt) (env:PEnv) (ι:Io) (s:Shared) (σ:Hp) (ρ:Ve) (Q:Flow→Shared→Prop) (E:Value→Shared→Prop),
 chkS K sc NE st x=true→A.frames=some fl→Room A n→env.scope=sc→SR prog w base fl env NE ι σ ρ s.heap→OutS prog w base fl env NE ι s (evS clsT cf st ρ σ) Q E→wpAny (model prog w) A (exec x env) Q E s
def StsOK (ss:Sts):Prop:=∀(fl:List PEnv) (A:Around) (sc:PySem.Scope) (NE:NEt) (l:List PySem.Stmt) (env:PEnv) (ι:Io) (s:Shared) (σ:Hp) (ρ:Ve) (Q:Flow→Shared→Prop) (E:Value→Shared→Prop),
 chkSs K sc NE ss l=true→A.frames=some fl→Room A n→env.scope=sc→SR prog w base fl env NE ι σ ρ s.heap→OutS prog w base fl env NE ι s (evSs clsT cf ss ρ σ) Q E→wpAny (model prog w) A (execs l env) Q E s
end
theorem OutS.now {f:Fl}{v:Flow}(O:OutS prog w base fl env NE ι s (.ok f ρ σ) Q E)(S:SR prog w base fl env NE ι σ ρ s.heap)(r:FlR ι s.heap v f):Q v s:=O v ι s.heap s.toks (Ext.refl ..) S r
theorem st_nil:StsOK prog w base K n cf .nil:=by
 intro fl A sc NE l env ι s σ ρ Q E hc hf Rm hsc S O
 cases l with
 |cons _ _=>cases hc
 |nil=>exact wpAny_execs_nil (O.now S .nx)
theorem st_cons {x:St}{xs:Sts}(h1:StOK prog w base K n cf x)(h2:StsOK prog w base K n cf xs):StsOK prog w base K n cf (.cons x xs):=by
 intro fl A sc NE l env ι s σ ρ Q E hc hf Rm hsc S O
 cases l with
 |nil=>cases hc
 |cons y l =>
  simp only [chkSs,Bool.and_eq_true] at hc
  have O':OutS prog w base fl env NE ι s (bindS (evS clsT cf x ρ σ) fun f ρ' h1=>match f with
    |.nx=>evSs clsT cf xs ρ' h1
    |.ct=>.ok .ct ρ' h1
    |.rt d=>.ok (.rt d) ρ' h1) Q E:=by
   rw [evSs] at O
   unfold bindS
   cases q:evS clsT cf x ρ σ with
   |ok f ρ' σ'=>rw [q] at O;exact O
   |ex c ρ' σ'=>rw [q] at O;exact O
   |no=>rw [q] at O;exact O
  refine wpAny_execs_cons (wpAny_mono (h1 fl A sc NE y env ι s σ ρ _ E hc.1 hf Rm hsc S (O'.seq (Ext.refl ..) ⟨s.toks,rfl⟩)) (fun v s₁ hq=>?_) fun _ _ e=>e)
  obtain ⟨f,ρ₁,σ₁,ι₁,q,e1,S1,r,⟨t1,hs1⟩,O1⟩:=hq
  cases r with
  |nx =>
   refine h2 fl A sc NE l env ι₁ s₁ σ₁ ρ₁ Q E hc.2 hf Rm hsc S1 ?_
   rw [hs1]
   exact O1.later e1
  |ct =>
   have:=O1 _ ι₁ s₁.heap t1 e1 S1 .ct
   rwa [←hs1] at this
  |rt v =>
   have:=O1 _ ι₁ s₁.heap t1 e1 S1 (.rt v)
   rwa [←hs1] at this
theorem st_ex {e:Ex}(h:EvOK prog w base K n cf e):StOK prog w base K n cf (.ex e):=by
 intro fl A sc NE x env ι s σ ρ Q E hc hf Rm hsc S O
 simp only [chkS] at hc
 split at hc
 ·rename_i v pos
  simp only [Bool.and_eq_true] at hc
  rw [evS,withD_eq] at O
  have hi:interactive env=false:=by unfold interactive;rw [S.fr.kind];rfl
  have hs:swapsWith v none pos.line env=pure false:=by cases v<;>first|rfl|(cases hc.2;done)
  refine wpAny_Expr_any (wpAny_mono (h fl A sc NE v env ι s σ ρ _ E hc.1 hf Rm hsc S (OutS.expr S O)) (fun v s₁ hq=>?_) fun _ _ e=>e) hi hs
  obtain ⟨d,σ₁,ι₁,q,e1,S1,r,_,O1⟩:=hq
  exact O1.now S1 .nx
 ·cases hc
theorem st_ret {e:Ex}(h:EvOK prog w base K n cf e):StOK prog w base K n cf (.ret e):=by
 intro fl A sc NE x env ι s σ ρ Q E hc hf Rm hsc S O
 simp only [chkS] at hc
 rw [evS,withD_eq] at O
 split at hc
 ·refine wpAny_Return_some (wpAny_mono (h fl A sc NE _ env ι s σ ρ _ E hc hf Rm hsc S (OutS.expr S O)) (fun v s₁ hq=>?_) fun _ _ e=>e)
  obtain ⟨d,σ₁,ι₁,q,e1,S1,r,_,O1⟩:=hq
  exact O1.now S1 (.rt r)
 ·split at hc
  ·exact wpAny_Return_none (O.now S (.rt .none))
  ·cases hc
 ·cases hc
theorem st_cont:StOK prog w base K n cf .cont:=by
 intro fl A sc NE x env ι s σ ρ Q E hc hf Rm hsc S O
 simp only [chkS] at hc
 split at hc
 ·exact wpAny_Continue (O.now S .ct)
 ·cases hc
theorem st_stuck:StOK prog w base K n cf .stuck:=by
 intro fl A sc NE x env ι s σ ρ Q E hc hf Rm hsc S O
 exact O.elim
def asB (r:R D):R Bool:=match r with
 |.ok d h=>(match d with|.bool b=>.ok b h|_=>.no)
 |.ex c h=>.ex c h
 |.no=>.no
theorem evB_at {e:Ex}:evB cf e ρ σ=asB (evE clsT cf e ρ σ):=by
 unfold evB M.bind asB
 cases evE clsT cf e ρ σ with
 |ok d h=>cases d<;>rfl
 |ex c h=>rfl
 |no=>rfl
theorem OutS.cond {x y:Hp→RS}{r:R D}(S:SR prog w base fl env NE ι σ ρ s.heap)(O:OutS prog w base fl env NE ι s (withA r ρ (brB x y)) Q E) :
  OutG prog w base fl relB ι s (asB r)
   (fun b s₁=>∃σ₁ ι₁,Ext (fls fl) [] ι ι₁ s.heap s₁.heap∧SR prog w base fl env NE ι₁ σ₁ ρ s₁.heap∧(∃t,s₁={ s with heap:=s₁.heap,toks:=t })∧OutS prog w base fl env NE ι₁ s₁ (if b=true then x σ₁ else y σ₁) Q E) E:=by
 cases r with
 |ok d σ₁ =>
  cases d with
  |bool b =>
   intro v ι₁ h₁ tk₁ e h r
   cases (show v=b from r)
   refine ⟨σ₁,ι₁,e,S.ext e h,⟨tk₁,rfl⟩,?_⟩
   cases b with
   |true=>exact OutS.later (tk':=tk₁) O (e.widen fun _ q=>nomatch q)
   |false=>exact OutS.later (tk':=tk₁) O (e.widen fun _ q=>nomatch q)
  |_=>exact O.elim
 |ex c σ₁=>exact fun x ι₁ h₁ tk₁ e h X=>O x ι₁ h₁ tk₁ (e.widen fun _ q=>nomatch q) (S.ext e h) X
 |no=>exact O
theorem st_iff {c:Ex}{a b:Sts}(h:TrOK prog w base K n cf c)(h1:StsOK prog w base K n cf a)(h2:StsOK prog w base K n cf b):StOK prog w base K n cf (.iff c a b):=by
 intro fl A sc NE x env ι s σ ρ Q E hc hf Rm hsc S O
 simp only [chkS] at hc
 split at hc
 ·simp only [Bool.and_eq_true] at hc
  rw [evS,withD_eq] at O
  have O2:=OutS.cond S (x:=evSs clsT cf a ρ) (y:=evSs clsT cf b ρ) (by
   have e:(fun (d:D) (h1:Hp)=>(match d with|.bool true=>evSs clsT cf a ρ h1|.bool false=>evSs clsT cf b ρ h1|_=>RS.no:RS))=brB (evSs clsT cf a ρ) (evSs clsT cf b ρ):=by
    funext d h1
    unfold brB
    rfl
   exact O)
  rw [←evB_at] at O2
  refine wpAny_If (wpAny_mono (h fl A sc NE _ env ι s σ ρ _ E hc.1.1 hf Rm hsc S O2) (fun v s₁ hq=>?_) fun _ _ e=>e)
  obtain ⟨σ₁,ι₁,e1,S1,_,O1⟩:=hq
  cases v with
  |true=>exact h1 fl A sc NE _ env ι₁ s₁ σ₁ ρ Q E hc.1.2 hf Rm hsc S1 O1
  |false=>exact h2 fl A sc NE _ env ι₁ s₁ σ₁ ρ Q E hc.2 hf Rm hsc S1 O1
 ·cases hc
theorem st_whl {c:Ex}{b:Sts}(h:TrOK prog w base K n cf c)(h1:StsOK prog w base K n cf b):StOK prog w base K n cf (.whl c b):=by
 intro fl A sc NE x env ι s σ ρ Q E hc hf Rm hsc S O
 simp only [chkS] at hc
 split at hc
 ·rename_i t body pos
  simp only [Bool.and_eq_true] at hc
  rw [evS] at O
  refine wpAny_While ?_
  refine codeAny_whileLoop (fun k s₁=>∃ι₁ σ₁ ρ₁,SR prog w base fl env NE ι₁ σ₁ ρ₁ s₁.heap∧OutS prog w base fl env NE ι₁ s₁ (whileF (evE clsT cf c) (evSs clsT cf b) k ρ₁ σ₁) Q E) (fun k s₁ hq=>?_) turns ⟨ι,σ,ρ,S,O⟩
  obtain ⟨ι₁,σ₁,ρ₁,S1,O1⟩:=hq
  cases k with
  |zero=>exact O1.elim
  |succ k =>
   have O2:=OutG.noted hf S1 (OutS.cond S1 (x:=fun h1=>bindS (evSs clsT cf b ρ₁ h1) fun f ρ' h2=>match f with
      |.nx=>whileF (evE clsT cf c) (evSs clsT cf b) k ρ' h2
      |.ct=>whileF (evE clsT cf c) (evSs clsT cf b) k ρ' h2
      |.rt d=>.ok (.rt d) ρ' h2) (y:=fun h1=>.ok .nx ρ₁ h1) (r:=evE clsT cf c ρ₁ σ₁) (Q:=Q) (E:=E) (by
     rw [whileF] at O1
     unfold withA
     cases q:evE clsT cf c ρ₁ σ₁ with
     |ex c' h1=>rw [q] at O1;exact O1
     |no=>rw [q] at O1;exact O1
     |ok d h1 =>
      rw [q] at O1
      simp only at O1 ⊢
      cases d with
      |bool bb =>
       cases bb with
       |false=>exact O1
       |true =>
        simp only at O1
        show OutS prog w base fl env NE ι₁ s₁ (bindS (evSs clsT cf b ρ₁ h1) _) Q E
        cases q2:evSs clsT cf b ρ₁ h1 with
        |ok f ρ' h2=>rw [q2] at O1;exact O1
        |ex c' ρ' h2=>rw [q2] at O1;exact O1
        |no=>rw [q2] at O1;exact O1
      |_=>exact O1.elim))
   rw [←evB_at] at O2
   refine wpAny_mono (h fl A sc NE _ env ι₁ s₁ σ₁ ρ₁ _ _ hc.1 hf Rm hsc S1 O2) (fun v s₂ hq=>?_) fun _ _ e=>e
   obtain ⟨σ₂,ι₂,e2,S2,_,O3⟩:=hq
   cases v with
   |false =>
    simp only [Bool.false_eq_true,if_false] at O3 ⊢
    exact wpAny_execs_nil (O3.now S2 .nx)
   |true =>
    simp only [if_true] at O3 ⊢
    refine wpAny_mono (h1 fl A sc NE _ env ι₂ s₂ σ₂ ρ₁ _ _ hc.2 hf Rm hsc S2 (OutS.noted hf S2 (O3.seq (Ext.refl ..) ⟨s₂.toks,rfl⟩))) (fun v s₃ hq=>?_) fun _ _ e=>e
    obtain ⟨f,ρ₃,σ₃,ι₃,q,e3,S3,r,⟨t3,hs3⟩,O4⟩:=hq
    cases r with
    |nx=>exact ⟨k,Nat.lt_succ_self k,ι₃,σ₃,ρ₃,S3,by rw [hs3];exact O4.later e3⟩
    |ct=>exact ⟨k,Nat.lt_succ_self k,ι₃,σ₃,ρ₃,S3,by rw [hs3];exact O4.later e3⟩
    |rt v =>
     have:=O4 _ ι₃ s₃.heap t3 e3 S3 (.rt v)
     rwa [←hs3] at this
 ·cases hc
end
end Mine
end
section
set_option maxRecDepth 100000
open PySem PySem.Spec PySem.Calls PyProof.Rows PySem.W
namespace Mine
theorem gone (h:Heap)(C:Nat):∃h₀,Heap.SameBut C h h₀∧h₀.get? C=none:=by
 refine ⟨h.update C fun o=>{ o with data:=.freed },Heap.SameBut.update ..,?_⟩
 cases e:(h.update C fun o=>{ o with data:=.freed }).get? C with
 |none=>rfl
 |some o =>
  obtain ⟨e1,e2⟩:=Heap.get?_some_iff.mp e
  cases h with
  |mk objs life =>
   simp only [Heap.update,Array.getElem?_modify,if_true] at e1
   cases q:objs[C]? with
   |none=>rw [q] at e1;cases e1
   |some o'=>rw [q] at e1;cases e1;cases e2
section
variable {prog:Program}{w:World}{base:Heap}{K:Frag}{mg mb:Str→Option Value}{n:Nat}{cf:Nat→List D→M D}
variable {i j l:Nat}{fl:List PEnv}{ι ι0 ι':Io}{s s0:Shared}{σ σ':Hp}{ρ ρ':Ve}{A:Around}{env:PEnv}{NE:NEt}{sc:PySem.Scope}{E:Value→Shared→Prop}{Q:Flow→Shared→Prop}{h h' h₃:Heap}{tk':Nat}
theorem Ext.butDead {FL own:List Nat}{C:Nat}(X:Ext FL own ι ι' h h')(hs:Heap.SameBut C h' h₃)(hC:h.get? C=none):Ext FL own ι ι' h h₃:=by
 have ne:∀{b:Nat} {o:Obj},h.get? b=some o→b≠C:=fun {b o} e q=>by rw [q,hC] at e;cases e
 exact ⟨X.pre,X.same,fun b o e=>let ⟨o',e'⟩:=X.live b o e;⟨o',(hs.2 b (ne e)).trans e'⟩,X.new,fun b o e h1 h2 h3=>(hs.2 b (ne e)).trans (X.keep b o e h1 h2 h3),fun b o e h1 h2=>let ⟨sl,e'⟩:=X.slot b o e h1 h2;⟨sl,(hs.2 b (ne e)).trans e'⟩⟩
theorem SR.away {C:Nat}(S:SR prog w base fl env NE ι σ ρ h)(hs:Heap.SameBut C h h')(h1:C∉adr ι)(h2:base.get? C=none)(h3:C∉fls fl)(h4:NotOwn env C)(h5:∀o,h.get? C=some o→∀xs n,o.data≠.seq xs n):SR prog w base fl env NE ι σ ρ h':=by
 have k:∀b o,b∉[C]→h.get? b=some o→h'.get? b=some o:=fun b o q e=>(hs.2 b fun z=>q (z▸List.mem_singleton.mpr rfl)).trans e
 have M:Mo ι ι h h':=Mo.but k fun b hb=>.inr (by rw [List.mem_singleton.mp hb];exact h5)
 have ns:∀{b m},b≠C→h.Ns b m→h'.Ns b m:=fun q n=>n.sameBut hs q
 have cell:∀{b v},b≠C→h.IsCell b v→h'.IsCell b v:=fun q n=>n.sameBut hs q
 have nf:∀b∈fls fl,b≠C:=fun b hb q=>h3 (q▸hb)
 refine ⟨S.hr.but k (fun b hb=>.inr (by rw [List.mem_singleton.mp hb];exact h5)) (fun b hb=>by rw [List.mem_singleton.mp hb];exact ⟨fun z=>h1 (adr_nad z),h2⟩) (fun b hb hh=>by have e:=List.mem_singleton.mp hb;subst e;exact absurd (List.mem_append_right _ hh) h1),
  ⟨frames_of S.ff.ff fun b hb=>let ⟨m,n⟩:=S.ff.ns b hb;⟨m,ns (nf b hb) n⟩,fun b hb=>let ⟨m,n⟩:=S.ff.ns b hb;⟨m,ns (nf b hb) n⟩,S.ff.off⟩,
  ⟨S.fr.kind,S.fr.glob,S.fr.blt,let ⟨m,n⟩:=S.fr.ns;⟨m,ns (fun q=>h4.1 q.symm) n⟩,fun x c e=>let ⟨v,n⟩:=S.fr.cell x c e;⟨v,cell (fun q=>h4.2 x c e q.symm) n⟩,S.fr.cinj,S.fr.cov,S.fr.offL,S.fr.offC,S.fr.cd⟩,fun x i d a b=>?_,S.tp⟩
 have V:=S.lc x i d a b
 cases V with
 |loc k' n' e' v'=>exact .loc k' (ns (fun q=>h4.1 q.symm) n') e' (v'.mono M trivial)
 |cell k' c' n' v'=>exact .cell k' c' (cell (fun q=>h4.2 _ _ c' q.symm) n') (v'.mono M trivial)
def setS (t:Tg)(ρ:Ve)(d:D)(h:Hp):RS:=match t.set d ρ with
 |some ρ'=>.ok .nx ρ' h
 |none=>.no
theorem evS_asn {t:Tg}{e:Ex}:evS clsT cf (.asn t e) ρ σ=withA (evE clsT cf e ρ σ) ρ (setS t ρ):=by
 rw [evS,withD_eq]
 rfl
theorem asn_store {t:Tg}{target:PySem.Expr}{v:Value}{d:D}{P:Unit→Shared→Prop}(Rm:Room A n)(hc:chkT sc NE t target=true)(hsc:env.scope=sc)(S:SR prog w base fl env NE ι σ ρ s.heap)(r:VR ι s.heap v d)
  (O:OutS prog w base fl env NE ι s (setS t ρ d σ) Q E) (hP:∀s',Q .next s'→P () s'):wpAny (model prog w) A (assign target env v) P E s:=by
 unfold setS at O
 cases q:t.set d ρ with
 |none=>rw [q] at O;exact O.elim
 |some ρ' =>
  rw [q] at O
  exact assign_at (loc:=false) Rm.hh hc hsc (fun z=>by cases z) S r q fun h' tk' own ho e1 S1=>hP _ (O .next ι h' tk' (e1.widen (ownIn_sub ho)) S1 .nx)
theorem assignEach_one (target:PySem.Expr){t:Tg}(hc:chkT sc NE t target=true):(assignEach [target] env).map (·.2)=[assign target env]:=by
 unfold chkT at hc
 split at hc
 ·rfl
 ·rfl
 ·rfl
 ·cases hc
theorem asn_plain {t:Tg}{target v:PySem.Expr}{pos:Pos}{e:Ex}(h:EvOK prog w base K n cf e)(hc:chkT sc NE t target=true)(ce:chkE K e sc NE v=true)(hf:A.frames=some fl)(Rm:Room A n)(hsc:env.scope=sc)(S:SR prog w base fl env NE ι σ ρ s.heap)
  (O:OutS prog w base fl env NE ι s (evS clsT cf (.asn t e) ρ σ) Q E) (hs:swapsWithSole [target] v pos.line env=pure false) (hw:swappedStores [target] v env=pure none):wpAny (model prog w) A (exec (.Assign [target] v pos) env) Q E s:=by
 rw [evS_asn] at O
 refine wpAny_Assign_stores (wpAny_mono (h fl A sc NE v env ι s σ ρ _ E ce hf Rm hsc S (OutS.expr S O)) (fun x s₁ hq=>?_) fun _ _ e=>e) hs hw
 obtain ⟨d,σ₁,ι₁,q,e1,S1,r,_,O1⟩:=hq
 rw [assignEach_one target hc]
 show wpAny (model prog w) A (assign target env x) _ E s₁
 exact asn_store Rm hc hsc S1 r O1 fun _ q=>q
theorem name_inj {i j:Nat}{x y:Str}(h1:chkN sc NE i x=true)(h2:chkN sc NE j y=true)(hne:x≠y):i≠j:=by
 unfold chkN at h1 h2
 simp only [Bool.and_eq_true,Bool.or_eq_true,beq_iff_eq] at h1 h2
 rintro rfl
 have:=List.all_eq_true.mp h1.1.2 _ (nlook_mem h2.1.1)
 simp only [Bool.or_eq_true,bne_iff_ne,beq_iff_eq] at this
 rcases this with q|q
 ·exact q rfl
 ·exact hne (by rw [←toS_cps x,←toS_cps y];exact congrArg toS q.symm)
theorem bind_more {x:Str}{i:Nat}{v:Value}{d:D}{ss:List (Value→Sem Unit)}{vs:List Value}{P:Unit→Shared→Prop}(hc:chkN sc NE i x=true)(hsc:env.scope=sc)(S:SR prog w base fl env NE ι σ ρ s.heap)(r:VR ι s.heap v d)
  (k:∀h' tk',Ext (fls fl) (ownE env) ι ι s.heap h'→Mo ι ι s.heap h'→SR prog w base fl env NE ι σ (ρ.set i (some d)) h'→wpAny (model prog w) A (assignInOrder ss vs) P E { s with heap:=h',toks:=tk' }) :
  wpAny (model prog w) A (assignInOrder ((bindName env x)::ss) (v::vs)) P E s :=
 wpAny_assignInOrder_more (wpAny_bindName (name_at (loc:=false) hc hsc (fun z=>by cases z) S r fun h' tk' own ho e1 S1=>k h' tk' (e1.widen (ownIn_sub ho)) (e1.mo S.ff.soft (own_ok S.fr ho)) S1))
theorem set_two {ds:List D}(q:setAll [i,j] ds ρ=some ρ'):∃d1 d2,ds=[d1,d2]∧ρ'=(ρ.set i (some d1)).set j (some d2):=by
 rcases ds with _|⟨d1,_|⟨d2,_|⟨d3,ds⟩⟩⟩
 ·cases q
 ·cases q
 ·cases q;exact ⟨d1,d2,rfl,rfl⟩
 ·cases q
theorem set_three {ds:List D}(q:setAll [i,j,l] ds ρ=some ρ'):∃d1 d2 d3,ds=[d1,d2,d3]∧ρ'=((ρ.set i (some d1)).set j (some d2)).set l (some d3):=by
 rcases ds with _|⟨d1,_|⟨d2,_|⟨d3,_|⟨d4,ds⟩⟩⟩⟩
 ·cases q
 ·cases q
 ·cases q
 ·cases q;exact ⟨d1,d2,d3,rfl,rfl⟩
 ·cases q
theorem swap_two {a b:Str}{i j:Nat}{v:Value}{d:D}{P:Unit→Shared→Prop}(Rm:Room A n)(h1:chkN sc NE i a=true)(h2:chkN sc NE j b=true)(hne:a≠b)(hsc:env.scope=sc)(S:SR prog w base fl env NE ι σ ρ s.heap)(r:VR ι s.heap v d)
  (O:OutS prog w base fl env NE ι s (setS (.p [i,j]) ρ d σ) Q E) (hP:∀s',Q .next s'→P () s') :
  wpAny (model prog w) A (unpackItems v 2 none) (fun items s₂=>wpAny (model prog w) A (assignInOrder ([b,a].map fun n=>bindName env n) items.reverse) P E s₂) E s:=by
 have hij:=name_inj h1 h2 hne
 unfold setS at O
 cases q:(Tg.p [i,j]).set d ρ with
 |none=>rw [q] at O;exact O.elim
 |some ρ' =>
  rw [q] at O
  cases d with
  |tup ds =>
   obtain ⟨t,vs,rfl,ht,rs⟩:=r.tupAt
   have q':setAll [i,j] ds ρ=some ρ':=q
   obtain ⟨d1,d2,rfl,eρ⟩:=set_two q'
   rw [List.set_comm _ _ hij] at eρ
   cases rs with
   |cons r1 rs =>
   cases rs with
   |cons r2 rs =>
   cases rs with
   |nil =>
    rename_i v1 v2
    refine unpackItems_tuple (items:=[v1,v2].toArray) Rm.hh (show IsTup s.heap t [v1,v2].toArray from ht) fun h' hx=>?_
    have k:∀b o,s.heap.get? b=some o→h'.get? b=some o:=fun b o q=>hx b o (Nat.ne_of_lt (Heap.lt_size q)) q
    have E0:Ext (fls fl) [] ι ι s.heap h':=Ext.more k
    have S1:=S.ext E0 (S.hr.more k)
    show wpAny (model prog w) A (assignInOrder [bindName env b,bindName env a] [v2,v1]) P E { s with heap:=h' }
    refine bind_more (s:={ s with heap:=h' }) h2 hsc S1 (r2.mono (Mo.more k) trivial) fun h₁ tk₁ e1 m1 S2=>?_
    refine bind_more (s:={ s with heap:=h₁,toks:=tk₁ }) h1 hsc S2 ((r1.mono (Mo.more k) trivial).mono m1 trivial) fun h₂ tk₂ e2 m2 S3=>?_
    refine wpAny_assignInOrder_none (hP _ (O .next ι h₂ tk₂ (((E0.widen fun _ q=>nomatch q).trans e1).trans e2) (eρ▸S3) .nx))
  |_=>cases q
theorem swap_three {a b c:Str}{i j l:Nat}{v:Value}{d:D}{P:Unit→Shared→Prop}(Rm:Room A n)(h1:chkN sc NE i a=true)(h2:chkN sc NE j b=true)(h3:chkN sc NE l c=true)(n1:a≠b)(n2:a≠c)(n3:b≠c)(hsc:env.scope=sc)(S:SR prog w base fl env NE ι σ ρ s.heap)(r:VR ι s.heap v d)
  (O:OutS prog w base fl env NE ι s (setS (.p [i,j,l]) ρ d σ) Q E) (hP:∀s',Q .next s'→P () s') :
  wpAny (model prog w) A (unpackItems v 3 none) (fun items s₂=>wpAny (model prog w) A (assignInOrder ([c,b,a].map fun n=>bindName env n) items.reverse) P E s₂) E s:=by
 have hij:=name_inj h1 h2 n1
 have hil:=name_inj h1 h3 n2
 have hjl:=name_inj h2 h3 n3
 unfold setS at O
 cases q:(Tg.p [i,j,l]).set d ρ with
 |none=>rw [q] at O;exact O.elim
 |some ρ' =>
  rw [q] at O
  cases d with
  |tup ds =>
   obtain ⟨t,vs,rfl,ht,rs⟩:=r.tupAt
   have q':setAll [i,j,l] ds ρ=some ρ':=q
   obtain ⟨d1,d2,d3,rfl,eρ⟩:=set_three q'
   rw [List.set_comm _ _ hij,List.set_comm _ _ hil,List.set_comm _ _ hjl] at eρ
   cases rs with
   |cons r1 rs =>
   cases rs with
   |cons r2 rs =>
   cases rs with
   |cons r3 rs =>
   cases rs with
   |nil =>
    rename_i v1 v2 v3
    refine unpackItems_tuple (items:=[v1,v2,v3].toArray) Rm.hh (show IsTup s.heap t [v1,v2,v3].toArray from ht) fun h' hx=>?_
    have k:∀b o,s.heap.get? b=some o→h'.get? b=some o:=fun b o q=>hx b o (Nat.ne_of_lt (Heap.lt_size q)) q
    have E0:Ext (fls fl) [] ι ι s.heap h':=Ext.more k
    have S1:=S.ext E0 (S.hr.more k)
    show wpAny (model prog w) A (assignInOrder [bindName env c,bindName env b,bindName env a] [v3,v2,v1]) P E { s with heap:=h' }
    refine bind_more (s:={ s with heap:=h' }) h3 hsc S1 (r3.mono (Mo.more k) trivial) fun h₁ tk₁ e1 m1 S2=>?_
    refine bind_more (s:={ s with heap:=h₁,toks:=tk₁ }) h2 hsc S2 ((r2.mono (Mo.more k) trivial).mono m1 trivial) fun h₂ tk₂ e2 m2 S3=>?_
    refine bind_more (s:={ s with heap:=h₂,toks:=tk₂ }) h1 hsc S3 (((r1.mono (Mo.more k) trivial).mono m1 trivial).mono m2 trivial) fun h₄ tk₄ e4 m4 S4=>?_
    refine wpAny_assignInOrder_none (hP _ (O .next ι h₄ tk₄ ((((E0.widen fun _ q=>nomatch q).trans e1).trans e2).trans e4) (eρ▸S4) .nx))
  |_=>cases q
end
end Mine
end
section
set_option maxRecDepth 100000
open PySem PySem.Spec PySem.Calls PyProof.Rows PySem.W
namespace Mine
section
variable {prog:Program}{w:World}{base:Heap}{K:Frag}{mg mb:Str→Option Value}{n:Nat}{cf:Nat→List D→M D}
variable {i j l:Nat}{fl:List PEnv}{ι ι0 ι':Io}{s s0:Shared}{σ σ':Hp}{ρ ρ':Ve}{A:Around}{env:PEnv}{NE:NEt}{sc:PySem.Scope}{E:Value→Shared→Prop}{Q:Flow→Shared→Prop}{h h' h₃:Heap}{tk':Nat}
theorem comp_used {t:Tg}{target:PySem.Expr}{r:R D}{C:Addr}{acc:Value}{res:Result}{s':Shared}(Rm:Room A n)(hc:chkT sc NE t target=true)(hsc:env.scope=sc)(S:SR prog w base fl env NE ι σ ρ s.heap)
  (P:compPost (model prog w) A E none (fun v s₁=>∃d σ₁ ι₁,r=.ok d σ₁∧Ext (fls fl) [] ι ι₁ s.heap s₁.heap∧SR prog w base fl env NE ι₁ σ₁ ρ s₁.heap∧VR ι₁ s₁.heap v d∧(∃t,s₁={ s with heap:=s₁.heap,toks:=t })∧OutS prog w base fl env NE ι₁ s₁ (setS t ρ d σ₁) Q E) acc C res s') :
  compPost (model prog w) A E (some (assign target env)) (fun _ s'=>Q .next s') acc C res s':=by
 cases res with
 |error x=>exact P
 |ok f =>
  obtain ⟨m,hn,P⟩:=P
  obtain ⟨h₀,hs₀,hC⟩:=gone s'.heap C
  obtain ⟨d,σ₁,ι₁,q,e1,S1,r1,_,O1⟩:=P h₀ hs₀
  have k0:∀b o,h₀.get? b=some o→s'.heap.get? b=some o:=fun b o e=>(hs₀.2 b fun z=>by rw [z,hC] at e;cases e).symm.trans e
  have S2:SR prog w base fl env NE ι₁ σ₁ ρ s'.heap:=S1.ext (Ext.more k0) (S1.hr.more k0)
  have r2:=r1.mono (Mo.more k0) trivial
  have al:∀b,(∃o,h₀.get? b=some o)→b≠C:=fun b ⟨o,e⟩ z=>by rw [z,hC] at e;cases e
  have c1:C∉adr ι₁:=fun z=>al C (S1.hr.alive z) rfl
  have c2:C∉fls fl:=fun z=>al C (let ⟨m,o,_,_,e,_⟩:=S1.ff.ns C z;⟨o,e⟩) rfl
  have c3:NotOwn env C:=⟨fun z=>al _ (let ⟨m,o,_,_,e,_⟩:=S1.fr.ns;⟨o,e⟩) z.symm,fun x c e z=>al _ (let ⟨v,o,e1,_⟩:=S1.fr.cell x c e;⟨o,e1⟩) z.symm⟩
  have c4:base.get? C=none:=by
   cases e:base.get? C with
   |none=>rfl
   |some o=>have:=S1.hr.stay C o e;rw [hC] at this;cases this
  show wpAny (model prog w) A (assign target env acc) _ E s'
  unfold setS at O1
  cases q:t.set d ρ with
  |none=>rw [q] at O1;exact O1.elim
  |some ρ' =>
   rw [q] at O1
   refine assign_at (loc:=false) Rm.hh hc hsc (fun z=>by cases z) S2 r2 q fun h'' tk'' own ho e3 S3=>?_
   have c5:C∉own:=fun z=>by
    rcases (ho C z).1 with y|⟨y,e⟩
    ·exact c3.1 y
    ·exact c3.2 y C e rfl
   have hn':h''.Ns C m:=ns_ext hn e3 c1 c5
   refine ⟨m,hn',fun h₃ hs₃=>?_⟩
   have eC:=(((Ext.more k0:Ext (fls fl) (ownE env) ι₁ ι₁ h₀ s'.heap)).trans (e3.widen (ownIn_sub ho))).butDead hs₃ hC
   exact O1 .next ι₁ h₃ tk'' eC (S3.away hs₃ c1 c4 c2 c3 (ns_soft hn')) .nx
theorem asn_used {x:Str}{p pos:Pos}{t:Tg}{v:PySem.Expr}{e:Ex}(h:CoOK prog w base K n cf e)(hc:chkT sc NE t (.Name x p)=true)(ce:chkE K e sc NE v=true)(hf:A.frames=some fl)(Rm:Room A n)(hsc:env.scope=sc)(S:SR prog w base fl env NE ι σ ρ s.heap)
  (O:OutS prog w base fl env NE ι s (evS clsT cf (.asn t e) ρ σ) Q E) (hs:swapsWith v (some (.Name x p)) pos.line env=pure true):wpAny (model prog w) A (exec (.Assign [.Name x p] v pos) env) Q E s:=by
 rw [evS_asn] at O
 obtain ⟨elt,target,iter,ifs,scope,cpos,rfl,c1,c2,c3⟩:=h fl A sc NE v env ι s σ ρ _ E ce hf Rm hsc S (OutS.expr S O)
 obtain ⟨hk,hn⟩:=okC_names c2
 obtain ⟨cl,e,q1,q2⟩:=closure_of (scope:=scope) S.fr fun p hp hfr=>by
  have:=(hn p hp).2.2 hfr
  subst hsc
  exact this
 rw [exec_Assign_Name_used _ _ _ _ hs]
 refine wpAny_bind (wpAny_standAt (wpAny_bind ?_))
 show wpAny _ A (do let _ ←comprehension (.ListComp elt [⟨target,iter,ifs,0⟩] scope cpos) scope env _ (newList []) false (eval iter env) (some (assign (.Name x p) env))) _ _ s
 refine wpAny_bind (wpAny_mono (wpAny_comprehension_free (use:=some (assign (.Name x p) env)) (Q:=fun _ s'=>Q .next s') rfl (fun x=>notSet_fold c1 x) e hk (fun p hp hl=>by rw [(hn p hp).2.1,hl]) ?_) (fun _ s' hq=>wpAny_pure (wpAny_pure hq)) fun _ _ e=>e)
 refine wpAny_mono (c3 cl q1 q2) (fun it s₁ h1=>wpAny_mono h1 (fun acc s₂ h2=>wpAny_mono h2 (fun a s₃ h3=>wpAny_mono h3 (fun cenv s₄ h4=>codeAny_mono h4 fun r s₅ h5=>comp_used Rm hc hsc S h5) fun _ _ e=>e) fun _ _ e=>e) fun _ _ e=>e) fun _ _ e=>e
def isCo:Ex→Bool
 |.comp .. => true
 |.compc .. => true
 |.compz .. => true
 |_=>false
theorem chk_co {e:Ex}{elt:PySem.Expr}{gens:List Comprehension}{scope:PySem.Scope}{pos:Pos}(h:chkE K e sc NE (.ListComp elt gens scope pos)=true):e=.stuck∨isCo e=true:=by
 cases e<;>first|exact .inl rfl|exact .inr rfl|(simp [chkE] at h;done)
theorem chk_noSet {e:Ex}{elt:PySem.Expr}{gens:List Comprehension}{scope:PySem.Scope}{pos:Pos}(h:chkE K e sc NE (.SetComp elt gens scope pos)=true):e=.stuck:=by
 cases e<;>first|rfl|(simp [chkE] at h;done)
theorem chk_noDict {e:Ex}{k v:PySem.Expr}{gens:List Comprehension}{scope:PySem.Scope}{pos:Pos}(h:chkE K e sc NE (.DictComp k v gens scope pos)=true):e=.stuck:=by
 cases e<;>first|rfl|(simp [chkE] at h;done)
def nmF (env:PEnv)(line:Nat):PySem.Expr→Option Str
 |.Name id pos=>if (env.kindOf id==some .local&&pos.line==line)=true then some id else none
 |_=>none
theorem swapped_cases {ts:List PySem.Expr}{v:PySem.Expr}{k:Nat}{p:Pos}(hc:swapC (.Tuple ts k p) v=true) :
  swappedStores [.Tuple ts k p] v env=pure none∨∃names,swappedStores [.Tuple ts k p] v env=pure (some names)∧(ts.length=2∨ts.length=3)∧names.length=ts.length∧names.eraseDups.length=names.length ∧
   ∃line,names=ts.filterMap (nmF env line):=by
 have e0:∀line,(ts.filterMap fun x=>match x with|.Name id pos=>if (env.kindOf id==some .local&&pos.line==line)=true then some id else none|_=>none)=ts.filterMap (nmF env line):=fun line=>by
  congr 1
 cases v with
 |Tuple vs k2 p2 =>
  simp only [swapC] at hc
  unfold swappedStores
  simp only
  split
  ·exact .inl rfl
  ·rename_i g1
   split
   ·exact .inl rfl
   ·rename_i g2
    split
    ·exact .inl rfl
    ·rename_i g3
     split
     ·exact .inl rfl
     ·rename_i g4
      split
      ·rename_i g5
       simp [g4,g5] at hc
      ·simp only [Bool.or_eq_true,Bool.not_eq_true',bne_iff_ne,ne_eq,not_or,Bool.or_eq_false_iff] at g1 g3
       refine .inr ⟨_,rfl,?_,Decidable.not_not.mp g3.1,Decidable.not_not.mp g3.2,_,e0 _⟩
       by_cases a:ts.length=2
       ·exact .inl a
       ·by_cases b:ts.length=3
        ·exact .inr b
        ·exact absurd ⟨by simpa using a,by simpa using b⟩ g1.1.1
 |_=>exact .inl rfl
theorem fm_names {line:Nat}:∀(l:List (Str×Pos)),((l.map fun q=>PySem.Expr.Name q.1 q.2).filterMap (nmF env line)).length=l.length→(l.map fun q=>PySem.Expr.Name q.1 q.2).filterMap (nmF env line)=l.map (·.1)
 |[],_=>rfl
 |q::l,h=>by
  rw [List.map_cons,List.filterMap_cons] at h ⊢
  cases e:nmF env line (.Name q.1 q.2) with
  |none =>
   rw [e] at h
   have:=List.length_filterMap_le (nmF env line) (l.map fun q=>PySem.Expr.Name q.1 q.2)
   simp only [List.length_map,List.length_cons] at this h
   omega
  |some x =>
   rw [e] at h
   have hx:x=q.1:=by
    have e':nmF env line (.Name q.1 q.2)=if (env.kindOf q.1==some .local&&q.2.line==line)=true then some q.1 else none:=rfl
    rw [e'] at e
    split at e
    ·exact (Option.some.inj e).symm
    ·cases e
   simp only [List.length_cons,Nat.add_right_cancel_iff] at h
   rw [hx]
   simp only [List.map_cons]
   rw [fm_names l h]
theorem asn_stuck {t:Tg}:¬OutS prog w base fl env NE ι s (evS clsT cf (.asn t .stuck) ρ σ) Q E:=fun O=>O
theorem dups2 {a b:Str}(h:([a,b]:List Str).eraseDups.length=2):a≠b:=by
 rintro rfl
 simp [List.eraseDups_cons] at h
theorem dups3 {a b c:Str}(h:([a,b,c]:List Str).eraseDups.length=3):a≠b∧a≠c∧b≠c:=by
 have f:∀x:Str,(!x==x)=false:=fun x=>by simp
 refine ⟨?_,?_,?_⟩<;>rintro rfl
 ·rw [List.eraseDups_cons,List.filter_cons,f,if_neg (by decide),List.filter_cons] at h
  split at h<;>simp [List.eraseDups_cons] at h
 ·rw [List.eraseDups_cons,List.filter_cons,List.filter_cons,f] at h
  split at h<;>simp [List.eraseDups_cons] at h
 ·rw [List.eraseDups_cons,List.filter_cons,List.filter_cons] at h
  split at h<;>simp [List.eraseDups_cons] at h
theorem st_asn {t:Tg}{e:Ex}(h:EvOK prog w base K n cf e)(hco:isCo e=true→CoOK prog w base K n cf e):StOK prog w base K n cf (.asn t e):=by
 intro fl A sc NE x env ι s σ ρ Q E hc hf Rm hsc S O
 simp only [chkS] at hc
 split at hc
 ·rename_i target v pos
  simp only [Bool.and_eq_true] at hc
  obtain ⟨⟨c1,c2⟩,c3⟩:=hc
  have ht:=c1
  unfold chkT at ht
  split at ht
  ·rename_i i y p
   have hw:swappedStores [.Name y p] v env=pure none:=by cases v<;>rfl
   cases v with
   |ListComp elt gens scope cpos =>
    rcases chk_co c2 with rfl|hi
    ·exact absurd O asn_stuck
    ·have hb:∃b:Bool,swapsWith (.ListComp elt gens scope cpos) (some (.Name y p)) pos.line env=pure b:=⟨_,rfl⟩
     obtain ⟨b,hb⟩:=hb
     cases b with
     |true=>exact asn_used (hco hi) c1 c2 hf Rm hsc S O hb
     |false=>exact asn_plain h c1 c2 hf Rm hsc S O hb hw
   |SetComp elt gens scope cpos=>rw [chk_noSet c2] at O;exact absurd O asn_stuck
   |DictComp k v gens scope cpos=>rw [chk_noDict c2] at O;exact absurd O asn_stuck
   |_=>exact asn_plain h c1 c2 hf Rm hsc S O rfl hw
  ·rename_i is l k p
   have hs:swapsWithSole [.Tuple l k p] v pos.line env=pure false:=by cases v<;>rfl
   rcases swapped_cases (env:=env) c3 with hw|⟨names,hw,hl,hn,hd,line,hf'⟩
   ·exact asn_plain h c1 c2 hf Rm hsc S O hs hw
   ·rw [evS_asn] at O
    have run:∀{P:Value→Shared→Prop},(∀v s₁ d σ₁ ι₁,SR prog w base fl env NE ι₁ σ₁ ρ s₁.heap→VR ι₁ s₁.heap v d→OutS prog w base fl env NE ι₁ s₁ (setS (.p is) ρ d σ₁) Q E→P v s₁)→wpAny (model prog w) A (eval v env) P E s:=fun hP =>
     wpAny_mono (h fl A sc NE v env ι s σ ρ _ E c2 hf Rm hsc S (OutS.expr S O)) (fun x s₁ ⟨d,σ₁,ι₁,_,_,S1,r,_,O1⟩=>hP x s₁ d σ₁ ι₁ S1 r O1) fun _ _ e=>e
    rcases hl with hl|hl
    ·cases is with
     |nil=>rw [chkNs_nil ht] at hl;cases hl
     |cons i is =>
     obtain ⟨a,pa,l1,rfl,n1,ht⟩:=chkNs_cons ht
     cases is with
     |nil=>rw [chkNs_nil ht] at hl;cases hl
     |cons j is =>
     obtain ⟨b,pb,l2,rfl,n2,ht⟩:=chkNs_cons ht
     cases is with
     |cons l is=>obtain ⟨c,pc,l3,rfl,n3,ht⟩:=chkNs_cons ht;simp at hl
     |nil =>
     have e0:=chkNs_nil ht
     subst e0
     rw [hf'] at hn
     have e:names=[a,b]:=hf'.trans (fm_names [(a,pa),(b,pb)] hn)
     rw [e] at hd hw
     refine PyProof.Rows.Assign_Tuple_swapped (names:=[a,b]) (run fun v s₁ d σ₁ ι₁ S1 r O1=>?_) hs hw
     exact swap_two Rm n1 n2 (dups2 hd) hsc S1 r O1 fun _ q=>q
    ·cases is with
     |nil=>rw [chkNs_nil ht] at hl;cases hl
     |cons i is =>
     obtain ⟨a,pa,l1,rfl,n1,ht⟩:=chkNs_cons ht
     cases is with
     |nil=>rw [chkNs_nil ht] at hl;cases hl
     |cons j is =>
     obtain ⟨b,pb,l2,rfl,n2,ht⟩:=chkNs_cons ht
     cases is with
     |nil=>rw [chkNs_nil ht] at hl;cases hl
     |cons l is =>
     obtain ⟨c,pc,l3,rfl,n3,ht⟩:=chkNs_cons ht
     cases is with
     |cons l is=>obtain ⟨c,pc,l3,rfl,n3,ht⟩:=chkNs_cons ht;simp at hl
     |nil =>
     have e0:=chkNs_nil ht
     subst e0
     rw [hf'] at hn
     have e:names=[a,b,c]:=hf'.trans (fm_names [(a,pa),(b,pb),(c,pc)] hn)
     rw [e] at hd hw
     obtain ⟨d1,d2,d3⟩:=dups3 hd
     refine PyProof.Rows.Assign_Tuple_swapped (names:=[a,b,c]) (run fun v s₁ d σ₁ ι₁ S1 r O1=>?_) hs hw
     exact swap_three Rm n1 n2 n3 d1 d2 d3 hsc S1 r O1 fun _ q=>q
  ·rename_i i is y py l k p k2 p2
   have hs:swapsWithSole [.Tuple [.Name y py,.Tuple l k p] k2 p2] v pos.line env=pure false:=by cases v<;>rfl
   rcases swapped_cases (env:=env) c3 with hw|⟨names,hw,hl,hn,hd,line,hf'⟩
   ·exact asn_plain h c1 c2 hf Rm hsc S O hs hw
   ·exfalso
    rw [hf'] at hn
    have e1:nmF env line (.Tuple l k p)=none:=rfl
    rw [List.filterMap_cons,List.filterMap_cons,e1] at hn
    cases e:nmF env line (.Name y py)<;>rw [e] at hn<;>simp at hn
  ·cases ht
 ·cases hc
end
end Mine
end
section
set_option maxRecDepth 100000
open PySem PySem.Spec PySem.Calls PyProof.Rows PySem.W
namespace Mine
section
variable {prog:Program}{w:World}{base:Heap}{K:Frag}{mg mb:Str→Option Value}{n:Nat}{cf:Nat→List D→M D}
variable {i j l:Nat}{fl:List PEnv}{ι ι0 ι':Io}{s s0:Shared}{σ σ':Hp}{ρ ρ':Ve}{A:Around}{env:PEnv}{NE:NEt}{sc:PySem.Scope}{E:Value→Shared→Prop}{Q:Flow→Shared→Prop}{h h' h₃:Heap}{tk':Nat}
def attS (a:Nat)(ρ:Ve)(v x:D)(h2:Hp):RS:=match storeAttr x a v h2 with
 |some h3=>.ok .nx ρ h3
 |none=>.no
theorem evS_sattr {o e:Ex}{a:Nat}:evS clsT cf (.sattr o a e) ρ σ=withA (evE clsT cf e ρ σ) ρ fun v h1=>withA (evE clsT cf o ρ h1) ρ (attS a ρ v):=by
 rw [evS,withD_eq]
 congr 1
 funext v h1
 rw [withD_eq]
 rfl
theorem st_sattr {o e:Ex}{a:Nat}(W:Wd prog w base K mg mb n cf)(h1:EvOK prog w base K n cf o)(h2:EvOK prog w base K n cf e):StOK prog w base K n cf (.sattr o a e):=by
 intro fl A sc NE x env ι s σ ρ Q E hc hf Rm hsc S O
 simp only [chkS] at hc
 split at hc
 ·rename_i v y p r pos
  simp only [Bool.and_eq_true,beq_iff_eq] at hc
  obtain ⟨⟨⟨c1,c2⟩,c3⟩,c4⟩:=hc
  subst c2
  have c3':a∈dataN:=List.contains_iff_mem.mp c3
  have hs:swapsWith r (some (.Attribute v (nameOf a) p)) pos.line env=pure false:=by cases r<;>rfl
  rw [evS_sattr] at O
  refine plainObj_wpAny_Assign_Attribute (wpAny_mono (h2 fl A sc NE r env ι s σ ρ _ E c4 hf Rm hsc S (OutS.expr S O)) (fun x s₁ hq=>?_) fun _ _ e=>e) hs
  obtain ⟨d,σ₁,ι₁,q,e1,S1,r1,_,O1⟩:=hq
  refine wpAny_mono (h1 fl A sc NE v env ι₁ s₁ σ₁ ρ _ E c1 hf Rm hsc S1 (OutS.expr S1 O1)) (fun y s₂ hq=>?_) fun _ _ e=>e
  obtain ⟨d2,σ₂,ι₂,q2,e2,S2,r2,_,O2⟩:=hq
  unfold attS at O2
  cases q3:storeAttr d2 a d σ₂ with
  |none=>rw [q3] at O2;exact O2.elim
  |some σ₃ =>
   rw [q3] at O2
   exact store_at W.C W.g c3' S2.hr S2.ff.off r2 (r1.mono (S1.mo e2) trivial) q3 fun h' tk' e3 H3=>O2 .next ι₂ h' tk' (e3.widen fun _ q=>nomatch q) (S2.ext e3 H3) .nx
 ·cases hc
def itmS (ρ:Ve)(v x k:D)(h2:Hp):RS:=match storeItem x k v h2 with
 |some h3=>.ok .nx ρ h3
 |none=>.no
theorem evS_sitem {o i e:Ex}:evS clsT cf (.sitem o i e) ρ σ=withA (evE clsT cf e ρ σ) ρ fun v h1=>withA (evE clsT cf o ρ h1) ρ fun x h2=>withA (evE clsT cf i ρ h2) ρ (itmS ρ v x):=by
 rw [evS,withD_eq]
 congr 1
 funext v h1
 rw [withD_eq]
 congr 1
 funext x h2
 rw [withD_eq]
 rfl
theorem st_sitem {o i e:Ex}(h1:EvOK prog w base K n cf o)(h2:EvOK prog w base K n cf i)(h3:EvOK prog w base K n cf e):StOK prog w base K n cf (.sitem o i e):=by
 intro fl A sc NE x env ι s σ ρ Q E hc hf Rm hsc S O
 simp only [chkS] at hc
 split at hc
 ·rename_i v sl p r pos
  simp only [Bool.and_eq_true] at hc
  obtain ⟨⟨c1,c2⟩,c3⟩:=hc
  have hs:swapsWith r (some (.Subscript v sl p)) pos.line env=pure false:=by cases r<;>rfl
  rw [evS_sitem] at O
  refine wpAny_Assign_Subscript (wpAny_mono (h3 fl A sc NE r env ι s σ ρ _ E c3 hf Rm hsc S (OutS.expr S O)) (fun x s₁ hq=>?_) fun _ _ e=>e) hs
  obtain ⟨d,σ₁,ι₁,q,e1,S1,r1,_,O1⟩:=hq
  refine wpAny_mono (h1 fl A sc NE v env ι₁ s₁ σ₁ ρ _ E c1 hf Rm hsc S1 (OutS.expr S1 O1)) (fun y s₂ hq=>?_) fun _ _ e=>e
  obtain ⟨d2,σ₂,ι₂,q2,e2,S2,r2,_,O2⟩:=hq
  refine wpAny_mono (h2 fl A sc NE sl env ι₂ s₂ σ₂ ρ _ E c2 hf Rm hsc S2 (OutS.expr S2 O2)) (fun z s₃ hq=>?_) fun _ _ e=>e
  obtain ⟨d3,σ₃,ι₃,q3,e3,S3,r3,_,O3⟩:=hq
  unfold itmS at O3
  cases q4:storeItem d2 d3 d σ₃ with
  |none=>rw [q4] at O3;exact O3.elim
  |some σ₄ =>
   rw [q4] at O3
   exact item_store S3.hr S3.ff.off (r2.mono (S2.mo e3) trivial) r3 ((r1.mono (S1.mo e2) trivial).mono (S2.mo e3) trivial) q4 fun h' tk' e4 H4=>O3 .next ι₃ h' tk' (e4.widen fun _ q=>nomatch q) (S3.ext e4 H4) .nx
 ·cases hc
def forS (t:Tg)(b:Sts)(ρ:Ve)(d:D)(h1:Hp):RS:=match items d with
 |some ds=>if ds.length≤most then forF t (evSs clsT cf b) ds ρ h1 else .no
 |none=>.no
theorem evS_for {t:Tg}{e:Ex}{b:Sts}:evS clsT cf (.for t e b) ρ σ=withA (evE clsT cf e ρ σ) ρ (forS (cf:=cf) t b ρ):=by
 rw [evS,withD_eq]
 rfl
theorem SqIt.alive {I lI:Addr}{ds:List D}(r:SqIt ι h I lI ds):∃o,h.get? I=some o:=by
 cases r with
 |lst a b c d=>exact let ⟨o,e,_⟩:=a;⟨o,e⟩
 |tup a b c d=>exact let ⟨o,e,_⟩:=a;⟨o,e⟩
theorem for_loop {t:Tg}{target:PySem.Expr}{body:List PySem.Stmt}{b:Sts}{I lI:Addr}(h1:StsOK prog w base K n cf b)(hc:chkT sc NE t target=true)(cb:chkSs K sc NE b body=true)(hf:A.frames=some fl)(Rm:Room A n)(hsc:env.scope=sc)
  (dI:s0.heap.get? I=none) (iF:I∉fls fl) (iO:NotOwn env I) (hb0:∀b o,base.get? b=some o→∃o',s0.heap.get? b=some o')
  {ds:List D} (E1:Ext (fls fl) (ownE env) ι0 ι s0.heap s.heap) (S:SR prog w base fl env NE ι σ ρ s.heap) (hs:∃t,s={ s0 with heap:=s.heap,toks:=t }) (q:SqIt ι s.heap I lI ds) (iA:I∉adr ι)
  (O:OutS prog w base fl env NE ι0 s0 (forF t (evSs clsT cf b) ds ρ σ) Q E) :
  codeAny (model prog w) A (.forLoop target (.ref I) body [] env) (fun r s'=>match r with|.ok f=>Q f s'|.error e=>cameBackBy (model prog w) A env E e s') s:=by
 have W:=wk_seq (prog:=prog) (w:=w) Rm.hh I lI
 refine codeAny_forLoop_any (fun k s₁=>∃ds ι₁ σ₁ ρ₁,ds.length=k∧Ext (fls fl) (ownE env) ι0 ι₁ s0.heap s₁.heap∧SR prog w base fl env NE ι₁ σ₁ ρ₁ s₁.heap∧(∃t,s₁={ s0 with heap:=s₁.heap,toks:=t })∧SqIt ι₁ s₁.heap I lI ds∧I∉adr ι₁∧OutS prog w base fl env NE ι0 s0 (forF t (evSs clsT cf b) ds ρ₁ σ₁) Q E) (fun k s₁ hq=>?_) ds.length ⟨ds,ι,σ,ρ,rfl,E1,S,hs,q,iA,O⟩
 obtain ⟨ds,ι₁,σ₁,ρ₁,hk,e1,S1,⟨t1,hs1⟩,q1,iA1,O1⟩:=hq
 -- the iterator turns
 have bI:base.get? I=none:=by
  cases q:base.get? I with
  |none=>rfl
  |some o=>obtain ⟨o',e'⟩:=hb0 I o q;rw [dI] at e';cases e'
 have turn:∀{h':Heap} {ι₂:Io} {σ₂:Hp} {ρ₂:Ve} {h:Heap},SR prog w base fl env NE ι₂ σ₂ ρ₂ h→Ext (fls fl) (ownE env) ι0 ι₂ s0.heap h→I∉adr ι₂→(∀o,h.get? I=some o→∀xs n,o.data≠.seq xs n)→(∀b o,b≠I→h.get? b=some o→h'.get? b=some o)→SR prog w base fl env NE ι₂ σ₂ ρ₂ h'∧Ext (fls fl) (ownE env) ι0 ι₂ s0.heap h':=fun {h' ι₂ σ₂ ρ₂ h} S e iA hi hb=>by
  obtain ⟨h₀,hs₀,d₀⟩:=gone h I
  have S0:=S.away hs₀ iA bI iF iO hi
  have e0:=e.butDead hs₀ dI
  have k:∀b o,h₀.get? b=some o→h'.get? b=some o:=fun b o e1=>by
   have ne:b≠I:=fun z=>by rw [z,d₀] at e1;cases e1
   exact hb b o ne ((hs₀.2 b ne).symm.trans e1)
  exact ⟨S0.ext (Ext.more k) (S0.hr.more k),e0.trans (Ext.more k)⟩
 cases ds with
 |nil =>
  refine sq_end Rm.hh q1 fun h' k'=>?_
  obtain ⟨S2,E2⟩:=turn S1 e1 iA1 q1.soft k'
  refine wpAny_execs_nil ?_
  have:=O1 .next ι₁ h' t1 E2 S2 .nx
  rw [hs1]
  exact this
 |cons d ds =>
  refine sq_item q1 fun v h' k' hv rv q2=>?_
  obtain ⟨S2,E2⟩:=turn S1 e1 iA1 q1.soft fun b o ne e=>(k'.2 b ne).trans e
  have rv2:VR ι₁ h' v d:=rv.mono (Mo.but (W:=[I]) (fun b o ne e=>(k'.2 b fun z=>ne (z▸List.mem_singleton.mpr rfl)).trans e) fun b hb=>.inr (by rw [List.mem_singleton.mp hb];exact q1.soft)) trivial
  refine W.go ds ι₁ { s₁ with heap:=h' } target v _ _ q2 fun h₂ k₂ al₂ M₂ q3=>?_
  obtain ⟨S3,E3⟩:=turn S2 E2 iA1 q2.soft fun b o ne e=>k₂ b o (fun z=>ne (List.mem_singleton.mp z)) e
  have rv3:=rv2.mono M₂ trivial
  unfold forF at O1
  cases qs:t.set d ρ₁ with
  |none=>rw [qs] at O1;exact O1.elim
  |some ρ₂ =>
   rw [qs] at O1
   simp only at O1
   refine assign_at (s:={ s₁ with heap:=h₂ }) (loc:=false) Rm.hh hc hsc (fun z=>by cases z) S3 rv3 qs fun h₃ tk₃ own ho e4 S4=>?_
   have e4':=e4.widen (ownIn_sub ho)
   have E4:=E3.trans e4'
   have O2:OutS prog w base fl env NE ι0 s0 (bindS (evSs clsT cf b ρ₂ σ₁) fun f ρ' h2=>match f with
     |.nx=>forF t (evSs clsT cf b) ds ρ' h2
     |.ct=>forF t (evSs clsT cf b) ds ρ' h2
     |.rt d=>.ok (.rt d) ρ' h2) Q E:=by
    unfold bindS
    cases q5:evSs clsT cf b ρ₂ σ₁ with
    |ok f ρ' h2=>rw [q5] at O1;exact O1
    |ex c' ρ' h2=>rw [q5] at O1;exact O1
    |no=>rw [q5] at O1;exact O1
   refine wpAny_mono (h1 fl A sc NE body env ι₁ { s₁ with heap:=h₃,toks:=tk₃ } σ₁ ρ₂ _ _ cb hf Rm hsc S4 (OutS.noted hf S4 (O2.seq E4 ⟨tk₃,by rw [hs1]⟩))) (fun v s₄ hq=>?_) fun _ _ e=>e
   obtain ⟨f,ρ₅,σ₅,ι₅,q5,e5,S5,r,⟨t5,hs5⟩,O5⟩:=hq
   have E5:=E4.trans e5
   have nI:I∉ownE env:=not_own iO
   have nN:I∉nad ι₁.nums:=fun z=>iA1 (adr_nad z)
   have q4:SqIt ι₁ h₃ I lI ds:=q3.move (e4.mo S3.ff.soft (own_ok (s:={ s₁ with heap:=h₂ }) S3.fr ho)) fun o e=>e4'.keep I o e nN iF nI
   obtain ⟨oI,hI⟩:∃o,h₃.get? I=some o:=q4.alive
   have q6:SqIt ι₅ s₄.heap I lI ds:=q4.move (e5.mo S4.ff.soft (own_ok (s:={ s₁ with heap:=h₃ }) S4.fr own_in)) fun o e=>e5.keep I o e nN iF nI
   have iA5:I∉adr ι₅:=fun z=>(e5.newA I z).elim iA1 fun y=>by
    have y':h₃.get? I=none:=y
    rw [hI] at y'
    cases y'
   cases r with
   |nx=>exact ⟨ds.length,by rw [←hk];exact Nat.lt_succ_self _,ds,ι₅,σ₅,ρ₅,rfl,E5,S5,⟨t5,hs5⟩,q6,iA5,O5⟩
   |ct=>exact ⟨ds.length,by rw [←hk];exact Nat.lt_succ_self _,ds,ι₅,σ₅,ρ₅,rfl,E5,S5,⟨t5,hs5⟩,q6,iA5,O5⟩
   |rt rv =>
    have:=O5 _ ι₅ s₄.heap t5 E5 S5 (.rt rv)
    rwa [←hs5] at this
theorem st_for {t:Tg}{e:Ex}{b:Sts}(h0:EvOK prog w base K n cf e)(h1:StsOK prog w base K n cf b):StOK prog w base K n cf (.for t e b):=by
 intro fl A sc NE x env ι s σ ρ Q E hc hf Rm hsc S O
 simp only [chkS] at hc
 split at hc
 ·rename_i target it body pos
  simp only [Bool.and_eq_true,beq_iff_eq] at hc
  obtain ⟨⟨⟨c0,c1⟩,c2⟩,c3⟩:=hc
  rw [evS_for] at O
  refine wpAny_For (wpAny_mono (h0 fl A sc NE it env ι s σ ρ _ E c2 hf Rm hsc S (OutS.expr S O)) (fun x s₁ hq=>?_) fun _ _ e=>e) (fun x=>notSet_fold c0 x)
  obtain ⟨d,σ₁,ι₁,q,e1,S1,r1,⟨t1,hs1⟩,O1⟩:=hq
  unfold forS at O1
  cases hd:items d with
  |none=>rw [hd] at O1;exact O1.elim
  |some ds =>
   rw [hd] at O1
   simp only at O1
   split at O1
   ·refine sq_make S1.hr r1 hd fun l ob hv hlt hfd hfr sq=>?_
    have k:∀b o,s₁.heap.get? b=some o→(s₁.heap.push ob).get? b=some o:=keeps_push
    have dI:s₁.heap.get? s₁.heap.objs.size=none:=Heap.get?_none_of_le (Nat.le_refl _)
    have al:∀b,(∃o,s₁.heap.get? b=some o)→b≠s₁.heap.objs.size:=fun b ⟨o,e⟩ z=>by rw [z,dI] at e;cases e
    exact for_loop (s0:=s₁) (s:={ s₁ with heap:=s₁.heap.push ob }) h1 c1 c3 hf Rm hsc dI (fun z=>al _ (let ⟨m,o,_,_,e,_⟩:=S1.ff.ns _ z;⟨o,e⟩) rfl)
     ⟨fun z=>al _ (let ⟨m,o,_,_,e,_⟩:=S1.fr.ns;⟨o,e⟩) z.symm,fun x c e z=>al _ (let ⟨v,o,e1,_⟩:=S1.fr.cell x c e;⟨o,e1⟩) z.symm⟩ S1.base0 (Ext.more k) (S1.ext (Ext.more k) (S1.hr.more k)) ⟨s₁.toks,rfl⟩ sq (fun z=>al _ (S1.hr.alive z) rfl) O1
   ·exact O1.elim
 ·cases hc
end
end Mine
end
section
set_option maxRecDepth 100000
open PySem PySem.Spec PySem.Calls PyProof.Rows PySem.W
namespace Mine
section
variable {prog:Program}{w:World}{base:Heap}{K:Frag}{mg mb:Str→Option Value}{n:Nat}{cf:Nat→List D→M D}
variable {fl:List PEnv}{ι ι0 ι':Io}{s s0:Shared}{σ σ':Hp}{ρ ρ':Ve}{A:Around}{env:PEnv}{NE:NEt}{sc:PySem.Scope}{E:Value→Shared→Prop}{Q:Flow→Shared→Prop}{h h' h₃:Heap}{tk':Nat}
theorem HR.tabs {ps:Array Value}(H:HR prog w base ι σ h)(e0:σ[(0:Nat)]? = some .tab)(k:∀b o,b≠tabA→h.get? b=some o→h'.get? b=some o)(hP:h'.get? tabA=some (tabObj ps))(ht:TriplesOk ps.toList) :
  HR prog w base ι σ h'∧Mo ι ι h h'∧∀(FL own:List Nat),(∀b∈FL,b∉adr ι)→Ext FL own ι ι h h':=by
 obtain ⟨p,ep,r⟩:=H.obj 0 _ e0
 cases r with
 |tab e _ =>
  have hin:tabA∈nad ι.nums:=nad_of ep (.inl rfl)
  have M:Mo ι ι h h':=⟨List.prefix_refl _,fun _ z=>.inl z,fun b o _ _ e1 _ hb=>k b o (fun q=>hb (by rw [q];exact adr_nad hin)) e1⟩
  refine ⟨⟨fun b o q=>k b o (fun z=>by rw [z,H.off _ (adr_nad hin)] at q;cases q) (H.stay b o q),H.len,fun l o q=>?_,H.nd,H.off,fun a ha=>?_,H.sys,H.low⟩,M,fun FL own hF=>?_⟩
  ·by_cases hl:0=l
   ·subst hl
    rw [e0] at q
    cases q
    exact ⟨_,ep,.tab hP ht⟩
   ·obtain ⟨p',ep',r'⟩:=H.obj l o q
    exact ⟨p',ep',r'.move M trivial fun b hb ob e1=>k b ob (fun z=>hl (adr_one H ep ep' (b:=tabA) (.inl rfl) (z▸hb))) e1⟩
  ·obtain ⟨h1,o,h2⟩:=H.hids a ha
   exact ⟨h1,o,k a o (fun z=>h1 (z▸hin)) h2⟩
  ·exact ⟨List.prefix_refl _,rfl,fun b o q=>if z:b=tabA then ⟨_,z▸hP⟩ else ⟨o,k b o z q⟩,fun _ z=>.inl z,fun b o q hb _ _=>k b o (fun z=>hb (z▸hin)) q,
    fun b o q hb _=>⟨o.slots,k b o (fun z=>hF b hb (by rw [z];exact adr_nad hin)) q⟩⟩
theorem ann_nil:∀{l:List PySem.Arg},l.all (fun a=>a.annotation.isNone)=true→annotationsOf l env=[]
 |[],_=>by first|rfl|(unfold annotationsOf;rfl)|unfold annotationsOf
 |⟨x,some a,p⟩::r,h=>by simp at h
 |⟨x,none,p⟩::r,h=>by
  simp only [List.all_cons,Bool.and_eq_true] at h
  have:=ann_nil h.2
  unfold annotationsOf
  exact this
theorem evS_deff {i:Nat}:evS clsT cf (.deff i) ρ σ=(match σ[(0:Nat)]? with|some .tab=>.ok .nx (ρ.set i (some .opq)) σ|_=>.no):=by
 first|(rw [evS];done)|(rw [evS];generalize σ[(0:Nat)]? = q;rcases q with _|o;rfl;cases o<;>rfl)
theorem st_deff {i:Nat}(W:Wd prog w base K mg mb n cf)(hd:CodeHd base codA tabA)(hb:base.BuiltinsAt mg tabA):StOK prog w base K n cf (.deff i):=by
 intro fl A sc NE x env ι s σ ρ Q E hc hf Rm hsc S O
 simp only [chkS] at hc
 split at hc
 ·rename_i name args b0 body scope bind pos
  simp only [Bool.and_eq_true,beq_iff_eq] at hc
  obtain ⟨⟨⟨⟨⟨rfl,rfl⟩,c3⟩,c4⟩,c5⟩,c6⟩:=hc
  rw [evS_deff] at O
  have e0:σ[(0:Nat)]? = some .tab:=by
   cases q:σ[(0:Nat)]? with
   |none=>rw [q] at O;exact O.elim
   |some o=>rw [q] at O;cases o<;>first|exact O.elim|rfl
  rw [e0] at O
  simp only at O
  subst hsc
  obtain ⟨clos,hcl,_,_⟩:=closure_of (scope:=scope) S.fr fun p hp hfr=>by
   have:=List.all_eq_true.mp c5 p hp
   simp only [Bool.or_eq_true,bne_iff_ne,beq_iff_eq] at this
   rcases this with (q|q)|q
   ·exact absurd hfr q
   ·exact .inl q
   ·exact .inr q
  refine nestDef_K rfl rfl (by
   unfold annTrees
   simp only [List.append_nil,List.nil_append,Option.toList]
   rw [ann_nil c4]
   rfl) ?_
  have hcode:env.code=.ref codA:=S.fr.cd (.inl c3)
  obtain ⟨p,ep,r⟩:=S.hr.obj 0 _ e0
  cases r with
  |tab hP ht =>
   rename_i ps
   have hg:s.heap.Ns mainGlobals mg:=W.C.g.at' fun o e=>S.hr.stay _ o e
   have C:=hd.keeps fun b o e=>S.hr.stay b o e
   have B:=hb.keeps fun b o e=>S.hr.stay b o e
   have hgP:mainGlobals≠tabA:=by
    intro q
    obtain ⟨o,es,epo,e,d,_⟩:=hg
    rw [q,hP] at e
    cases e
    cases d
   have fin:∀(f:Addr) (h':Heap) (tk:Nat) (ps':Array Value),(∀b o,b≠tabA→s.heap.get? b=some o→h'.get? b=some o)→h'.get? tabA=some (tabObj ps')→TriplesOk ps'.toList→wpAny (model prog w) A (storeName env defN (.ref f)) (fun _ s''=>Q .next s'') E { s with heap:=h',toks:=tk }:=fun f h' tk ps' k hP' ht'=>by
    obtain ⟨H1,M1,X1⟩:=S.hr.tabs e0 k hP' ht'
    have E1:Ext (fls fl) [] ι ι s.heap h':=X1 _ _ S.ff.off
    have S1:=S.ext E1 H1
    refine name_at (s:={ s with heap:=h',toks:=tk }) (loc:=false) c6 rfl (fun z=>by cases z) S1 (d:=.opq) .opq fun h₂ tk₂ own ho e2 S2=>?_
    exact O .next ι h₂ tk₂ ((E1.widen fun _ q=>nomatch q).trans (e2.widen (ownIn_sub ho))) S2 .nx
   cases hf':codeAmong pos ps.toList with
   |none =>
    refine makeFunction_K (mg:=mg) hcl S.fr.glob hg hcode C hP ht hf' hgP B fun c' ctv doc h' tk hx _ _ _ hP'=>?_
    refine fin _ _ tk _ (fun b o ne e=>keeps_push b o (hx b o ne e)) (keeps_push _ _ hP') ?_
    have:=TriplesOk_snoc pos.line pos.col (.ref c') ps.toList ht
    simpa using this
   |some cv =>
    refine makeFunction_hit (mg:=mg) hcl S.fr.glob hg hcode C hP ht hf' B fun ctv doc h' tk k _=>?_
    exact fin _ _ tk ps (fun b o _ e=>keeps_push b o (k b o e)) (keeps_push _ _ (k _ _ hP)) ht
 ·cases hc
theorem lit_at {c:PySem.Const}{d:D}{k:Nat}{pos:Pos}{Q:Value→Shared→Prop}{E:Value→Shared→Prop}(hc:litC c d=true)(h:∀v tk,VR ι s.heap v d→Q v { s with toks:=tk }):wpAny (model prog w) A (eval (.Constant c k pos) env) Q E s:=by
 unfold litC at hc
 split at hc
 ·exact Constant_none (h _ s.toks .none)
 ·rw [beq_iff_eq] at hc
  subst hc
  exact Constant_bool (h _ s.toks (.bool _))
 ·rw [beq_iff_eq] at hc
  subst hc
  exact wpAny_Constant_int (h _ _ (.int _ _))
 ·rw [beq_iff_eq] at hc
  subst hc
  exact Constant_str (h _ _ (.str _ _))
 ·cases hc
def tryS (k:Nat)(hn:Hn)(r:RS):RS:=match r with
 |.ok f ρ' h1=>.ok f ρ' h1
 |.ex c ρ' h1=>if under c k then match hn with
   |.cont=>.ok .ct ρ' h1
   |.ret d=>.ok (.rt d) ρ' h1
   |.stuck=>.no
  else .no
 |.no=>.no
theorem evS_try {b:Sts}{k:Nat}{hn:Hn}:evS clsT cf (.try b k hn) ρ σ=tryS k hn (evSs clsT cf b ρ σ):=by
 rw [evS]
 rfl
theorem hand_at {hn:Hn}{hb:List PySem.Stmt}{P:Flow→Shared→Prop}{E:Value→Shared→Prop}(hc:chkHn hn hb=true)(f:Fl)(hf:hn≠.stuck)(hQ:∀v tk,FlR ι s.heap v (match hn with|.cont=>.ct|.ret d=>.rt d|.stuck=>.nx)→P v { s with toks:=tk }) :
  wpAny (model prog w) A (execs hb env) P E s:=by
 unfold chkHn at hc
 split at hc
 ·exact wpAny_execs_cons (wpAny_Continue (hQ _ s.toks .ct))
 ·refine wpAny_execs_cons (wpAny_Return_some (lit_at (ι:=ι) hc fun v tk r=>?_))
  exact hQ _ tk (.rt r)
 ·exact absurd rfl hf
 ·cases hc
theorem try_ok {body:List PySem.Stmt}{b:Sts}{k:Nat}{hn:Hn}{EE:Value→Shared→Prop}(h:StsOK prog w base K n cf b)(cb:chkSs K sc NE b body=true)(hf:A.frames=some fl)(Rm:Room A n)(hsc:env.scope=sc)(S:SR prog w base fl env NE ι σ ρ s.heap)
  (O:OutS prog w base fl env NE ι s (tryS k hn (evSs clsT cf b ρ σ)) Q E)
  (hE:∀ρ' σ',hn≠.stuck→OutS prog w base fl env NE ι s (.ok (match hn with|.cont=>.ct|.ret d=>.rt d|.stuck=>.nx) ρ' σ') Q E→OutS prog w base fl env NE ι s (.ex k ρ' σ') (fun _ _=>False) EE) (hk:hn≠.stuck→k≠0) :
  wpAny (model prog w) A (execs body env) (fun f s₁=>match f with|.next=>wpAny (model prog w) A (execs [] env) Q E s₁|f=>Q f s₁) EE s:=by
 refine h fl A sc NE body env ι s σ ρ _ EE cb hf Rm hsc S ?_
 cases q:evSs clsT cf b ρ σ with
 |no=>rw [q] at O;exact O.elim
 |ok f ρ' σ' =>
  rw [q] at O
  intro v ι' h' tk' e1 S1 r
  have:=O v ι' h' tk' e1 S1 r
  cases r with
  |nx=>exact wpAny_execs_nil this
  |ct=>exact this
  |rt r=>exact this
 |ex c ρ' σ' =>
  rw [q] at O
  unfold tryS at O
  simp only at O
  split at O
  ·rename_i hu
   have hs:hn≠.stuck:=fun z=>by subst z;exact O
   have hck:c=k:=by
    unfold under at hu
    simp only [Bool.or_eq_true,beq_iff_eq] at hu
    rcases hu with z|z
    ·exact z
    ·exact absurd z (hk hs)
   subst hck
   have:=hE ρ' σ' hs (by cases hn<;>first|exact O|exact absurd rfl hs)
   exact this
  ·exact O.elim
theorem st_try {b:Sts}{k:Nat}{hn:Hn}(W:Wd prog w base K mg mb n cf)(h:StsOK prog w base K n cf b):StOK prog w base K n cf (.try b k hn):=by
 intro fl A sc NE x env ι s σ ρ Q E hc hf Rm hsc S O
 simp only [chkS] at hc
 rw [evS_try] at O
 split at hc
 ·rename_i body y py hb hpos pos
  simp only [Bool.and_eq_true,beq_iff_eq,bne_iff_ne] at hc
  obtain ⟨⟨⟨⟨c1,c2⟩,c3⟩,c4⟩,c5⟩:=hc
  refine wpAny_Try_except (try_ok h c1 hf Rm hsc S O (fun ρ' σ' hs O'=>?_) fun _=>c3)
  intro x ι₁ h₁ tk₁ e₁ S₁ X
  obtain ⟨e0,r0,L,hd1,hd2,hL⟩:=S₁.tp
  have hb0:=S.base0
  refine noteFrame_at (s:={ s with heap:=h₁,toks:=tk₁ }) hf ⟨e0,r0,hd1,hd2⟩ S₁.ff.ff hL X S₁.hr.stay e₁.live fun h₂ t₂ X₂=>?_
  have S₂:=S₁.touch t₂ hb0
  have e₂:=t₂.ext e₁
  refine setFlight_at (s:={ s with heap:=h₂,toks:=tk₁ }) S₂.ff.ff X₂ fun h₃ t₃ X₃=>?_
  have S₃:=S₂.touch t₃ hb0
  have e₃:=t₃.ext e₂
  refine wpAny_handleBy_cons (codeAny_handlers_test ?_) (by intro q;cases q)
  refine glob_at (s:={ s with heap:=h₃,toks:=tk₁ }) W S₃ (by rw [hsc];exact isRf_of c2) _ ?_
  have LT:Looks (model prog w) h₃ (typeOf (.ref x)) (.ref (clsA k)):=by
   obtain ⟨oe,vs,e1,e2,_⟩:=X₃
   exact e2▸(Looks.ld e1).andThen .now
  refine (exm_one (M:=model prog w) (W.In S₃.hr.stay) LT c4).here (s:={ s with heap:=h₃,toks:=tk₁ }) ?_
  cases hb with
  |nil=>cases hn<;>cases c5<;>exact absurd rfl hs
  |cons b0 hb =>
  refine codeAny_handlers_suite ?_
  refine setFlight_at (s:={ s with heap:=h₃,toks:=tk₁ }) S₃.ff.ff X₃ fun h₄ t₄ X₄=>?_
  have S₄:=S₃.touch t₄ hb0
  have e₄:=t₄.ext e₃
  refine hand_at (ι:=ι₁) (s:={ s with heap:=h₄,toks:=tk₁ }) c5 .nx hs fun v tk r=>?_
  exact O' v ι₁ h₄ tk e₄ S₄ r
 ·rename_i body y py nm hb hpos pos
  simp only [Bool.and_eq_true,beq_iff_eq,bne_iff_ne] at hc
  have hst:hn=.stuck:=by cases hn<;>first|rfl|(exact absurd hc.2 (by simp))
  subst hst
  exact wpAny_Try_except (try_ok h hc.1.1 hf Rm hsc S O (fun ρ' σ' hs O'=>absurd rfl hs) fun q=>absurd rfl q)
 ·cases hc
end
end Mine
end
section
set_option maxRecDepth 100000
open PySem PySem.Spec PySem.Calls PyProof.Rows PySem.W
namespace Mine
def nodupB:List (List Nat)→Bool
 |[]=>true
 |x::r=>!r.contains x&&nodupB r
def chkD (K:Frag)(fi:FnI)(dv:Value):Bool:=match dv with
 |.none=>fi.dfl.isEmpty
 |.ref T=>(match K.lookup T with
  |some ⟨.type "tuple",_,.seq xs _,_⟩=>readKs K fi.dfl xs.toList
  |_=>false)
 |_=>false
def chkP (K:Frag)(fi:FnI)(names:List (List Nat)):Bool:=match K.lookup fi.addr with
 |some ⟨.type "function",_,.func fd,_⟩ =>
  fd.scope.isCoroutine==false&&fd.scope.isGenerator==false&&fd.scope.kind==.function&&fd.closure.isEmpty&&fd.globals==mainGlobals&&fd.builtins==builtinsNs&&codeIn K fd.code fd.qualname &&
  (match fd.params with
   |⟨[],args,none,[],_,none,_⟩=>args.map (fun a=>a.arg.cps.toList)==names.take fi.np
   |_=>false) &&
  nodupB (names.take fi.np)&&decide (fi.np≤fi.nv)&&decide (fi.nv≤names.length)&&decide (fi.dfl.length≤fi.np)&&chkD K fi fd.defaults &&
  (names.take fi.np).all (fun x=>fd.scope.names.lookup (toS x)==some .local||fd.scope.names.lookup (toS x)==some .cell)&&fd.scope.names.all (fun p=>p.2 != .free) &&
  ((fd.scope.names.lookup defN != some .cell&&fd.scope.names.lookup defN != some .free)||fd.code==.ref codA)
 |_=>false
end Mine
end
section
set_option maxRecDepth 100000
open PySem PySem.Spec PySem.Calls PyProof.Rows PySem.W
namespace Mine
section
variable {α:Type}
theorem lookup_append {l r:List (Str×α)}{x:Str}:(l++r).lookup x=(l.lookup x).or (r.lookup x):=by
 induction l with
 |nil=>simp
 |cons p l ih =>
  obtain ⟨y,v⟩:=p
  rw [List.cons_append,List.lookup_cons,List.lookup_cons]
  cases x==y with
  |true=>rfl
  |false=>exact ih
def fillS (slots:List (Str×α)):List (Str×α)→List (Str×α)
 |[]=>slots
 |(n,d)::r=>fillS (if (slots.lookup n).isNone then slots++[(n,d)] else slots) r
theorem fillS_lookup {x:Str}:∀{r slots:List (Str×α)},(fillS slots r).lookup x=(slots.lookup x).or (r.lookup x)
 |[],slots=>by unfold fillS;simp
 |(n,d)::r,slots=>by
  unfold fillS
  rw [fillS_lookup]
  have key:(if (slots.lookup n).isNone then slots++[(n,d)] else slots).lookup x=(slots.lookup x).or ([(n,d)].lookup x):=by
   split
   ·exact lookup_append
   ·rename_i h
    rw [List.lookup_cons]
    cases q:x==n with
    |true =>
     rw [beq_iff_eq.mp q]
     cases e:slots.lookup n with
     |none=>rw [e] at h;exact absurd rfl h
     |some v=>rfl
    |false=>simp
  rw [key]
  simp only [List.lookup_cons]
  cases x==n<;>cases slots.lookup x<;>simp
theorem zip_lookup:∀{names:List Str} {ws:List α} {i:Nat} {x:Str},names.Nodup→names[i]? = some x→(names.zip ws).lookup x=ws[i]?
 |[],ws,i,x,_,h=>by simp at h
 |n::names,[],i,x,_,h=>by simp
 |n::names,v::ws,i,x,hn,h=>by
  rw [List.zip_cons_cons,List.lookup_cons]
  cases i with
  |zero =>
   simp at h
   subst h
   simp
  |succ i =>
   have h':names[i]? = some x:=by simpa using h
   have hne:x≠n:=fun q=>(List.nodup_cons.mp hn).1 (q▸List.mem_of_getElem? h')
   have hb:(x==n)=false:=by simpa using hne
   rw [hb]
   have:=zip_lookup (ws:=ws) (List.nodup_cons.mp hn).2 h'
   simpa using this
theorem zip_of:∀{names:List Str} {ws:List α} {g:Str→Option α},names.length=ws.length→(∀(i:Nat) (x:Str),names[i]? = some x→g x=ws[i]?)→names.filterMap (fun n=>(g n).map (n,·))=names.zip ws
 |[],ws,g,_,_=>by simp
 |n::names,[],g,hl,_=>by simp at hl
 |n::names,v::ws,g,hl,h=>by
  have h0:g n=some v:=by simpa using h 0 n (by simp)
  rw [List.filterMap_cons,h0]
  simp only [Option.map_some,List.zip_cons_cons]
  rw [zip_of (by simpa using hl) fun i x e=>by simpa using h (i+1) x (by simpa using e)]
end
section
variable {M:Model}{A:Around}{E:Value→Shared→Prop}{s:Shared}
theorem fill_for {Q:List (Str×Value)→Shared→Prop}:∀(l slots:List (Str×Value)),Q (fillS slots l) s →
  wpAny M A (forIn l slots fun p slots=>(if (slots.lookup p.1).isNone=true then pure (ForInStep.yield (slots++[(p.1,p.2)])) else pure (ForInStep.yield slots):Sem (ForInStep (List (Str×Value))))) Q E s
 |[],slots,h=>by rw [List.forIn_nil];exact wpAny_pure h
 |(n,d)::r,slots,h=>by
  rw [List.forIn_cons]
  unfold fillS at h
  split
  ·rename_i q
   rw [if_pos q] at h
   exact wpAny_bind (wpAny_pure (fill_for r _ h))
  ·rename_i q
   rw [if_neg q] at h
   exact wpAny_bind (wpAny_pure (fill_for r _ h))
theorem bind_at {fd:FuncData}{args:List PySem.Arg}{kd:List (Option PySem.Expr)}{df:List PySem.Expr}{vs dl:List Value}{od:Option (Array Value)}{Q:List (Str×Value)→Shared→Prop}(hp:fd.params=⟨[],args,none,[],kd,none,df⟩)
  (hd:∀{Q':Option (Array Value)→Shared→Prop},Q' od s→wpAny M A (seqItems? fd.defaults) Q' E s) (hod:(od.getD #[]).toList=dl) (hn:(args.map (·.arg)).Nodup) (h1:vs.length≤args.length) (h2:args.length≤vs.length+dl.length) (h3:dl.length≤args.length)
  (h:Q ((args.map (·.arg)).zip (vs++dl.drop (vs.length+dl.length - args.length))) s):wpAny M A (bindArgs fd ⟨vs,[]⟩) Q E s:=by
 unfold bindArgs
 rw [hp]
 simp only [List.map_nil,List.nil_append,List.forIn_nil,pure_bind,List.append_nil]
 refine wpAny_bind (hd ?_)
 rw [hod]
 have e1:(decide (vs.length > (args.map (·.arg)).length)&&(none:Option PySem.Arg).isNone)=false:=by
  simp only [List.length_map,Bool.and_eq_false_iff,decide_eq_false_iff_not]
  exact .inl (by omega)
 simp only [List.length_map] at e1 ⊢
 rw [if_neg (by rw [e1];exact Bool.false_ne_true)]
 have e2:dl.drop (dl.length - args.length)=dl:=by rw [Nat.sub_eq_zero_of_le h3];rfl
 rw [e2]
 generalize hnm:args.map (·.arg)=names at hn h ⊢
 have hlen:args.length=names.length:=by rw [←hnm,List.length_map]
 rw [hlen] at h1 h2 h3 h ⊢
 have e3:(names.take (names.length - dl.length)).filter (fun n=>((names.zip vs).lookup n).isNone)=[]:=by
  rw [List.filter_eq_nil_iff]
  intro x hx
  obtain ⟨i,hi⟩:=List.getElem?_of_mem hx
  rw [List.getElem?_take] at hi
  split at hi
  ·rename_i hlt
   rw [zip_lookup hn hi,List.getElem?_eq_getElem (by omega)]
   simp
  ·cases hi
 rw [e3,if_neg (by decide)]
 refine wpAny_bind (fill_for _ _ ?_)
 have e4:names.filterMap (fun n=>((fillS (names.zip vs) ((names.drop (names.length - dl.length)).zip dl)).lookup n).map (n,·))=names.zip (vs++dl.drop (vs.length+dl.length - names.length)):=by
  refine zip_of (by simp;omega) fun i x hi=>?_
  rw [fillS_lookup,zip_lookup hn hi]
  have hlt:i < names.length:=(List.getElem?_eq_some_iff.mp hi).1
  by_cases hv:i < vs.length
  ·rw [List.getElem?_eq_getElem hv,List.getElem?_append_left hv,List.getElem?_eq_getElem hv]
   rfl
  ·rw [List.getElem?_eq_none (by omega),List.getElem?_append_right (by omega)]
   have hd':(names.drop (names.length - dl.length))[i - (names.length - dl.length)]? = some x:=by
    rw [List.getElem?_drop,show names.length - dl.length+(i - (names.length - dl.length))=i from by omega]
    exact hi
   rw [zip_lookup (hn.sublist (List.drop_sublist _ _)) hd',List.getElem?_drop]
   simp only [Option.none_or]
   congr 1
   omega
 rw [e4]
 exact wpAny_pure h
end
end Mine
end
section
set_option maxRecDepth 100000
open PySem PySem.Spec PySem.Calls PyProof.Rows PySem.W
namespace Mine
section
variable {prog:Program}{w:World}{base:Heap}{K:Frag}{mg mb:Str→Option Value}{n:Nat}{cf:Nat→List D→M D}
theorem co_all (W:Wd prog w base K mg mb n cf):∀e:Ex,isCo e=true→CoOK prog w base K n cf e
 |.comp x t it,_=>co_comp (ex_all W x).1 (ex_all W it).1
 |.compc x t it c,_=>co_compc (ex_all W x).1 (ex_all W it).1 (ex_all W c).2
 |.compz x i j a b,_=>co_compz W (ex_all W x).1 (ex_all W a).1 (evs_all (es:=.cons a (.cons b .nil)) ⟨ex_all W a,ex_all W b,trivial⟩)
 |.lit _,h=>by cases h
 |.neg _,h=>by cases h
 |.var _,h=>by cases h
 |.tup _,h=>by cases h
 |.vlist _,h=>by cases h
 |.mlist _,h=>by cases h
 |.mdict _ _,h=>by cases h
 |.item _ _,h=>by cases h
 |.lpick _ _,h=>by cases h
 |.rev _,h=>by cases h
 |.attr _ _,h=>by cases h
 |.call _ _,h=>by cases h
 |.fresh _ _,h=>by cases h
 |.meth _ _ _,h=>by cases h
 |.new _ _,h=>by cases h
 |.bi _ _,h=>by cases h
 |.bm _ _ _,h=>by cases h
 |.andor _ _,h=>by cases h
 |.not _,h=>by cases h
 |.cmp _ _ _,h=>by cases h
 |.bin _ _ _,h=>by cases h
 |.ite _ _ _,h=>by cases h
 |.stuck,h=>by cases h
mutual
theorem st_all (W:Wd prog w base K mg mb n cf)(hd:CodeHd base codA tabA)(hb:base.BuiltinsAt mg tabA)(hr:∀c es,StOK prog w base K n cf (.raise c es)):∀x:St,StOK prog w base K n cf x
 |.asn t e=>st_asn (ex_all W e).1 (co_all W e)
 |.sattr o a e=>st_sattr W (ex_all W o).1 (ex_all W e).1
 |.sitem o i e=>st_sitem (ex_all W o).1 (ex_all W i).1 (ex_all W e).1
 |.ex e=>st_ex (ex_all W e).1
 |.iff c a b=>st_iff (ex_all W c).2 (sts_all W hd hb hr a) (sts_all W hd hb hr b)
 |.whl c b=>st_whl (ex_all W c).2 (sts_all W hd hb hr b)
 |.for t e b=>st_for (ex_all W e).1 (sts_all W hd hb hr b)
 |.ret e=>st_ret (ex_all W e).1
 |.raise c es=>hr c es
 |.try b k hn=>st_try W (sts_all W hd hb hr b)
 |.cont=>st_cont
 |.deff i=>st_deff W hd hb
 |.stuck=>st_stuck
theorem sts_all (W:Wd prog w base K mg mb n cf)(hd:CodeHd base codA tabA)(hb:base.BuiltinsAt mg tabA)(hr:∀c es,StOK prog w base K n cf (.raise c es)):∀xs:Sts,StsOK prog w base K n cf xs
 |.nil=>st_nil
 |.cons x xs=>st_cons (st_all W hd hb hr x) (sts_all W hd hb hr xs)
end
end
theorem bindL_off {kd:Str→Option NameKind}{x:Str}:∀{l:List (Str×Value)} {m:Str→Option Value},x∉l.map (·.1)→bindL kd l m x=m x
 |[],m,_=>rfl
 |(y,v)::r,m,h=>by
  simp only [List.map_cons,List.mem_cons,not_or] at h
  unfold bindL
  rw [bindL_off h.2]
  split
  ·simp only
   rw [if_neg h.1]
  ·rfl
theorem bindC_off {kd:Str→Option NameKind}{x:Str}:∀{l:List (Str×Value)} {m:Str→Option Value},x∉l.map (·.1)→bindC kd l m x=m x
 |[],m,_=>rfl
 |(y,v)::r,m,h=>by
  simp only [List.map_cons,List.mem_cons,not_or] at h
  unfold bindC
  rw [bindC_off h.2]
  split
  ·rfl
  ·simp only
   rw [if_neg h.1]
theorem bindL_at {kd:Str→Option NameKind}:∀{names:List Str} {ws:List Value} {m:Str→Option Value} {i:Nat} {x:Str} {v:Value},names.Nodup→names[i]? = some x→ws[i]? = some v→kd x=some .local→bindL kd (names.zip ws) m x=some v
 |[],ws,m,i,x,v,_,h,_,_=>by simp at h
 |n::names,[],m,i,x,v,_,_,h,_=>by simp at h
 |n::names,u::ws,m,i,x,v,hn,h,hv,hk=>by
  rw [List.zip_cons_cons]
  unfold bindL
  cases i with
  |zero =>
   simp at h hv
   subst h hv
   rw [bindL_off (fun q=>(List.nodup_cons.mp hn).1 (by
    obtain ⟨⟨a,b⟩,h1,h2⟩:=List.mem_map.mp q
    simp only at h2
    subst h2
    exact (List.of_mem_zip h1).1)),if_pos hk]
   simp
  |succ i=>exact bindL_at (List.nodup_cons.mp hn).2 (by simpa using h) (by simpa using hv) hk
theorem bindC_at {kd:Str→Option NameKind}:∀{names:List Str} {ws:List Value} {m:Str→Option Value} {i:Nat} {x:Str} {v:Value},names.Nodup→names[i]? = some x→ws[i]? = some v→kd x≠some .local→bindC kd (names.zip ws) m x=some v
 |[],ws,m,i,x,v,_,h,_,_=>by simp at h
 |n::names,[],m,i,x,v,_,_,h,_=>by simp at h
 |n::names,u::ws,m,i,x,v,hn,h,hv,hk=>by
  rw [List.zip_cons_cons]
  unfold bindC
  cases i with
  |zero =>
   simp at h hv
   subst h hv
   rw [bindC_off (fun q=>(List.nodup_cons.mp hn).1 (by
    obtain ⟨⟨a,b⟩,h1,h2⟩:=List.mem_map.mp q
    simp only at h2
    subst h2
    exact (List.of_mem_zip h1).1)),if_neg hk]
   simp
  |succ i=>exact bindC_at (List.nodup_cons.mp hn).2 (by simpa using h) (by simpa using hv) hk
theorem cells_mem {x:Str}:∀{names:List (Str×NameKind)} {k:Nat} {acc:List (Str×Addr)},((x,NameKind.cell)∈names∨∃c,(x,c)∈acc)→∃c,(x,c)∈cellsFrom k names acc
 |[],k,acc,h=>by
  rcases h with h|h
  ·cases h
  ·exact h
 |(y,kd)::r,k,acc,h=>by
  unfold cellsFrom
  split
  ·rename_i hk
   refine cells_mem ?_
   rcases h with h|⟨c,h⟩
   ·rcases List.mem_cons.mp h with q|q
    ·cases q
     exact .inr ⟨k,List.mem_cons_self⟩
    ·exact .inl q
   ·exact .inr ⟨c,List.mem_cons_of_mem _ h⟩
  ·rename_i hk
   refine cells_mem ?_
   rcases h with h|h
   ·rcases List.mem_cons.mp h with q|q
    ·cases q
     exact absurd rfl hk
    ·exact .inl q
   ·exact .inr h
theorem cells_look {x:Str}{names:List (Str×NameKind)}{k:Nat}(h:names.lookup x=some .cell):∃c,(cellsFrom k names []).lookup x=some c:=by
 obtain ⟨c,hc⟩:=cells_mem (k:=k) (acc:=[]) (.inl (mem_of_lookup h))
 exact lookup_mem hc
theorem nodup_of:∀{l:List (List Nat)},nodupB l=true→l.Nodup
 |[],_=>List.nodup_nil
 |x::r,h=>by
  simp only [nodupB,Bool.and_eq_true,Bool.not_eq_true'] at h
  exact List.nodup_cons.mpr ⟨fun q=>(by rw [List.contains_iff_mem.mpr q] at h;cases h.1),nodup_of h.2⟩
theorem nlook_zip:∀{l:List (List Nat)} {k i:Nat} {x:List Nat},nlook (l.zipIdx k) x=some i→k≤i∧l[i - k]? = some x
 |[],k,i,x,h=>by cases h
 |y::l,k,i,x,h=>by
  rw [List.zipIdx_cons] at h
  unfold nlook at h
  split at h
  ·rename_i q
   cases h
   exact ⟨Nat.le_refl _,by simp [q]⟩
  ·obtain ⟨h1,h2⟩:=nlook_zip h
   refine ⟨by omega,?_⟩
   rw [show i - k=(i - (k+1))+1 from by omega]
   simpa using h2
end Mine
end
section
set_option maxRecDepth 100000
open PySem PySem.Spec PySem.Calls PyProof.Rows PySem.W
namespace Mine
abbrev envF (fd:FuncData)(L a:Addr):PEnv:=newEnv fd.scope L fd.globals (cellsFrom (L+1) fd.scope.names []) (fd.qualname ++ ".<locals>.") (some a) fd.code none fd.builtins
section
variable {prog:Program}{w:World}{base:Heap}{K:Frag}{mg mb:Str→Option Value}{n:Nat}{cf:Nat→List D→M D}
variable {fl:List PEnv}{ι ι0 ι':Io}{s s0 s₁:Shared}{σ σ':Hp}{ρ ρ':Ve}{A:Around}{env:PEnv}{NE:NEt}{sc:PySem.Scope}{E:Value→Shared→Prop}{h h' h₃:Heap}{tk':Nat}
structure FdOK (K:Frag)(fi:FnI)(fd:FuncData)(names:List (List Nat)):Prop where
 co:fd.scope.isCoroutine=false
 gen:fd.scope.isGenerator=false
 kind:fd.scope.kind=.function
 clos:fd.closure=[]
 glob:fd.globals=mainGlobals
 blt:fd.builtins=builtinsNs
 code:codeIn K fd.code fd.qualname=true
 args:∃args kd df,fd.params=⟨[],args,none,[],kd,none,df⟩∧args.map (fun a=>a.arg.cps.toList)=names.take fi.np
 nd:(names.take fi.np).Nodup
 np:fi.np≤fi.nv
 nv:fi.nv≤names.length
 dl:fi.dfl.length≤fi.np
 dv:chkD K fi fd.defaults=true
 loc:∀x∈names.take fi.np,fd.scope.names.lookup (toS x)=some .local∨fd.scope.names.lookup (toS x)=some .cell
 nf:∀p∈fd.scope.names,p.2≠.free
 cd:(fd.scope.names.lookup defN=some .cell∨fd.scope.names.lookup defN=some .free)→fd.code=.ref codA
theorem chkP_of {fi:FnI}{names:List (List Nat)}(h:chkP K fi names=true):∃od sl fd,K.lookup fi.addr=some ⟨.type "function",od,.func fd,sl⟩∧FdOK K fi fd names:=by
 unfold chkP at h
 split at h
 ·rename_i od fd sl e
  refine ⟨od,sl,fd,e,?_⟩
  simp only [Bool.and_eq_true,beq_iff_eq,decide_eq_true_eq,List.isEmpty_iff] at h
  obtain ⟨⟨⟨⟨⟨⟨⟨⟨⟨⟨⟨⟨⟨⟨⟨h1,h2⟩,h3⟩,h4⟩,h5⟩,h6⟩,h7⟩,h8⟩,h9⟩,h10⟩,h11⟩,h12⟩,h13⟩,h14⟩,h15⟩,h16⟩:=h
  refine ⟨h1,h2,h3,h4,h5,h6,h7,?_,nodup_of h9,h10,h11,h12,h13,fun x hx=>?_,fun p hp=>?_,fun q=>?_⟩
  ·split at h8
   ·rename_i args kd df ep
    exact ⟨args,kd,df,ep,beq_iff_eq.mp h8⟩
   ·cases h8
  ·have:=List.all_eq_true.mp h14 x hx
   simpa using this
  ·have:=List.all_eq_true.mp h15 p hp
   simpa using this
  ·simp only [Bool.or_eq_true,Bool.and_eq_true,bne_iff_ne,beq_iff_eq] at h16
   rcases h16 with ⟨a,b⟩|c
   ·rcases q with q|q
    ·exact absurd q a
    ·exact absurd q b
   ·exact c
 ·cases h
theorem names_of {args:List PySem.Arg}{l:List (List Nat)}(h:args.map (fun a=>a.arg.cps.toList)=l):args.map (·.arg)=l.map toS:=by
 rw [←h,List.map_map]
 congr 1
theorem nodup_toS:∀{l:List (List Nat)},l.Nodup→(l.map toS).Nodup
 |[],_=>List.nodup_nil
 |x::r,h=>by
  rw [List.map_cons,List.nodup_cons]
  refine ⟨fun q=>?_,nodup_toS (List.nodup_cons.mp h).2⟩
  obtain ⟨y,hy,e⟩:=List.mem_map.mp q
  exact (List.nodup_cons.mp h).1 (toS_inj e▸hy)
theorem enter_at {fi:FnI}{fd:FuncData}{names:List (List Nat)}{a:Addr}{as:List D}{ws:List Value}(F:FdOK K fi fd names)(H:HR prog w base ι σ s.heap)(ff:FramesR base ι s.heap fl)
  (hl:ws.length=fi.np) (rw':VRs ι s.heap ws as) (hal:as.length=fi.np)
  (x:InCallC s (envF fd s.heap.objs.size a).locals (bindL (envF fd s.heap.objs.size a).kindOf (((names.take fi.np).map toS).zip ws) fun _=>none) (envF fd s.heap.objs.size a).cells (bindC (envF fd s.heap.objs.size a).kindOf (((names.take fi.np).map toS).zip ws) fun _=>none) s₁) :
  SR prog w base (envF fd s.heap.objs.size a::fl) (envF fd s.heap.objs.size a) ((names.take fi.nv).zipIdx) ι σ (as.map some++List.replicate (fi.nv - fi.np) none) s₁.heap:=by
 have k:=x.toInCall.keep
 have dead:∀m,s.heap.objs.size≤m→s.heap.get? m=none:=fun m hm=>Heap.get?_none_of_le hm
 have fresh:∀m,s.heap.objs.size≤m→m∉adr ι∧base.get? m=none:=fun m hm=>by
  refine ⟨fun q=>?_,?_⟩
  ·obtain ⟨o,e⟩:=H.alive q
   rw [dead m hm] at e
   cases e
  ·cases e:base.get? m with
   |none=>rfl
   |some o=>have:=H.stay m o e;rw [dead m hm] at this;cases this
 have H1:=H.more k
 have hns:s₁.heap.Ns s.heap.objs.size (bindL (envF fd s.heap.objs.size a).kindOf (((names.take fi.np).map toS).zip ws) fun _=>none):=x.toInCall.ns
 have nsk:∀{b m},s.heap.Ns b m→s₁.heap.Ns b m:=fun n=>n.at' fun o e=>k _ o e
 have ffs:s₁.heap.FunFrames base fl:=frames_of ff.ff fun b hb=>let ⟨m,n⟩:=ff.ns b hb;⟨m,nsk n⟩
 have lookC:∀y c,(envF fd s.heap.objs.size a).cells.lookup y=some c→s.heap.objs.size < c:=fun y c e=>x.above y c (mem_of_lookup e)
 refine ⟨H1,⟨⟨?_,⟨s.heap.objs.size,?_⟩,ffs⟩,fun b hb=>?_,fun b hb=>?_⟩,⟨F.kind,F.glob,F.blt,⟨_,hns⟩,fun y c e=>⟨_,x.cell y c e⟩,fun y z c e e'=>name_of_addr x.apart (mem_of_lookup e) (mem_of_lookup e'),fun y hy=>?_,fresh _ (Nat.le_refl _),fun y c e=>fresh c (Nat.le_of_lt (lookC y c e)),fun q=>F.cd q⟩,fun y i d hi hd=>?_,⟨_,fl,s.heap.objs.size,rfl,rfl,rfl⟩⟩
 ·show fd.scope.kind≠.module
  rw [F.kind]
  decide
 ·obtain ⟨o,es,ep,e,hd,_⟩:=hns
  exact ⟨o,rfl,(fresh _ (Nat.le_refl _)).2,e,fun vs q=>by rw [hd] at q;cases q⟩
 ·rcases List.mem_cons.mp (show b∈s.heap.objs.size::fls fl from hb) with rfl|hb
  ·exact ⟨_,hns⟩
  ·obtain ⟨m,n⟩:=ff.ns b hb
   exact ⟨m,nsk n⟩
 ·rcases List.mem_cons.mp (show b∈s.heap.objs.size::fls fl from hb) with rfl|hb
  ·exact (fresh _ (Nat.le_refl _)).1
  ·exact ff.off b hb
 ·rcases hy with hy|hy
  ·exact cells_look hy
  ·exact absurd rfl (F.nf _ (mem_of_lookup hy))
 ·obtain ⟨_,h2⟩:=nlook_zip hi
  rw [Nat.sub_zero] at h2
  have hlt:i < fi.np:=by
   by_cases q:i < as.length
   ·omega
   ·rw [List.getElem?_append_right (by simpa using q)] at hd
    rw [List.getElem?_replicate] at hd
    split at hd<;>simp at hd
  have hd':as[i]? = some d:=by
   rw [List.getElem?_append_left (by simp;omega),List.getElem?_map] at hd
   cases e:as[i]? with
   |none=>rw [e] at hd;cases hd
   |some d'=>rw [e] at hd;simp at hd;rw [hd]
  obtain ⟨v,hv,rv⟩:=rw'.get hd'
  have h3:(names.take fi.np)[i]? = some y.cps.toList:=by
   rw [List.getElem?_take] at h2 ⊢
   rw [if_pos hlt]
   split at h2
   ·exact h2
   ·cases h2
  have h4:((names.take fi.np).map toS)[i]? = some y:=by rw [List.getElem?_map,h3];simp [toS_cps]
  have rv1:=rv.mono (Mo.more k) trivial
  have hk:=F.loc _ (List.mem_of_getElem? h3)
  rw [toS_cps] at hk
  rcases hk with hk|hk
  ·exact .loc (m:=_) hk hns (bindL_at (nodup_toS F.nd) h4 hv hk) rv1
  ·obtain ⟨c,hc⟩:=cells_look (k:=s.heap.objs.size+1) hk
   have hcell:=x.cell y c hc
   rw [bindC_at (nodup_toS F.nd) h4 hv (fun z=>by
    have z':fd.scope.names.lookup y=some .local:=z
    rw [hk] at z'
    cases z')] at hcell
   exact .cell (.inl hk) hc hcell rv1
theorem VRs.drop':∀{k:Nat} {vs:List Value} {ds:List D},VRs ι h vs ds→VRs ι h (vs.drop k) (ds.drop k)
 |0,_,_,r=>r
 |k+1,_,_,.nil=>.nil
 |k+1,_,_,.cons _ r=>VRs.drop' (k:=k) r
theorem leave_ext (k:∀b o,s.heap.get? b=some o→s₁.heap.get? b=some o)(hL:s.heap.get? env.locals=none)(hfr:env.frame=some env.locals)(hC:∀y c,env.cells.lookup y=some c→s.heap.get? c=none)
  (e:Ext (fls (env::fl)) (ownE env) ι ι' s₁.heap h'):Ext (fls fl) [] ι ι' s.heap h':=by
 have nO:∀{b:Nat} {o:Obj},s.heap.get? b=some o→b∉ownE env:=fun {b o} e q=>by
  rcases (own_in b q).1 with y|⟨y,z⟩
  ·rw [y,hL] at e;cases e
  ·rw [hC y b z] at e;cases e
 have hfl:fls (env::fl)=env.locals::fls fl:=by
  show List.filterMap _ (env::fl)=_
  rw [List.filterMap_cons,hfr]
 refine ⟨e.pre,e.same,fun b o q=>e.live b o (k b o q),fun a ha=>(e.new a ha).imp id fun q=>dead (fun b o q=>⟨o,k b o q⟩) q,fun b o q h1 h2 _=>e.keep b o (k b o q) h1 (fun z=>?_) (nO q),fun b o q h1 _=>e.slot b o (k b o q) (by rw [hfl];exact List.mem_cons_of_mem _ h1) (nO q)⟩
 rw [hfl] at z
 rcases List.mem_cons.mp z with y|y
 ·rw [y,hL] at q;cases q
 ·exact h2 y
def backR (r:RS):R D:=match r with
 |.ok f _ h'=>match f with
  |.rt d=>.ok d h'
  |.nx=>.ok .none h'
  |.ct=>.no
 |.ex c _ h'=>.ex c h'
 |.no=>.no
theorem callF_at {f:Nat}{fi:FnI}{as:List D}(e:fnT[f]? = some fi):callF tab (n+1) f as σ=(match bindA fi as with|none=>.no|some ρ=>backR (evSs clsT (callF tab n) fi.body ρ σ)):=by
 have e':tab.fns[f]? = some fi:=e
 unfold callF
 rw [e']
 simp only
 unfold runF
 cases bindA fi as with
 |none=>rfl
 |some ρ =>
  simp only
  unfold backR
  show (match evSs clsT (callF tab n) fi.body ρ σ with|.ok f _ h'=>_|.ex c _ h'=>_|.no=>_)=_
  cases evSs clsT (callF tab n) fi.body ρ σ<;>rfl
theorem call_step (W:Wd prog w base K mg mb n (callF tab n))(hd:CodeHd base codA tabA)(hb:base.BuiltinsAt mg tabA)(hr:∀c es,StOK prog w base K n (callF tab n) (.raise c es))
  (hF:∀(f:Nat) (fi:FnI),fnT[f]? = some fi→∃nm,chkF K fi nm=true∧chkP K fi nm=true):CallOK prog w base (n+1) (callF tab (n+1)):=by
 intro f fi vs as fl A E s ι σ Q ef hfr Rm H ff r O
 rw [callF_at ef] at O
 obtain ⟨nm,c1,c2⟩:=hF f fi ef
 obtain ⟨od,sl,fd,hk,F⟩:=chkP_of c2
 unfold chkF at c1
 rw [hk] at c1
 simp only at c1
 cases hbd:bindA fi as with
 |none=>rw [hbd] at O;exact O.elim
 |some ρ =>
  rw [hbd] at O
  simp only at O
  have hbd':=hbd
  unfold bindA at hbd'
  split at hbd'
  ·rename_i hcond
   obtain ⟨b1,b2,b3⟩:=hcond
   cases hbd'
   split at c1
   ·rename_i body hbody
    have hX:=W.In H.stay
    have hlen:=r.length
    obtain ⟨args,kd,df,hp,hargs⟩:=F.args
    have hnames:=names_of hargs
    have hal:args.length=fi.np:=by
     have h1:=congrArg List.length hargs
     have h2:=F.nv
     have h3:=F.np
     simp at h1
     omega
    -- the defaults
    obtain ⟨dl,odv,hod,hseq,rd⟩:∃(dl:List Value) (odv:Option (Array Value)),(odv.getD #[]).toList=dl∧(∀{M:Model} {A:Around} {E:Value→Shared→Prop} {Q':Option (Array Value)→Shared→Prop},Q' odv s→wpAny M A (seqItems? fd.defaults) Q' E s)∧VRs ι s.heap dl fi.dfl:=by
     have hdv:=F.dv
     unfold chkD at hdv
     split at hdv
     ·rename_i hdf
      have:fi.dfl=[]:=by simpa using hdv
      rw [this]
      refine ⟨[],none,rfl,fun {M A E Q'} q=>?_,.nil⟩
      rw [hdf]
      exact wpAny_pure q
     ·rename_i T hdf
      split at hdv
      ·rename_i dd xs m sl' e
       refine ⟨xs.toList,some xs,rfl,fun {M A E Q'} q=>?_,readKs_vr W.C.X H fi.dfl xs.toList hdv⟩
       rw [hdf]
       exact wpAny_seqItems (hX T _ e) rfl q
      ·cases hdv
     ·cases hdv
    have hdl:=rd.length
    have hnd:(args.map (·.arg)).Nodup:=by rw [hnames];exact nodup_toS F.nd
    refine codeAny_call_function (Nat.lt_of_le_of_lt (by omega) Rm.dep) (hX _ _ hk) rfl F.co F.gen hbody (codeRec_of hX F.code) ?_
    refine bind_at hp hseq hod hnd (by omega) (by have:=F.dl;omega) (by have:=F.dl;omega) ?_
    rw [F.clos,hnames]
    have hws:(vs++dl.drop (vs.length+dl.length - args.length)).length=fi.np:=by simp;have:=F.dl;omega
    have e2:vs.length+dl.length - args.length=as.length+fi.dfl.length - fi.np:=by omega
    have rws:VRs ι s.heap (vs++dl.drop (vs.length+dl.length - args.length)) (as++fi.dfl.drop (as.length+fi.dfl.length - fi.np)):=by rw [e2];exact r.append rd.drop'
    refine wpAny_newFunctionEnv_cells F.kind (fun x hx=>?_) fun env he s₁ x=>?_
    ·have hm:x.1∈(nm.take fi.np).map toS:=(List.of_mem_zip hx).1
     obtain ⟨y,hy,e⟩:=List.mem_map.mp hm
     rcases F.loc y hy with q|q
     ·exact .inl (e▸q)
     ·refine .inr ⟨e▸q,?_⟩
      obtain ⟨c,hc⟩:=cells_look (k:=s.heap.objs.size+1) q
      rw [←e,hc]
      rfl
    ·subst he
     refine ⟨(W.C.lim.keeps fun b o e=>H.stay b o e).keeps x.toInCall.keep,codeAny_func ?_⟩
     have S:=enter_at F H ff hws rws (by have:=rws.length;omega) x
     obtain ⟨h₁,tk₁,hs₁⟩:=x.toInCall.same
     have k:=x.toInCall.keep
     have hL:s.heap.get? s.heap.objs.size=none:=Heap.get?_none_of_le (Nat.le_refl _)
     have hC:∀y c,(envF fd s.heap.objs.size fi.addr).cells.lookup y=some c→s.heap.get? c=none:=fun y c e=>Heap.get?_none_of_le (Nat.le_of_lt (x.above y c (mem_of_lookup e)))
     have lx:∀{ι':Io} {h':Heap},Ext (fls (envF fd s.heap.objs.size fi.addr::fl)) (ownE (envF fd s.heap.objs.size fi.addr)) ι ι' s₁.heap h'→Ext (fls fl) [] ι ι' s.heap h':=fun e=>leave_ext k hL rfl hC e
     have hfr':(A.deeper (envF fd s.heap.objs.size fi.addr)).frames=some (envF fd s.heap.objs.size fi.addr::fl):=by
      show A.frames.map _=_
      rw [hfr]
      rfl
     refine sts_all W hd hb hr fi.body _ (A.deeper (envF fd s.heap.objs.size fi.addr)) fd.scope _ body (envF fd s.heap.objs.size fi.addr) ι s₁ σ _ _ _ (by simpa using c1) hfr'
      ⟨Rm.hh,Nat.lt_of_le_of_lt (by show A.depth+1+8 * n+4≤A.depth+8 * (n+1)+2;omega) Rm.dep,Nat.lt_of_le_of_lt (by show A.units+3+64 * n+100≤A.units+64 * (n+1)+50;omega) Rm.uni⟩ rfl S ?_
     generalize evSs clsT (callF tab n) fi.body _ σ=res at O
     cases res with
     |no=>exact O.elim
     |ok f ρ' σ' =>
      intro v ι' h' tk' e S' rv
      have O':OutG prog w base fl VR ι s (backR (.ok f ρ' σ')) Q E:=O
      rw [hs₁]
      cases rv with
      |nx=>exact O' .none ι' h' tk' (lx e) S'.hr .none
      |ct=>exact O'.elim
      |rt rv=>exact O' _ ι' h' tk' (lx e) S'.hr rv
     |ex c ρ' σ' =>
      intro xa ι' h' tk' e S' X
      have O':OutG prog w base fl VR ι s (.ex c σ') Q E:=O
      have hb0:∀b o,base.get? b=some o→∃o',s.heap.get? b=some o':=fun b o q=>⟨o,H.stay b o q⟩
      have X':ExcR base s.heap h' xa (clsA c) false:=X.lower fun b o q=>⟨o,k b o q⟩
      have e':=lx e
      unfold leaving
      refine wpAny_bind ?_
      refine noteFrame_at (s:={ s₁ with heap:=h',toks:=tk' }) (env:=envF fd s.heap.objs.size fi.addr) hfr' ⟨_,_,rfl,rfl⟩ S'.ff.ff rfl X' S'.hr.stay e'.live fun h₂ t₂ X₂=>?_
      have S₂:=S'.touch t₂ hb0
      refine setFlight_at (s:={ s₁ with heap:=h₂,toks:=tk' }) S₂.ff.ff X₂ fun h₃ t₃ X₃=>?_
      have t:Touch s.heap (fls (envF fd s.heap.objs.size fi.addr::fl)) h' h₃:=t₂.trans t₃
      have S₃:=S₂.touch t₃ hb0
      rw [hs₁]
      have ne:∀{b:Nat} {o:Obj},s.heap.get? b=some o→b∉fls fl→b∉fls (envF fd s.heap.objs.size fi.addr::fl):=fun {b o} q h1 z=>by
       rcases List.mem_cons.mp (show b∈s.heap.objs.size::fls fl from z) with y|y
       ·rw [y,hL] at q;cases q
       ·exact h1 y
      exact O' xa ι' h₃ tk' ⟨e'.pre,e'.same,fun b o q=>let ⟨o',z⟩:=e'.live b o q;t.live b o' z,e'.new,fun b o q h1 h2 h3=>t.old b o (e'.keep b o q h1 h2 h3) ⟨o,q⟩ (ne q h2),fun b o q h1 h2=>by
       obtain ⟨sl,z⟩:=e'.slot b o q h1 h2
       obtain ⟨sl',z'⟩:=t.slot b _ z (List.mem_cons_of_mem _ h1)
       exact ⟨sl',z'⟩⟩ S₃.hr X₃.loose
   ·cases c1
  ·cases hbd'
end
end Mine
end
section
set_option maxRecDepth 100000
open PySem PySem.Spec PySem.Calls PyProof.Rows PySem.W
namespace Mine
structure XCls (K:Frag)(C:Addr)(bm:List Value):Prop where
 obj:∃nm q N bs hdct sn sub ab col dd k0 k1 k2 k3 k5,K.lookup C=some (excClassObj nm q C N bs bm hdct sn sub ab col dd k0 k1 k2 k3 k5 "Exception.__new__")∧hdct=true
 B:(Value.ref C::bm).contains (.type "Exception")=true
 A:(Value.ref C::bm).contains (.type "AttributeError")=false
 N:(Value.ref C::bm).contains (.type "NameError")=false
 X:(Value.ref C::bm).contains (.type "BaseException")=true
 O:(Value.ref C::bm).contains (.type "object")=true
 pass:∀self:Value,refuseLoop self "__setattr__" bm=pure ()
section
variable {prog:Program}{w:World}{A:Around}{E:Value→Shared→Prop}{h:Heap}{g:Array GenState}{d:Drawn}{t:Nat}{os:OsState}{K:Frag}{C:Addr}{bm:List Value}
theorem x_check_new {M:Model}{rest:List Value}{Q:Unit→Shared→Prop}(X:K.In h)(Y:XCls K C bm)(hq:Q () ⟨h,g,d,t,os⟩):wpAny M A (checkBuiltinCall "Exception.__new__" ⟨.ref C::rest,[]⟩) Q E ⟨h,g,d,t,os⟩:=by
 obtain ⟨nm,q,N,bs,hdct,sn,sub,ab,col,dd,k0,k1,k2,k3,k5,ho,_⟩:=Y.obj
 have hC:=X _ _ ho
 exact wpAny_check_new_subU PySem.F.excBase_Exception (bmB:=bm) (by have:=Y.B;rw [List.contains_cons] at this;simpa using this) .base hC hq
theorem x_new {rest:List Value}{R:Result→Shared→Prop}(X:K.In h)(Y:XCls K C bm)
  (hq:R (.ok (.ret (.ref (h.objs.size+1)))) ⟨(h.push { cls:=.type "tuple",data:=.seq rest.toArray }).push { cls:=.ref C,data:=.fields #[.ref h.objs.size,.none,.none,.none,.bool false,.none] },g,d,t,os⟩) (hrest:rest.length≤sizeLine) :
  codeAny (model prog w) A (.builtin "Exception.__new__" ⟨.ref C::rest,[]⟩) R ⟨h,g,d,t,os⟩:=by
 obtain ⟨nm,q,N,bs,hdct,sn,sub,ab,col,dd,k0,k1,k2,k3,k5,ho,_⟩:=Y.obj
 have hC:=X _ _ ho
 have F:=PySem.F.excBase_Exception
 have hends:=F.ends
 have hcB:=Y.B
 have hcA:=Y.A
 have hcN:=Y.N
 refine PySem.codeAny_builtinAt F.entry ?_
 unfold Builtin.«BaseException.__new__»
 refine PySem.wpAt_bind ?_
 show PySem.wpAt _ _ _ (stack >>= _) _ _ _
 refine PySem.wpAt_bind (PySem.wpAt_stack fun p below=>PySem.wpAt_of_wpAny ?_)
 wp_walk
 refine PySem.wpAt_of_wpAny ?_
 rw [F.owner]
 repeat (first|with_reducible refine wpAny_madeHere_exc F.canon hC ?_|with_reducible refine wpAny_loadPart_at hC ?_|(with_reducible refine wpAny_isSubtype_exc hC ?_;first|rw [hcB]|rw [hcA]|rw [hcN])|wp_step)
 show R _ _
 rw [Heap.size_push]
 exact hq
theorem x_type_call {rest:List Value}{fI:Addr}{Q:Fin→Shared→Prop}(X:K.In h)(Y:XCls K C bm)(hi:findIn K (.ref C) "__init__" = some (some (.ref fI)))(hf:typeIn K (.ref fI)=some (.type "function"))
  (hq:∀h' e,Heap.MadeExcOf h h' e (.ref C) rest→wpAny (model prog w) A (call (.ref fI) (.ref e::rest)) (fun r s'=>r=.none∧Q (.done (.ret (.ref e))) s') E ⟨h',g,d,t,os⟩) (hrest:rest.length≤sizeLine) :
  wpAny (model prog w) A (Builtin.«type.__call__» ⟨.ref C::rest,[]⟩) Q E ⟨h,g,d,t,os⟩:=by
 obtain ⟨nm,q,N,bs,hdct,sn,sub,ab,col,dd,k0,k1,k2,k3,k5,ho,_⟩:=Y.obj
 have hC:=X _ _ ho
 have F:=PySem.F.excBase_Exception
 repeat (first|with_reducible refine wpAny_loadPart_at hC ?_|with_reducible refine wpAny_madeBy_exc hC ?_|wp_step)
 refine codeAny_call_builtin_code (Code.quiet_builtin _ F.quiet) (x_check_new X Y ?_)
 refine x_new X Y ?_ hrest
 show wpAny _ _ _ _ _ _
 have k:∀b o,h.get? b=some o→((h.push { cls:=.type "tuple",data:=.seq rest.toArray }).push { cls:=.ref C,data:=.fields #[.ref h.objs.size,.none,.none,.none,.bool false,.none] }).get? b=some o:=fun b o e=>Heap.get?_push_of_some _ (Heap.get?_push_of_some _ e)
 have hC₁:=k _ _ hC
 have X₁:K.In ((h.push { cls:=.type "tuple",data:=.seq rest.toArray }).push { cls:=.ref C,data:=.fields #[.ref h.objs.size,.none,.none,.none,.bool false,.none] }):=X.keeps k
 have hget:((h.push { cls:=.type "tuple",data:=.seq rest.toArray }).push
   { cls:=.ref C,data:=.fields #[.ref h.objs.size,.none,.none,.none,.bool false,.none] }).get? (h.objs.size+1)=some
   { cls:=.ref C,data:=.fields #[.ref h.objs.size,.none,.none,.none,.bool false,.none] }:=by heap_get
 have hcC:(Value.ref C::bm).contains (.ref C)=true:=by simp
 unfold isInstance
 repeat (first|with_reducible refine wpAny_loadPart_at hget ?_|(with_reducible refine wpAny_isSubtype_exc hC₁ ?_;rw [hcC])|wp_step)
 show wpAny _ _ (typeLookup (.ref C) _) _ _ _
 refine (looks_findIn (M:=model prog w) X₁ hi).at ?_
 refine wpAny_holding (wpAny_bind ((bind_fn (M:=model prog w) X₁ _ hf).at ?_))
 refine wpAny_bind (wpAny_mono (hq _ (h.objs.size+1) ⟨k,Heap.get?_none_of_le (Nat.le_succ _),h.objs.size,hget,Heap.get?_none_of_le (Nat.le_refl _),?_⟩) (fun r s' hr=>?_) fun _ _ x=>x)
 ·exact Heap.get?_push_of_some _ (Heap.get?_push_at rfl rfl)
 ·obtain ⟨rfl,hQ⟩:=hr
  wp_walk
  exact hQ
theorem x_call {rest:List Value}{fI:Addr}{Q:Value→Shared→Prop}(X:K.In h)(Y:XCls K C bm)(hi:findIn K (.ref C) "__init__" = some (some (.ref fI)))(hf:typeIn K (.ref fI)=some (.type "function"))
  (hq:∀h' e,Heap.MadeExcOf h h' e (.ref C) rest→wpAny (model prog w) (A.under (.builtin "type.__call__" ⟨.ref C::rest,[]⟩)) (call (.ref fI) (.ref e::rest)) (fun r s'=>r=.none∧Q (.ref e) s') E ⟨h',g,d,t,os⟩) (hrest:rest.length≤sizeLine) :
  wpAny (model prog w) A (call (.ref C) rest) Q E ⟨h,g,d,t,os⟩:=by
 obtain ⟨nm,q,N,bs,hdct,sn,sub,ab,col,dd,k0,k1,k2,k3,k5,ho,_⟩:=Y.obj
 have hC:=X _ _ ho
 have f1:=tc_lookup
 have f2:=tc_bind (.ref C)
 have hT:(⟨h,g,d,t,os⟩:Shared).TypeIs (.ref C) "type" := ⟨_,hC,rfl⟩
 refine wpAny_call (codeAny_of_tree ?_)
 show wpAny _ _ (callAny (.ref C) _) _ _ _
 repeat (any_goals (first|assumption|with_reducible refine wpAny_loadPart_at hC ?_|wp_step))
 refine ⟨rfl,?_⟩
 refine codeAny_call_builtin_at (Code.quiet_builtin _ (by decide +kernel)) entry_typeCall (wpAny_check_type_call_sub hC (x_type_call X Y hi hf (fun h' e hm=>?_) hrest))
 exact hq h' e hm
end
end Mine
end
section
set_option maxRecDepth 100000
open PySem PySem.Spec PySem.Calls PyProof.Rows PySem.W
open Builtin Builtin.ObjectAttr
namespace Mine
section
variable {prog:Program}{w:World}{A:Around}{E:Value→Shared→Prop}{h:Heap}{g:Array GenState}{d:Drawn}{t:Nat}{os:OsState}{K:Frag}{C:Addr}{bm:List Value}
theorem x_check_sa {M:Model}{o:Obj}{x:Addr}{nameV v:Value}{Q:Unit→Shared→Prop}(X:K.In h)(Y:XCls K C bm)(hx:h.get? x=some o)(hc:o.cls=.ref C)(hq:Q () ⟨h,g,d,t,os⟩) :
  wpAny M A (checkBuiltinCall "object.__setattr__" ⟨[.ref x,nameV,v],[]⟩) Q E ⟨h,g,d,t,os⟩:=by
 obtain ⟨nm,q,N,bs,hdct,sn,sub,ab,col,dd,k0,k1,k2,k3,k5,ho,_⟩:=Y.obj
 have hC:=X _ _ ho
 have SF:=PySem.F.store_Exception
 have hcB:=Y.O
 have ha:=SF.args (.ref x) nameV v
 simp only [checkBuiltinCall,SF.kind,SF.split]
 refine PySem.wpAny_bind ?_
 ·unfold isInstance
  repeat (first|(with_reducible refine wpAny_loadPart_at hx ?_;rw [hc])|(with_reducible refine wpAny_isSubtype_exc hC ?_;rw [hcB])|wp_step)
  exact hq
theorem x_store_entry {x:Addr}{mA:Str→Option Value}{name:Str}{v:Value}{tk:Tok}{Q:Fin→Shared→Prop}{ns:List Str}(X:K.In h)(Y:XCls K C bm)(hna:findIn K (.ref C) name=some none)(I:h.Inst x C mA)
  (hq:∀h' tk',h'.Inst x C (fun y=>if y=name then some v else mA y) →
   (∀b o,b≠x→(∀o₀ dx,h.get? x=some o₀→o₀.dict=some dx→b≠dx)→h.get? b=some o→h'.get? b=some o) →
   (∀o₀,h.get? x=some o₀→∃o₁,h'.get? x=some o₁∧o₁.cls=o₀.cls∧o₁.data=o₀.data∧o₁.slots=o₀.slots∧(∀dx,o₀.dict=some dx→o₁.dict=some dx)∧(o₀.dict=none→∀dx,o₁.dict=some dx→h.get? dx=none))→Q (.done (.ret .none)) ⟨h',g,d,tk',os⟩) (hw:Within mA ns) (hsz:ns.length≤sizeLine) :
  wpAny (model prog w) A (Builtin.«object.__setattr__» ⟨[.ref x,.str name tk,v],[]⟩) Q E ⟨h,g,d,t,os⟩:=by
 obtain ⟨nm,q,N,bs,hdct,sn,sub,ab,col,dd,k0,k1,k2,k3,k5,ho,hdct'⟩:=Y.obj
 subst hdct'
 have hC:=X _ _ ho
 obtain ⟨o,hx,hc,hnc,hd⟩:=I
 have hpass:=Y.pass (.ref x)
 have lk:=looks_findIn (M:=model prog w) X hna
 unfold Builtin.«object.__setattr__»
 repeat (first|rw [refuse_eq]|(rw [refuseLoop_ref,hpass])|(with_reducible refine wpAny_loadPart_at hx ?_;rw [hc])|with_reducible refine wpAny_mroOf_exc hC ?_|(with_reducible refine lk.at ?_)|wp_step)
 rcases hd with ⟨hdn,hmA⟩|⟨dx,hdx,hne,hns⟩
 ·
  rw [hdn,if_neg (by simp [typeHasDict])]
  split
  ·rename_i hcd
   cases hcd
  split
  ·rename_i c hcd
   exact absurd hcd (hnc c)
  ·have hx₁:(h.push { cls:=.type "dict",data:=.dict #[] }).get? x=some o:=Heap.get?_push_of_some _ hx
   have hxs:x≠h.objs.size:=Nat.ne_of_lt (Heap.lt_size hx)
   refine PySem.wpAny_bind (wpAny_alloc' ?_)
   refine PySem.wpAny_bind (wpAny_update' hx₁ ?_)
   refine PySem.wpAny_pure ?_
   have hgd:((h.push { cls:=.type "dict",data:=.dict #[] }).update x fun o=>{ cls:=o.cls,dict:=some h.objs.size,data:=o.data,slots:=o.slots }).get? h.objs.size
     = some { cls:=.type "dict",data:=.dict #[] } :=
    (Heap.get?_update_ne _ _ _ _ hxs.symm).trans (Heap.get?_push_at rfl rfl)
   have hnd:((h.push { cls:=.type "dict",data:=.dict #[] }).update x fun o=>{ cls:=o.cls,dict:=some h.objs.size,data:=o.data,slots:=o.slots }).Ns h.objs.size (fun _=>none) :=
    ⟨_,#[],_,hgd,rfl,fun e he=>absurd he (by simp),fun _=>rfl⟩
   show wpAny _ _ (storeInDict h.objs.size (.str name tk) name v) _ _ _
   unfold storeInDict newKeyGuard
   refine PySem.wpAny_bind (PySem.wpAny_pure (PySem.wpAny_bind (PySem.wpAny_nsSet1 (Heap.Ns1.of_empty hnd) fun h' hn' hs=>?_)))
   obtain ⟨oD,esD,epD,hoD,hdD,hcD⟩:=hn'.count (Within.cons name v Within.nil)
   refine PySem.wpAny_bind (wpAny_lookBehind hoD (by rw [hdD];exact pastItsLine_dict (Nat.le_trans hcD (by rw [List.length_cons,List.length_nil,sizeLine_eq];omega))) ?_)
   wp_walk
   have hx':h'.get? x=some { cls:=o.cls,dict:=some h.objs.size,data:=o.data,slots:=o.slots }:=?_
   refine hq h' _ ⟨{ cls:=o.cls,dict:=some h.objs.size,data:=o.data,slots:=o.slots },hx',hc,hnc,.inr ⟨h.objs.size,rfl,hxs.symm,?_⟩⟩ (fun b ob hbx _ hb=>?_)
    (fun o₀ h₀=>by obtain rfl:o=o₀:=Option.some.inj (hx.symm.trans h₀);exact ⟨_,hx',rfl,rfl,rfl,(fun dx e=>by rw [hdn] at e;cases e),fun _ dx e=>by cases e;exact Heap.get?_none_of_le (Nat.le_refl _)⟩)
   ·obtain ⟨o',es,ep,e1,e2,e3,eu,e4⟩:=hn'
    exact ⟨o',es,ep,e1,e2,e3,eu,fun y=>by rw [e4 y];by_cases hy:y=name<;>simp [hy,hmA]⟩
   ·exact (hs.2 b (Nat.ne_of_lt (Heap.lt_size hb))).trans ((Heap.get?_update_ne _ _ _ _ hbx).trans (Heap.get?_push_of_some _ hb))
   ·refine (hs.2 x hxs).trans (Heap.get?_update_self _ hx₁ ?_)
    have hfr:=(Heap.get?_some_iff.mp hx).2
    obtain ⟨oc,od,odt,osl⟩:=o
    cases odt<;>first|rfl|exact hfr
 ·
  rw [hdx]
  refine PySem.wpAny_pure ?_
  show wpAny _ _ (storeInDict dx (.str name tk) name v) _ _ _
  unfold storeInDict newKeyGuard
  refine PySem.wpAny_bind (PySem.wpAny_pure (PySem.wpAny_bind (PySem.wpAny_nsSet1 hns fun h' hn' hs=>?_)))
  obtain ⟨oD,esD,epD,hoD,hdD,hcD⟩:=hn'.count (Within.cons name v hw)
  refine PySem.wpAny_bind (wpAny_lookBehind hoD (by rw [hdD];exact pastItsLine_dict (Nat.le_trans hcD (by rw [List.length_cons];omega))) ?_)
  wp_walk
  refine hq h' _ ⟨o,(hs.2 x hne.symm).trans hx,hc,hnc,.inr ⟨dx,hdx,hne,hn'⟩⟩ (fun b ob _ hbd hb=>?_)
   (fun o₀ h₀=>⟨o₀,(hs.2 x hne.symm).trans h₀,rfl,rfl,rfl,(fun _ e=>e),fun e dx' e'=>by obtain rfl:o=o₀:=Option.some.inj (hx.symm.trans h₀);rw [hdx] at e;cases e⟩)
  exact (hs.2 b (hbd o dx hx hdx)).trans hb
theorem x_store {x:Addr}{mA:Str→Option Value}{name:Str}{v:Value}{Q:Unit→Shared→Prop}{ns:List Str}(X:K.In h)(Y:XCls K C bm)(hsa:findIn K (.ref C) "__setattr__" = some (some (.builtin "object.__setattr__")))(hna:findIn K (.ref C) name=some none)(I:h.Inst x C mA)
  (hq:∀h' tk',h'.Inst x C (fun y=>if y=name then some v else mA y) →
   (∀b o,b≠x→(∀o₀ dx,h.get? x=some o₀→o₀.dict=some dx→b≠dx)→h.get? b=some o→h'.get? b=some o) →
   (∀o₀,h.get? x=some o₀→∃o₁,h'.get? x=some o₁∧o₁.cls=o₀.cls∧o₁.data=o₀.data∧o₁.slots=o₀.slots∧(∀dx,o₀.dict=some dx→o₁.dict=some dx)∧(o₀.dict=none→∀dx,o₁.dict=some dx→h.get? dx=none))→Q () ⟨h',g,d,tk',os⟩) (hw:Within mA ns) (hsz:ns.length≤sizeLine) :
  wpAny (model prog w) A (setAttr (.ref x) name v) Q E ⟨h,g,d,t,os⟩:=by
 obtain ⟨o,hx,hc,_⟩:=id I
 have SF:=PySem.F.store_Exception
 have f3:=SF.slot.bind (.ref x)
 have lk:=looks_findIn (M:=model prog w) X hsa
 unfold setAttr callSpecial? specialOf
 repeat (any_goals (first|assumption|(with_reducible refine wpAny_loadPart_at hx ?_;rw [hc])|(with_reducible refine lk.at ?_)|wp_step))
 refine codeAny_call_builtin SF.slot.plain SF.entry (x_check_sa X Y hx hc (x_store_entry X Y hna I (fun h' tk' I' hk hsame=>?_) hw hsz))
 repeat (any_goals (first|assumption|wp_step))
 exact hq h' tk' I' hk hsame
theorem x_raise {x:Sem Value}{env:PEnv}{s:Shared}{Q:Flow→Shared→Prop}(Y:XCls K C bm)(hh:A.handled=none)
  (h:wpAny (model prog w) A x (fun v s₁=>∃e oe t,v=.ref e∧K.In s₁.heap∧s₁.heap.get? e=some oe∧oe.cls=.ref C∧oe.data=.fields #[.ref t,.none,.none,.none,.bool false,.none]∧E (.ref e) s₁) E s) :
  wpAny (model prog w) A (raiseStmt env (some x) none) Q E s:=by
 have hcB:=Y.X
 unfold raiseStmt
 refine PySem.wpAny_bind (PySem.wpAny_mono h (fun v s₁ h₁=>?_) fun _ _ x=>x)
 obtain ⟨e,oe,t,rfl,X,he,hcls,hdat,hE⟩:=h₁
 obtain ⟨nm,q,N,bs,hdct,sn,sub,ab,col,dd,k0,k1,k2,k3,k5,ho,hdct'⟩:=Y.obj
 have hC:=X _ _ ho
 obtain ⟨hp,g,d,tk,os⟩:=s₁
 obtain ⟨oc,od,odt,osl⟩:=oe
 subst hcls
 subst hdat
 repeat (first|with_reducible refine wpAny_loadPart_at he ?_|with_reducible refine wpAny_loadPart_at hC ?_|(with_reducible refine wpAny_isSubtype_exc hC ?_;rw [hcB])|wp_step)
 exact wpAny_raiseNew_none hh hE
end
end Mine
end
section
set_option maxRecDepth 100000
open PySem PySem.Spec PySem.Calls PyProof.Rows PySem.W
namespace Mine
def iniF:FnI:=⟨36,3,[.int 0],3,.nil⟩
def iniN:List (List Nat):=[("self" : Str).cps.toList,("message" : Str).cps.toList,("spot" : Str).cps.toList]
def chkIni (K:Frag):Bool:=match K.lookup 36 with
 |some ⟨.type "function",_,.func fd,_⟩=>match fd.body with
  |.stmts [.Expr (.Call (.Attribute (.Name x1 _) x2 ap) [.Name x3 _,.Name x4 _] [] cp) _,.Assign [.Attribute (.Name y1 _) y2 _] (.Name y3 _) _,.Assign [.Attribute (.Name z1 _) z2 _] (.Name z3 _) _] =>
   x1==("Exception" : Str)&&x2==("__init__" : Str)&&x3==("self" : Str)&&x4==("message" : Str)&&y1==("self" : Str)&&y2==("message" : Str)&&y3==("message" : Str)&&z1==("self" : Str)&&z2==("spot" : Str)&&z3==("spot" : Str)&&(ap.endLine==cp.line) &&
   isTy (glob K fd.scope "Exception") "Exception" && fd.scope.names.lookup ("self" : Str)==some NameKind.local&&fd.scope.names.lookup ("message" : Str)==some NameKind.local&&fd.scope.names.lookup ("spot" : Str)==some NameKind.local
  |_=>false
 |_=>false
section
variable {prog:Program}{w:World}{A:Around}{E:Value→Shared→Prop}{h:Heap}{g:Array GenState}{d:Drawn}{t:Nat}{os:OsState}{K:Frag}{C:Addr}{bm:List Value}
theorem x_check_init {M:Model}{e:Addr}{oe:Obj}{rest:List Value}{Q:Unit→Shared→Prop}(X:K.In h)(Y:XCls K C bm)(he:h.get? e=some oe)(hcls:oe.cls=.ref C)(hq:Q () ⟨h,g,d,t,os⟩) :
  wpAny M A (checkBuiltinCall "Exception.__init__" ⟨.ref e::rest,[]⟩) Q E ⟨h,g,d,t,os⟩:=by
 obtain ⟨nm,q,N,bs,hdct,sn,sub,ab,col,dd,k0,k1,k2,k3,k5,ho,_⟩:=Y.obj
 have hC:=X _ _ ho
 have F:=PySem.F.excBase_Exception
 have hcB:=Y.B
 have hshort:=F.noStar
 simp only [checkBuiltinCall,F.initKind,F.initSplit,F.initRow]
 repeat (first|(with_reducible refine wpAny_loadPart_at he ?_;rw [hcls])|with_reducible refine wpAny_loadPart_at hC ?_|(with_reducible refine wpAny_isSubtype_exc hC ?_;rw [hcB])|wp_step)
 refine wpAny_onRaise ?_
 rw [show ∀(a b:String) (n:Nat),Bind.check ⟨.positional, "*", "Exception",.self,[⟨"args",.varPos,false⟩]⟩ a b n (List.map (fun x=>x.fst) ({ pos:=Value.ref e::rest }:Args).kw)=pure () from
  fun a b n=>check_star_args _ _ _ _ _ _]
 exact PySem.wpAny_pure hq
theorem x_init {e:Addr}{oe:Obj}{t0:Addr}{v1:Value}{Q:Value→Shared→Prop}(X:K.In h)(Y:XCls K C bm)(he:h.get? e=some oe)(hcls:oe.cls=.ref C)(hdat:oe.data=.fields #[.ref t0,.none,.none,.none,.bool false,.none])
  (hq:∀h',(∀b o,b≠e→h.get? b=some o→h'.get? b=some o)→h'.get? e=some { oe with data:=.fields #[.ref h.objs.size,.none,.none,.none,.bool false,.none] }→Q .none ⟨h',g,d,t,os⟩) :
  wpAny (model prog w) A (call (.builtin "Exception.__init__") [.ref e,v1]) Q E ⟨h,g,d,t,os⟩:=by
 have F:=PySem.F.excBase_Exception
 refine PySem.wpAny_call (codeAny_call_builtin F.init.plain F.initEntry (x_check_init X Y he hcls ?_))
 obtain ⟨oc,od,odt,osl⟩:=oe
 subst hdat
 subst hcls
 wp_walk
 exact hq _ (fun b o hb hg=>by
   rw [Heap.get?_update_other _ _ (Ne.symm hb)]
   exact Heap.get?_push_of_some _ hg) (by
   rw [Heap.get?_update_self _ (Heap.get?_push_of_some _ he) rfl]
   rfl)
theorem method_ty {T:String}{name:Str}{v:Value}{pl:Sem Bool}{s:Shared}{Q:Value×List Value→Shared→Prop}(X:K.In s.heap)(ht:typeOf (.type T)=pure (.type "type"))(hs:Manifest.isStub T=false)
  (e:findCls K (.type T) (.type "type") name=some (.val v)) (hh:handedIn v=true) (h:Q (v,[]) { s with toks:=s.toks+1 }):wpAny (model prog w) A (getMethod (.type T) name pl) Q E s:=by
 have hstub:opaqueClassAbove (.type T)=pure none:=by unfold opaqueClassAbove;dsimp only;rw [hs];rfl
 have L0:Looks (model prog w) s.heap (typeOf (.type T)) (.type "type"):=Looks.of_pure ht
 have hg:findIn K (.type "type") "__getattribute__" = some (some (.builtin "type.__getattribute__")):=type_tga
 unfold getMethod specialOf
 refine PySem.wpAny_bind (PySem.wpAny_bind (L0.here ((looks_findIn X hg).here ?_)))
 dsimp only
 rw [if_pos canon_tga]
 refine PySem.wpAny_bind (PySem.wpAny_mono (Q:=fun v=>Q (v,[])) (E:=E) ?_ (fun _ _ z=>PySem.wpAny_pure z) fun _ _ z=>z)
 have LO:Looks (model prog w) s.heap (opaqueClassAbove (.type T)) none:=Looks.of_pure hstub
 refine cls_open X LO L0 hg (looks_hook X (r:=none) (by rfl)) (by show subIn K _ _=_;rfl) e
  (PySem.wpAny_pure (by show wpAny _ _ (handedOut v) _ _ _;rw [handedOut_of hh];exact PySem.wpAny_pure h))
theorem exc_init_found:findCls K (.type "Exception") (.type "type") "__init__" = some (.val (.builtin "Exception.__init__")):=by
 show findCls [] (.type "Exception") (.type "type") "__init__" = _
 kernel_rfl
theorem exc_type:typeOf (.type "Exception")=pure (.type "type"):=by kernel_rfl
theorem exc_stub:Manifest.isStub "Exception" = false:=by decide +kernel
variable {base:Heap}{mg mb:Str→Option Value}{prog':Program}
structure Raw (prog:Program)(base:Heap)(e C:Addr)(s:Heap)(h:Heap)(mA:Str→Option Value):Prop where
 keep:∀b o,b≠e→s.get? b=some o→h.get? b=some o
 inst:h.Inst e C mA
 obj:∃oe t,h.get? e=some oe∧oe.cls=.ref C∧oe.data=.fields #[.ref t,.none,.none,.none,.bool false,.none]∧∀dx,oe.dict=some dx→s.get? dx=none
theorem raw_store {e:Addr}{sh:Heap}{mA:Str→Option Value}{name:Str}{v:Value}{s:Shared}{Q:Unit→Shared→Prop}{ns:List Str}(X:K.In base)(Y:XCls K C bm)(hb:base.get? e=none)(st:base.StaysIn sh)(R:Raw prog base e C sh s.heap mA)
  (hsa:findIn K (.ref C) "__setattr__" = some (some (.builtin "object.__setattr__"))) (hna:findIn K (.ref C) name=some none) (hw:Within mA ns) (hsz:ns.length≤sizeLine)
  (hq:∀h' tk',Raw prog base e C sh h' (fun y=>if y=name then some v else mA y)→Q () { s with heap:=h',toks:=tk' }):wpAny (model prog w) A (setAttr (.ref e) name v) Q E s:=by
 obtain ⟨h,g,d,t,os⟩:=s
 obtain ⟨oe,t0,he,hcls,hdat,hdx⟩:=R.obj
 have st':base.StaysIn h:=fun b o q=>R.keep b o (fun z=>by rw [z,hb] at q;cases q) (st b o q)
 refine x_store (X.keeps st') Y hsa hna R.inst (fun h' tk' I' k hs=>hq h' tk' ⟨fun b o hbe q=>k b o hbe (fun o₀ dx q1 q2 z=>?_) (R.keep b o hbe q),I',?_⟩) hw hsz
 ·rw [he] at q1
  cases q1
  rw [z,hdx dx q2] at q
  cases q
 ·obtain ⟨o₁,e1,e2,e3,e4,e5,e6⟩:=hs oe he
  refine ⟨o₁,t0,e1,e2.trans hcls,e3.trans hdat,fun dx q=>?_⟩
  cases hd:oe.dict with
  |some dx' =>
   have:=e5 dx' hd
   rw [q] at this
   cases this
   exact hdx dx hd
  |none =>
   have:=e6 hd dx q
   cases hz:sh.get? dx with
   |none=>rfl
   |some o =>
    by_cases z:dx=e
    ·rw [z,he] at this
     cases this
    ·rw [R.keep dx o z hz] at this
     cases this
theorem readKs_len:∀{ds:List D} {vs:List Value},readKs K ds vs=true→vs.length=ds.length
 |[],[],_=>rfl
 |[],_::_,h=>by cases h
 |_::_,[],h=>by cases h
 |_::ds,_::vs,h=>by
  simp only [readKs,Bool.and_eq_true] at h
  simp [readKs_len h.2]
def frMap (e:Addr)(v1 v2:Value)(y:Str):Option Value:=if y=("spot" : Str) then some v2 else if y=("message" : Str) then some v1 else if y=("self" : Str) then some (.ref e) else none
theorem frMap_self {e:Addr}{v1 v2:Value}:frMap e v1 v2 "self" = some (.ref e):=by
 unfold frMap
 rw [if_neg (by decide),if_neg (by decide),if_pos rfl]
theorem frMap_msg {e:Addr}{v1 v2:Value}:frMap e v1 v2 "message" = some v1:=by
 unfold frMap
 rw [if_neg (by decide),if_pos rfl]
theorem frMap_spot {e:Addr}{v1 v2:Value}:frMap e v1 v2 "spot" = some v2:=by
 unfold frMap
 rw [if_pos rfl]
theorem init_at {e:Addr}{oe:Obj}{t0:Addr}{v1 v2:Value}{s:Shared}{Q:Value→Shared→Prop}(D:Cx base K mg mb)(st:base.StaysIn s.heap)(dep:A.depth+3 < recursionLimit)(hi:chkIni K=true)(hp:chkP K iniF iniN=true)(Y:XCls K C bm)
  (hsa:findIn K (.ref C) "__setattr__" = some (some (.builtin "object.__setattr__"))) (hm:findIn K (.ref C) "message" = some none) (hs:findIn K (.ref C) "spot" = some none)
  (he:s.heap.get? e=some oe) (hcls:oe.cls=.ref C) (hdat:oe.data=.fields #[.ref t0,.none,.none,.none,.bool false,.none]) (hod:oe.dict=none) (hb:base.get? e=none)
  (hq:∀h' tk' oe t,(∀b o,b≠e→s.heap.get? b=some o→h'.get? b=some o)→h'.get? e=some oe→oe.cls=.ref C→oe.data=.fields #[.ref t,.none,.none,.none,.bool false,.none]→Q .none { s with heap:=h',toks:=tk' }) :
  codeAny (model prog w) A (.call (.ref 36) ⟨[.ref e,v1,v2],[]⟩) (wants Q E) s:=by
 obtain ⟨od,sl,fd,hk,F⟩:=chkP_of hp
 unfold chkIni at hi
 rw [show K.lookup 36=_ from hk] at hi
 simp only at hi
 split at hi
 ·rename_i x1 p1 x2 ap x3 p3 x4 p4 cp ep y1 yp y2 yp2 y3 yp3 yp4 z1 zp z2 zp2 z3 zp3 zp4 hbody
  simp only [Bool.and_eq_true,beq_iff_eq] at hi
  obtain ⟨⟨⟨⟨⟨⟨⟨⟨⟨⟨⟨⟨⟨⟨a1,a2⟩,a3⟩,a4⟩,a5⟩,a6⟩,a7⟩,a8⟩,a9⟩,a10⟩,a11⟩,a12⟩,a13⟩,a14⟩,a15⟩:=hi
  subst a1 a2 a3 a4 a5 a6 a7 a8 a9 a10
  have hX:=D.X.keeps st
  obtain ⟨args,kd,df,hpr,hargs⟩:=F.args
  have hnames:=names_of hargs
  have hal:args.length=3:=by have:=congrArg List.length hargs;simpa [iniN,iniF] using this
  obtain ⟨dl,odv,hodv,hseq,hdl⟩:∃(dl:List Value) (odv:Option (Array Value)),(odv.getD #[]).toList=dl∧(∀{M:Model} {A:Around} {E:Value→Shared→Prop} {Q':Option (Array Value)→Shared→Prop},Q' odv s→wpAny M A (seqItems? fd.defaults) Q' E s)∧dl.length=1:=by
   have hdv:=F.dv
   unfold chkD at hdv
   split at hdv
   ·cases hdv
   ·rename_i T hdf
    split at hdv
    ·rename_i dd xs m sl' e
     refine ⟨xs.toList,some xs,rfl,fun {M A E Q'} q=>?_,by have:=readKs_len hdv;simpa [iniF] using this⟩
     rw [hdf]
     exact wpAny_seqItems (hX T _ e) rfl q
    ·cases hdv
   ·cases hdv
  have hnd:(args.map (·.arg)).Nodup:=by rw [hnames];exact nodup_toS F.nd
  refine codeAny_call_function (Nat.lt_of_le_of_lt (by omega) dep) (hX _ _ hk) rfl F.co F.gen hbody (codeRec_of hX F.code) ?_
  refine bind_at hpr hseq hodv hnd (by simp [hal]) (by simp [hal,hdl]) (by simp [hal,hdl]) ?_
  rw [F.clos,hnames]
  have hdr:[Value.ref e,v1,v2]++dl.drop ([Value.ref e,v1,v2].length+dl.length - args.length)=[Value.ref e,v1,v2]:=by
   rw [List.drop_eq_nil_of_le (by simp [hal,hdl]),List.append_nil]
  rw [hdr]
  have hz:(List.map toS (List.take iniF.np iniN)).zip [Value.ref e,v1,v2]=[(("self" : Str),.ref e),(("message" : Str),v1),(("spot" : Str),v2)]:=by
   simp [iniF,iniN,toS_cps]
  rw [hz]
  refine wpAny_newFunctionEnv_cells F.kind (fun x hx=>?_) fun env he' s₁ x=>?_
  ·simp only [List.mem_cons,List.not_mem_nil,or_false] at hx
   rcases hx with rfl|rfl|rfl
   ·exact .inl a13
   ·exact .inl a14
   ·exact .inl a15
  ·have hlim:=(D.lim.keeps st).keeps x.toInCall.keep
   have k1:=x.toInCall.keep
   obtain ⟨h₁,tk₁,hs₁⟩:=x.toInCall.same
   have hnf:env.scope.kind=.function:=by rw [he'];exact F.kind
   have hgl:env.globals=mainGlobals:=by rw [he'];exact F.glob
   have hbl:env.builtins=builtinsNs:=by rw [he'];exact F.blt
   have hsc:env.scope=fd.scope:=by rw [he'];rfl
   have hL:env.locals=s.heap.objs.size:=by rw [he'];rfl
   have hn:s₁.heap.Ns env.locals (bindL env.kindOf [(("self" : Str),.ref e),(("message" : Str),v1),(("spot" : Str),v2)] fun _=>none):=x.toInCall.ns
   have kself:env.kindOf "self" = some .local:=by show env.scope.names.lookup _=_;rw [hsc];exact a13
   have kmsg:env.kindOf "message" = some .local:=by show env.scope.names.lookup _=_;rw [hsc];exact a14
   have kspot:env.kindOf "spot" = some .local:=by show env.scope.names.lookup _=_;rw [hsc];exact a15
   have hm0:bindL env.kindOf [(("self" : Str),.ref e),(("message" : Str),v1),(("spot" : Str),v2)] (fun _=>none)=frMap e v1 v2:=by
    unfold bindL bindL bindL bindL
    rw [if_pos kself,if_pos kmsg,if_pos kspot]
    rfl
   rw [hm0] at hn
   clear hm0
   have hLe:env.locals≠e:=by rw [hL];exact (Nat.ne_of_lt (Heap.lt_size he)).symm
   have st₁:base.StaysIn s₁.heap:=fun b o q=>k1 b o (st b o q)
   have he₁:=k1 e oe he
   -- the frame's names,wherever e alone has turned
   have nsAt:∀{h':Heap} {mA:Str→Option Value},Raw prog base e C s₁.heap h' mA→h'.Ns env.locals (frMap e v1 v2):=fun R=>hn.at' fun o q=>R.keep _ o hLe q
   refine ⟨hlim,codeAny_func ?_⟩
   have hi:interactive env=false:=by unfold interactive;rw [hnf];rfl
   refine wpAny_execs_cons (wpAny_Expr_any (Call_meth (K:=K) (sc:=fd.scope) (NE:=[]) (es:=.cons .stuck (.cons .stuck .nil)) rfl (by simp [chkEs,chkE,isStar]) (by simp) (by rw [a11];exact beq_self_eq_true _) ?_) hi rfl)
   have e12:=isTy_of a12
   have nameX:∀{s':Shared} {Q':Value→Shared→Prop} {E':Value→Shared→Prop} {A':Around} {pos:Pos},base.StaysIn s'.heap→Q' (.type "Exception") s'→wpAny (model prog w) A' (eval (.Name "Exception" pos) env) Q' E' s':=fun {s' Q' E' A' pos} st' hQ=>by
    unfold glob at e12
    split at e12
    ·rename_i hkk
     refine Calls.Name_function_global hnf (by show env.scope.names.lookup _=_;rw [hsc];exact hkk.1) ?_ hkk.2
     have hg:s'.heap.Ns env.globals mg:=by rw [hgl];exact D.g.at' fun o e=>st' _ o e
     have hb':s'.heap.Ns env.builtins mb:=by rw [hbl];exact D.b.at' fun o e=>st' _ o e
     unfold gv at e12
     split at e12
     ·rename_i u q
      cases e12
      exact loadGlobal_global hg (mg_of D.X D.g q) hQ
     ·rename_i q
      obtain ⟨h1,h2⟩:=blt_ok e12
      exact loadGlobal_builtin hg (mg_none_of D.X D.g q) hb' (by rw [D.bb _ h2,h1]) hQ
     ·cases e12
    ·cases e12
   refine nameX st₁ fun pl=>?_
   refine method_ty (X:=D.X.keeps st₁) exc_type exc_stub exc_init_found rfl ?_
   refine callWith_of (P:=fun _=>True) rfl (fun h _=>keeps_M0 (fun a q=>by cases q) h) ?_
   refine evalArgs_plain (spliced_cons (wpAny_Name (wpAny_loadName_local hnf kself hn frMap_self ?_) (by decide)))
   refine spliced_cons (wpAny_Name (wpAny_loadName_local hnf kmsg hn frMap_msg ?_) (by decide))
   refine spliced_nil ⟨trivial,?_⟩
   obtain ⟨hs0,g,dr,tk,os⟩:=s₁
   refine x_init (D.X.keeps st₁) Y he₁ hcls hdat fun h' kp eo=>?_
   have R0:Raw prog base e C hs0 h' (fun _=>none):=by
    refine ⟨kp,⟨_,eo,hcls,(fun c q=>by cases q),.inl ⟨hod,fun _=>rfl⟩⟩,_,_,eo,hcls,rfl,fun dx q=>?_⟩
    have q':oe.dict=some dx:=q
    rw [hod] at q'
    cases q'
   refine wpAny_execs_cons (plainObj_wpAny_Assign_Attribute (wpAny_Name (wpAny_loadName_local hnf kmsg (nsAt R0) frMap_msg ?_) (by decide)) rfl)
   refine wpAny_Name (wpAny_loadName_local hnf kself (nsAt R0) frMap_self ?_) (by decide)
   refine raw_store D.X Y hb st₁ R0 hsa hm Within.nil (by decide) fun h₂ tk₂ R₂=>?_
   refine wpAny_execs_cons (plainObj_wpAny_Assign_Attribute (wpAny_Name (wpAny_loadName_local hnf kspot (nsAt R₂) frMap_spot ?_) (by decide)) rfl)
   refine wpAny_Name (wpAny_loadName_local hnf kself (nsAt R₂) frMap_self ?_) (by decide)
   refine raw_store D.X Y hb st₁ R₂ hsa hs (Within.cons _ _ Within.nil) (by decide) fun h₃ tk₃ R₃=>?_
   refine wpAny_execs_nil ?_
   obtain ⟨oe',t',q1,q2,q3,_⟩:=R₃.obj
   cases hs₁
   exact hq h₃ tk₃ oe' t' (fun b o hbe q=>R₃.keep b o hbe (k1 b o q)) q1 q2 q3
 ·cases hi
end
end Mine
end
section
set_option maxRecDepth 100000
open PySem PySem.Spec PySem.Calls PyProof.Rows PySem.W
namespace Mine
structure XOK (K:Frag)(C:Addr)(bm:List Value):Prop where
 Y:XCls K C bm
 ini:findIn K (.ref C) "__init__" = some (some (.ref 36))
 fn:typeIn K (.ref 36)=some (.type "function")
 keep:keepIn K (.ref C)=true
 sa:findIn K (.ref C) "__setattr__" = some (some (.builtin "object.__setattr__"))
 msg:findIn K (.ref C) "message" = some none
 spot:findIn K (.ref C) "spot" = some none
theorem bm_facts {bm:List Value}{C:Addr}(h:bmOk bm=true):(Value.ref C::bm).contains (.type "Exception")=true∧(Value.ref C::bm).contains (.type "AttributeError")=false∧(Value.ref C::bm).contains (.type "NameError")=false∧(Value.ref C::bm).contains (.type "BaseException")=true ∧
  (Value.ref C::bm).contains (.type "object")=true∧∀self:Value,refuseLoop self "__setattr__" bm=pure ():=by
 unfold bmOk at h
 split at h
 ·simp only [Bool.and_eq_true,beq_iff_eq] at h
  obtain ⟨⟨rfl,rfl⟩,rfl⟩:=h
  exact ⟨by simp,by simp,by simp,by simp,by simp,PySem.F.store_Exception.passes⟩
 ·simp only [Bool.and_eq_true,beq_iff_eq] at h
  obtain ⟨⟨rfl,rfl⟩,rfl⟩:=h
  exact ⟨by simp,by simp,by simp,by simp,by simp,fun self=>by rw [refuseLoop_ref];exact PySem.F.store_Exception.passes self⟩
 ·cases h
theorem chkX_of {K:Frag}{C:Addr}(h:chkX K C=true):∃bm,XOK K C bm:=by
 unfold chkX at h
 simp only [Bool.and_eq_true,beq_iff_eq] at h
 obtain ⟨⟨⟨⟨⟨⟨h1,h2⟩,h3⟩,h4⟩,h5⟩,h6⟩,h7⟩:=h
 split at h1
 ·rename_i od nm bs C' bm ns q sn sub ab col k0 k1 k2 k3 n k5 e
  simp only [Bool.and_eq_true,beq_iff_eq] at h1
  obtain ⟨⟨rfl,h8⟩,rfl⟩:=h1
  obtain ⟨b1,b2,b3,b4,b5,b6⟩:=bm_facts (C:=C') h8
  exact ⟨bm,⟨⟨_,_,_,_,_,_,_,_,_,_,_,_,_,_,_,e,rfl⟩,b1,b2,b3,b4,b5,b6⟩,h2,h3,h4,h5,h6,h7⟩
 ·cases h1
section
variable {prog:Program}{w:World}{base:Heap}{K:Frag}{mg mb:Str→Option Value}{n:Nat}{cf:Nat→List D→M D}
variable {fl:List PEnv}{ι ι':Io}{s:Shared}{σ σ':Hp}{ρ ρ':Ve}{A:Around}{env:PEnv}{NE:NEt}{sc:PySem.Scope}{E:Value→Shared→Prop}
def throwD (c:Nat)(ds:List D):M Unit:=fun h=>match ds with
 |[_,_]=>.ex c h
 |_=>.no
theorem evS_raise {c:Nat}{es:Exs}{r:RS}(h:evS clsT cf (.raise c es) ρ σ=r):(match (evEs clsT cf es ρ).bind (throwD c) σ with|.ok _ _=>RS.no|.ex c' h1=>.ex c' ρ h1|.no=>.no)=r:=by
 rw [←h,evS]
 unfold M.bind
 cases evEs clsT cf es ρ σ with
 |no=>rfl
 |ex c' h1=>rfl
 |ok ds h1 =>
  simp only [throwD]
  cases ds with
  |nil=>rfl
  |cons a r=>cases r with
   |nil=>rfl
   |cons b r=>cases r<;>rfl
theorem throw_ex {c:Nat}{ds:List D}{u:Unit}{h h1:Hp}:throwD c ds h≠.ok u h1:=by
 unfold throwD
 cases ds with
 |nil=>simp
 |cons a r=>cases r with
  |nil=>simp
  |cons b r=>cases r<;>simp
theorem st_raise {c:Nat}{es:Exs}(W:Wd prog w base K mg mb n cf)(hini:chkIni K=true)(hpi:chkP K iniF iniN=true)(h2:EvsOK prog w base K n cf es):StOK prog w base K n cf (.raise c es):=by
 intro fl A sc NE x env ι s σ ρ Q E hc hf Rm hsc S O
 simp only [chkS] at hc
 split at hc
 ·rename_i x p args cp pos
  simp only [Bool.and_eq_true] at hc
  obtain ⟨⟨c1,c2⟩,c3⟩:=hc
  obtain ⟨bm,X⟩:=chkX_of c2
  have O':OutG prog w base fl (fun _ _ (_ _:Unit)=>True) ι s ((evEs clsT cf es ρ).bind (throwD c) σ) (fun _ _=>False) E:=by
   have e0:=evS_raise (cf:=cf) (ρ:=ρ) (σ:=σ) (c:=c) (es:=es) rfl
   rw [←e0] at O
   have hno:∀u h1,(evEs clsT cf es ρ).bind (throwD c) σ≠.ok u h1:=fun u h1 q=>by
    unfold M.bind at q
    cases z:evEs clsT cf es ρ σ with
    |no=>rw [z] at q;cases q
    |ex c' h1=>rw [z] at q;cases q
    |ok ds h1=>rw [z] at q;exact throw_ex q
   cases q:(evEs clsT cf es ρ).bind (throwD c) σ with
   |ok u h1=>exact absurd q (hno u h1)
   |no=>rw [q] at O;exact O
   |ex c' h1 =>
    rw [q] at O
    exact fun x ι₁ h₁ tk₁ e h X=>O x ι₁ h₁ tk₁ (e.widen fun _ q=>nomatch q) (S.ext e h) X
  rw [arm_exec_Raise]
  show wpAny _ _ (do standAt pos;raiseStmt env (some (do let v ←eval (.Call (.Name x p) args [] cp) env;standAt pos;pure v)) none) _ _ _
  refine PySem.wpAny_bind (wpAny_standAt (x_raise X.Y Rm.hh (PySem.wpAny_bind ?_)))
  refine PySem.wpAny_mono (Call_ (glob_at W S (by rw [hsc];exact isRf_of c1) _ (call_ref W X.keep h2 c3 hf Rm hsc S O' fun vs s₁ ds σ₁ ι₁ e1 S1 r1 O1=>?_))) (fun v s₂ h=>PySem.wpAny_bind (wpAny_standAt (PySem.wpAny_pure h))) fun _ _ e=>e
  unfold throwD at O1
  split at O1
  ·rename_i d1 d2
   have hv:∃v1 v2,vs=[v1,v2]:=by
    cases r1 with
    |cons a r=>cases r with
     |cons b r=>cases r with
      |nil=>exact ⟨_,_,rfl⟩
   obtain ⟨v1,v2,rfl⟩:=hv
   obtain ⟨h,g,d,t,os⟩:=s₁
   refine x_call (W.C.X.keeps S1.hr.stay) X.Y X.ini X.fn (fun h1 e MM=>?_) (show 2≤sizeLine from by decide)
   obtain ⟨k1,fe,t0,he,ft,_⟩:=MM
   have hb:base.get? e=none:=by
    cases q:base.get? e with
    |none=>rfl
    |some o=>have:=S1.hr.stay e o q;rw [fe] at this;cases this
   refine PySem.wpAny_call (init_at (s:=⟨h1,g,d,t,os⟩) W.C (fun b o q=>k1 b o (S1.hr.stay b o q)) ?_ hini hpi X.Y X.sa X.msg X.spot he rfl rfl rfl hb fun h' tk' oe t k eo oc od=>?_)
   ·show A.depth+1+3 < _
    have:=Rm.dep
    omega
   ·have kk:∀b o,h.get? b=some o→h'.get? b=some o:=fun b o q=>k b o (fun z=>by rw [z,fe] at q;cases q) (k1 b o q)
    refine ⟨rfl,e,oe,t,rfl,W.C.X.keeps fun b o q=>kk b o (S1.hr.stay b o q),eo,oc,od,?_⟩
    exact O1 e ι₁ h' tk' (Ext.more kk) (S1.hr.more kk) ⟨oe,_,eo,oc,od,fe,hb,.inl ⟨rfl,rfl⟩⟩
  ·exact O1.elim
 ·cases hc
end
end Mine
end
section
set_option maxRecDepth 100000
open PySem PySem.Spec PySem.Calls PyProof.Rows PySem.W
namespace Mine
section
variable {prog:Program}{w:World}{base:Heap}{K:Frag}{mg mb:Str→Option Value}
structure TabOK (K:Frag):Prop where
 g:clsT.all (goodC K)=true
 k:fnT.all (fun fi=>keepIn K (.ref fi.addr))=true
 f:∀(f:Nat) (fi:FnI),fnT[f]? = some fi→∃nm,chkF K fi nm=true∧chkP K fi nm=true
 ini:chkIni K=true
 inp:chkP K iniF iniN=true
theorem calls_all (C:Cx base K mg mb)(T:TabOK K)(hd:CodeHd base codA tabA)(hb:base.BuiltinsAt mg tabA):∀n,CallOK prog w base n (callF tab n)
 |0=>fun f fi vs as fl A E s ι σ Q ef hfr Rm H ff r O=>by
  unfold callF at O
  exact O.elim
 |n+1=>by
  have W:Wd prog w base K mg mb n (callF tab n):=⟨C,T.g,T.k,calls_all C T hd hb n⟩
  exact call_step W hd hb (fun c es=>st_raise W T.ini T.inp (evs_all (exs_all W es))) T.f
theorem ints_vr {ι:Io}{h:Heap}:∀{vs:List Value} {ns:List Int},IntsAre vs ns→VRs ι h vs (ns.map D.int)
 |[],[],.nil=>.nil
 |_::_,_::_,.cons n t r=>.cons (.int n t) (ints_vr r)
theorem law_close {name:Str}{scope:PySem.Scope}{body:List PySem.Stmt}{L fa a:Addr}{cd:Value}{vs:List Value}{ns:List Int}{s:Shared}{m:Str→Option Value}{n:Nat}{sts:Sts}{rest:Nat}{nm:List (List Nat)}{Q:Flow→Shared→Prop}{E:Value→Shared→Prop}
  (C:Cx base K mg mb) (T:TabOK K) (hd:CodeHd base codA tabA) (hb:base.BuiltinsAt mg tabA) (B:Below callerA base [] base)
  (F:Fr base L s.heap m) (hm:m ("script" : Str)=some (.ref a)) (hl:base.IsList a vs.toArray) (hI:IntsAre vs ns) (ht0:base.get? 151=none) (ht1:s.heap.get? 151=some (tabObj #[])) (hL:151 < L)
  (hk:scope.kind=.function) (hs:scope.names.lookup ("script" : Str)=some NameKind.local) (hp:∀p∈scope.names,p.2≠.cell∧p.2≠.free) (hchk:chkSs K scope ((("script" : Str).cps.toList::nm).zipIdx) sts body=true) (hn:n≤80)
  (hlaw:∃ρ' σ',evSs clsT (callF tab n) sts (some (.lst (ns.map D.int))::List.replicate rest none) [.tab]=.ok (.rt (.bool true)) ρ' σ'∧σ'[0]? = some .tab)
  (hQ:∀h' tk',(∀b o,base.get? b=some o→h'.get? b=some o)→(∃ps,h'.get? 151=some (tabObj ps))→Q (.ret (.bool true)) { s with heap:=h',toks:=tk' }) :
  wpAny (model prog w) (callerA.deeper (envOf name scope L fa cd)) (execs body (envOf name scope L fa cd)) Q E s:=by
 have W:Wd prog w base K mg mb n (callF tab n):=⟨C,T.g,T.k,calls_all C T hd hb n⟩
 obtain ⟨ρ',σ',he,h0⟩:=hlaw
 have hno:∀y:Str,¬(scope.names.lookup y=some .cell∨scope.names.lookup y=some .free):=fun y q=>by
  rcases q with q|q
  ·exact (hp _ (mem_of_lookup q)).1 rfl
  ·exact (hp _ (mem_of_lookup q)).2 rfl
 have hLn:base.get? L=none:=Heap.get?_none_of_le F.above
 have hadr:adr (⟨[(151,none)],[]⟩:Io)=[151]:=rfl
 have H:HR prog w base ⟨[(151,none)],[]⟩ [.tab] s.heap:=by
  refine ⟨F.keep,rfl,fun l o e=>?_,by simp [nad],fun b hb'=>?_,fun b hb'=>(nomatch hb'),?_,fun b hb'=>?_⟩
  ·cases l with
   |zero=>cases e;exact ⟨(151,none),rfl,.tab ht1 (by trivial)⟩
   |succ l=>cases e
  ·rw [hadr,List.mem_singleton] at hb'
   rw [hb']
   exact ht0
  ·obtain ⟨o,_,_,e,_⟩:=C.g
   exact ⟨o,e⟩
  ·have:b∈[151]:=hb'
   rw [List.mem_singleton] at this
   rw [this]
   decide
 have S:SR prog w base [envOf name scope L fa cd] (envOf name scope L fa cd) ((("script" : Str).cps.toList::nm).zipIdx) ⟨[(151,none)],[]⟩ [.tab] (some (.lst (ns.map D.int))::List.replicate rest none) s.heap:=by
  refine ⟨H,⟨(B.push F hk).frames,fun b hb'=>?_,fun b hb'=>?_⟩,⟨hk,rfl,rfl,⟨_,F.ns⟩,fun x c e=>(nomatch e),fun x y c e=>(nomatch e),fun x q=>absurd q (hno x),⟨?_,hLn⟩,fun x c e=>(nomatch e),fun q=>absurd q (hno _)⟩,fun x i d hi hd'=>?_,⟨_,[],L,rfl,rfl,rfl⟩⟩
  ·rw [List.mem_singleton.mp (show b∈[L] from hb')]
   exact ⟨_,F.ns⟩
  ·rw [List.mem_singleton.mp (show b∈[L] from hb'),hadr,List.mem_singleton]
   exact fun q=>by rw [q] at hL;exact Nat.lt_irrefl _ hL
  ·rw [hadr,List.mem_singleton]
   exact fun q=>by rw [show (envOf name scope L fa cd).locals=L from rfl] at q;rw [q] at hL;exact Nat.lt_irrefl _ hL
  ·obtain ⟨_,h2⟩:=nlook_zip hi
   rw [Nat.sub_zero] at h2
   cases i with
   |succ i =>
    rw [List.getElem?_cons_succ,List.getElem?_replicate] at hd'
    split at hd'<;>simp at hd'
   |zero =>
    simp at h2 hd'
    subst hd'
    have hx:x = "script" := by rw [←toS_cps x,←h2,toS_cps]
    subst hx
    refine .loc hs F.ns hm (.lst (vs:=vs) ?_ (fun q=>?_) (ints_vr hI))
    ·obtain ⟨o,e,c,k,q⟩:=hl
     exact ⟨o,F.keep _ o e,c,k,q⟩
    ·rw [hadr,List.mem_singleton] at q
     obtain ⟨o,e,_⟩:=hl
     rw [q,ht0] at e
     cases e
 refine sts_all W hd hb (fun c es=>st_raise W T.ini T.inp (evs_all (exs_all W es))) sts [envOf name scope L fa cd] _ scope _ body _ _ s [.tab] _ Q E hchk rfl ⟨rfl,?_,?_⟩ rfl S ?_
 ·show 1+claimMargin+1+8 * n+4 < 1000
  have:claimMargin=300:=rfl
  omega
 ·show 4+3+64 * n+100 < cLine
  have:cLine=9900:=rfl
  omega
 ·rw [he]
  intro v ι' h' tk' e S' r
  cases r with
  |@rt v d r =>
   cases r
   obtain ⟨p,_,ro⟩:=S'.hr.obj 0 _ h0
   cases ro with
   |tab e1 _=>exact hQ h' tk' S'.hr.stay ⟨_,e1⟩
end
end Mine
end
section
set_option maxRecDepth 100000
namespace Mine
def Ev {α:Type}(r:R α)(Q:α→Hp→Prop)(X:Nat→Hp→Prop):Prop:=match r with
 |.ok a h=>Q a h
 |.ex c h=>X c h
 |.no=>False
def Sv (r:RS)(Q:Fl→Ve→Hp→Prop)(X:Nat→Ve→Hp→Prop):Prop:=match r with
 |.ok f ρ h=>Q f ρ h
 |.ex c ρ h=>X c ρ h
 |.no=>False
def br (d:D)(P R:Prop):Prop:=match d with
 |.bool true=>P
 |.bool false=>R
 |_=>False
def at_ (h:Hp)(l:Nat)(K:AO→Prop):Prop:=match h[l]? with
 |some o=>K o
 |none=>False
def some_ {α:Type}(o:Option α)(K:α→Prop):Prop:=match o with
 |some a=>K a
 |none=>False
theorem ev_ok {α:Type}{a:α}{h:Hp}{Q:α→Hp→Prop}{X:Nat→Hp→Prop}:Ev (.ok a h) Q X=Q a h:=propext Iff.rfl
theorem ev_ret {α:Type}{a:α}{h:Hp}{Q:α→Hp→Prop}{X:Nat→Hp→Prop}:Ev (M.ret a h) Q X=Q a h:=propext Iff.rfl
theorem ev_bind {α β:Type}{x:M α}{f:α→M β}{h:Hp}{Q:β→Hp→Prop}{X:Nat→Hp→Prop}:Ev (M.bind x f h) Q X=Ev (x h) (fun a h1=>Ev (f a h1) Q X) X:=by
 unfold M.bind Ev
 cases x h<;>rfl
theorem Ev.mono {α:Type}{r:R α}{Q Q':α→Hp→Prop}{X X':Nat→Hp→Prop}(h:Ev r Q X)(hq:∀a h,Q a h→Q' a h)(hx:∀c h,X c h→X' c h):Ev r Q' X':=by
 cases r with
 |ok a h'=>exact hq _ _ h
 |ex c h'=>exact hx _ _ h
 |no=>exact h
def nox:Nat→Hp→Prop:=fun _ _=>False
theorem Ev.to {α:Type}{r:R α}{Q Q':α→Hp→Prop}{X':Nat→Hp→Prop}(h:Ev r Q nox)(hq:∀a h,Q a h→Q' a h):Ev r Q' X':=h.mono hq fun _ _ x=>x.elim
theorem Ev.eq {α:Type}{r:R α}{a:α}{h:Hp}{Q:α→Hp→Prop}{X:Nat→Hp→Prop}(e:r=.ok a h)(q:Q a h):Ev r Q X:=by rw [e];exact q
theorem Ev.get {α:Type}{r:R α}{Q:α→Hp→Prop}(h:Ev r Q nox):∃a h',r=.ok a h'∧Q a h':=by
 cases r with
 |ok a h'=>exact ⟨a,h',rfl,h⟩
 |ex c h'=>exact h.elim
 |no=>exact h.elim
variable {cf:Nat→List D→M D}{ρ:Ve}{h:Hp}{Q:D→Hp→Prop}{X:Nat→Hp→Prop}
abbrev EV (cf:Nat→List D→M D)(e:Ex)(ρ:Ve)(h:Hp)(Q:D→Hp→Prop)(X:Nat→Hp→Prop):Prop:=Ev (evE clsT cf e ρ h) Q X
abbrev EVs (cf:Nat→List D→M D)(e:Exs)(ρ:Ve)(h:Hp)(Q:List D→Hp→Prop)(X:Nat→Hp→Prop):Prop:=Ev (evEs clsT cf e ρ h) Q X
abbrev EVao (cf:Nat→List D→M D)(a:Bool)(e:Exs)(ρ:Ve)(h:Hp)(Q:D→Hp→Prop)(X:Nat→Hp→Prop):Prop:=Ev (evAO clsT cf a e ρ h) Q X
theorem v_lit {d:D}:Ev (evE clsT cf (.lit d) ρ h) Q X=Q d h:=by rw [evE];rfl
theorem v_neg {k:Nat}:Ev (evE clsT cf (.neg k) ρ h) Q X=Q (.int (-(k:Int))) h:=by rw [evE];rfl
theorem v_var {i:Nat}:Ev (evE clsT cf (.var i) ρ h) Q X=some_ ρ[i]? (fun o=>some_ o fun d=>Q d h):=by
 rw [evE]
 cases e:ρ[i]? with
 |none=>rfl
 |some o=>cases o<;>rfl
theorem v_tup {es:Exs}:Ev (evE clsT cf (.tup es) ρ h) Q X=Ev (evEs clsT cf es ρ h) (fun ds h1=>Q (.tup ds) h1) X:=by rw [evE,ev_bind];rfl
theorem v_vlist {es:Exs}:Ev (evE clsT cf (.vlist es) ρ h) Q X=Ev (evEs clsT cf es ρ h) (fun ds h1=>Q (.lst ds) h1) X:=by rw [evE,ev_bind];rfl
theorem v_mlist {es:Exs}:Ev (evE clsT cf (.mlist es) ρ h) Q X=Ev (evEs clsT cf es ρ h) (fun ds h1=>Q (.loc h1.length) (h1++[.list ds])) X:=by rw [evE,ev_bind];rfl
theorem v_mdict {ks:List (List Nat)}{es:Exs}:Ev (evE clsT cf (.mdict ks es) ρ h) Q X=Ev (evEs clsT cf es ρ h) (fun ds h1=>ks.length=ds.length∧Q (.loc h1.length) (h1++[.dict (putAll [] (ks.zip ds))])) X:=by
 rw [evE,ev_bind]
 congr 1
 funext ds h1
 by_cases hl:ks.length=ds.length
 ·rw [if_pos hl];simp [hl];rfl
 ·rw [if_neg hl];simp [hl];exact fun z=>z
theorem v_item {e i:Ex}:Ev (evE clsT cf (.item e i) ρ h) Q X=Ev (evE clsT cf e ρ h) (fun a h1=>Ev (evE clsT cf i ρ h1) (fun k h2=>Ev (itemOf a k h2) Q X) X) X:=by
 rw [evE,ev_bind];congr 1;funext a h1;rw [ev_bind]
theorem v_lpick {es:Exs}{i:Ex}:Ev (evE clsT cf (.lpick es i) ρ h) Q X=Ev (evEs clsT cf es ρ h) (fun ds h1=>Ev (evE clsT cf i ρ h1) (fun k h2=>Ev (itemOf (.lst ds) k h2) Q X) X) X:=by
 rw [evE,ev_bind];congr 1;funext a h1;rw [ev_bind]
def revK (a:D)(K:D→Prop):Prop:=match a with
 |.lst ds=>ds.length≤most∧K (.lst ds.reverse)
 |_=>False
theorem v_rev {e:Ex}:Ev (evE clsT cf (.rev e) ρ h) Q X=Ev (evE clsT cf e ρ h) (fun a h1=>revK a fun d=>Q d h1) X:=by
 rw [evE,ev_bind];congr 1;funext a h1
 cases a<;>try rfl
 rename_i ds
 show Ev ((if ds.length≤most then M.ret (D.lst ds.reverse) else M.fail) h1) Q X=_
 by_cases q:ds.length≤most
 ·rw [if_pos q];simp only [revK,q,true_and];rfl
 ·rw [if_neg q];simp only [revK,q,false_and];rfl
theorem v_attr {e:Ex}{a:Nat}:Ev (evE clsT cf (.attr e a) ρ h) Q X=Ev (evE clsT cf e ρ h) (fun d h1=>Ev (attrOf a d h1) Q X) X:=by rw [evE,ev_bind]
theorem v_call {f:Nat}{es:Exs}:Ev (evE clsT cf (.call f es) ρ h) Q X=Ev (evEs clsT cf es ρ h) (fun ds h1=>Ev (cf f ds h1) Q X) X:=by rw [evE,ev_bind]
theorem v_fresh {f:Nat}{es:Exs}:Ev (evE clsT cf (.fresh f es) ρ h) Q X=Ev (evEs clsT cf es ρ h) (fun ds h1=>D.plainAll ds=true∧Ev (thaw h1 (cf f ds [.tab])) Q X) X:=by
 rw [evE,ev_bind];congr 1;funext ds h1
 cases q:D.plainAll ds with
 |true=>simp
 |false=>simp;exact fun z=>z
theorem v_meth {a:Nat}{e:Ex}{es:Exs}:Ev (evE clsT cf (.meth a e es) ρ h) Q X=Ev (evE clsT cf e ρ h) (fun o h1=>some_ (methOf clsT h1 o a) fun f=>Ev (evEs clsT cf es ρ h1) (fun ds h2=>Ev (cf f (o::ds) h2) Q X) X) X:=by
 rw [evE];refine ev_bind.trans ?_;congr 1;funext o h1
 cases methOf clsT h1 o a with
 |none=>rfl
 |some f=>exact ev_bind
def newK (r:D)(P:Prop):Prop:=match r with
 |.none=>P
 |_=>False
theorem v_new {c:Nat}{es:Exs}:Ev (evE clsT cf (.new c es) ρ h) Q X=Ev (evEs clsT cf es ρ h) (fun ds h1=>some_ clsT[c]? fun ci=>ci.isExc=false∧Ev (cf ci.init (.loc h1.length::ds) (h1++[.inst c []])) (fun r h2=>newK r (Q (.loc h1.length) h2)) X) X:=by
 rw [evE,ev_bind];congr 1;funext ds h1
 cases clsT[c]? with
 |none=>rfl
 |some ci =>
  show Ev ((if ci.isExc=true then M.fail else (alloc (.inst c [])).bind fun o=>(cf ci.init (o::ds)).bind fun r=>match r with|.none=>M.ret o|_=>M.fail) h1) Q X=_
  cases hx:ci.isExc with
  |true=>rw [if_pos rfl];simp [some_,hx];exact fun z=>z
  |false =>
   rw [if_neg (by simp),ev_bind]
   show Ev (((cf ci.init (.loc h1.length::ds)).bind fun r=>match r with|.none=>M.ret (.loc h1.length)|_=>M.fail) (h1++[.inst c []])) Q X=_
   rw [ev_bind]
   simp only [some_,hx,true_and]
   congr 1
   funext r h2
   cases r<;>rfl
theorem v_bi {b:Bi}{es:Exs}:Ev (evE clsT cf (.bi b es) ρ h) Q X=Ev (evEs clsT cf es ρ h) (fun ds h1=>Ev (biD b ds h1) Q X) X:=by rw [evE,ev_bind]
theorem v_bm {b:Bm}{e:Ex}{es:Exs}:Ev (evE clsT cf (.bm b e es) ρ h) Q X=Ev (evE clsT cf e ρ h) (fun o h1=>isK h1 o (bmK b)=true∧Ev (evEs clsT cf es ρ h1) (fun ds h2=>Ev (bmD b o ds h2) Q X) X) X:=by
 rw [evE];refine ev_bind.trans ?_;congr 1;funext o h1
 by_cases q:isK h1 o (bmK b)=true
 ·simp only [q,if_true,true_and];exact ev_bind
 ·simp only [q];simp [Ev]
theorem v_andor {a:Bool}{es:Exs}:Ev (evE clsT cf (.andor a es) ρ h) Q X=Ev (evAO clsT cf a es ρ h) Q X:=by rw [evE]
theorem v_ao1 {a:Bool}{e:Ex}:Ev (evAO clsT cf a (.cons e .nil) ρ h) Q X=Ev (evE clsT cf e ρ h) Q X:=by rw [evAO]
theorem v_ao2 {a:Bool}{e e':Ex}{es:Exs}:Ev (evAO clsT cf a (.cons e (.cons e' es)) ρ h) Q X=Ev (evE clsT cf e ρ h) (fun d h1=>br d (if a=true then Ev (evAO clsT cf a (.cons e' es) ρ h1) Q X else Q (.bool true) h1) (if a=true then Q (.bool false) h1 else Ev (evAO clsT cf a (.cons e' es) ρ h1) Q X)) X:=by
 rw [evAO,ev_bind]
 ·congr 1
  funext d h1
  cases d<;>try rfl
  rename_i b
  cases b<;>cases a<;>rfl
 ·intro x;cases x
theorem v_not {e:Ex}:Ev (evE clsT cf (.not e) ρ h) Q X=Ev (evE clsT cf e ρ h) (fun d h1=>br d (Q (.bool false) h1) (Q (.bool true) h1)) X:=by
 rw [evE,ev_bind];congr 1;funext d h1
 cases d<;>try rfl
 rename_i b
 cases b<;>rfl
theorem v_cmp {op:Cm}{a b:Ex}:Ev (evE clsT cf (.cmp op a b) ρ h) Q X=Ev (evE clsT cf a ρ h) (fun x h1=>Ev (evE clsT cf b ρ h1) (fun y h2=>Ev (cmpD op x y h2) Q X) X) X:=by
 rw [evE,ev_bind];congr 1;funext x h1;rw [ev_bind]
theorem v_bin {op:Bo}{a b:Ex}:Ev (evE clsT cf (.bin op a b) ρ h) Q X=Ev (evE clsT cf a ρ h) (fun x h1=>Ev (evE clsT cf b ρ h1) (fun y h2=>Ev (binD op x y h2) Q X) X) X:=by
 rw [evE,ev_bind];congr 1;funext x h1;rw [ev_bind]
theorem v_ite {c a b:Ex}:Ev (evE clsT cf (.ite c a b) ρ h) Q X=Ev (evE clsT cf c ρ h) (fun d h1=>br d (Ev (evE clsT cf a ρ h1) Q X) (Ev (evE clsT cf b ρ h1) Q X)) X:=by
 rw [evE,ev_bind];congr 1;funext d h1
 cases d<;>try rfl
 rename_i b
 cases b<;>rfl
def cmpK (cf:Nat→List D→M D)(elt:Ex)(t:Tg)(ρ:Ve)(ds:List D)(h:Hp)(Q:List D→Hp→Prop)(X:Nat→Hp→Prop):Prop:=Ev (compL (evE clsT cf elt) t ρ ds h) Q X
theorem v_compnil {elt:Ex}{t:Tg}{Q:List D→Hp→Prop}:cmpK cf elt t ρ [] h Q X=Q [] h:=propext Iff.rfl
theorem v_compcons {elt:Ex}{t:Tg}{d:D}{ds:List D}{Q:List D→Hp→Prop}:cmpK cf elt t ρ (d::ds) h Q X=some_ (t.set d ρ) fun ρ'=>Ev (evE clsT cf elt ρ' h) (fun x h1=>cmpK cf elt t ρ ds h1 (fun xs h2=>Q (x::xs) h2) X) X:=by
 unfold cmpK
 show Ev (compLc (evE clsT cf elt) (fun _=>M.ret (.bool true)) t ρ (d::ds) h) Q X=_
 unfold compLc
 cases t.set d ρ with
 |none=>rfl
 |some ρ' =>
  refine (ev_bind (x:=M.ret (D.bool true))).trans ?_
  rw [ev_ret]
  show Ev (((evE clsT cf elt ρ').bind _) h) Q X=_
  rw [ev_bind]
  show _=Ev (evE clsT cf elt ρ' h) _ X
  congr 1
  funext x h1
  rw [ev_bind]
  rfl
def compK (cf:Nat→List D→M D)(elt:Ex)(t:Tg)(ρ:Ve)(d:D)(h:Hp)(Q:D→Hp→Prop)(X:Nat→Hp→Prop):Prop:=match d with
 |.tup ds=>ds.length≤most∧cmpK cf elt t ρ ds h (fun xs h1=>Q (.lst xs) h1) X
 |.lst ds=>ds.length≤most∧cmpK cf elt t ρ ds h (fun xs h1=>Q (.lst xs) h1) X
 |.loc l=>at_ h l fun o=>match o with
  |.list ds=>ds.length≤most∧Ev (compAt (evE clsT cf elt) t ρ l (ds.length+1) 0 h) (fun xs h1=>Q (.lst xs) h1) X
  |_=>False
 |_=>False
theorem v_comp {elt:Ex}{t:Tg}{it:Ex}:Ev (evE clsT cf (.comp elt t it) ρ h) Q X=Ev (evE clsT cf it ρ h) (fun d h1=>compK cf elt t ρ d h1 Q X) X:=by
 rw [evE,ev_bind];congr 1;funext d h1
 cases d<;>try rfl
 ·rename_i ds
  show Ev ((if ds.length≤most then (compL (evE clsT cf elt) t ρ ds).bind fun xs=>M.ret (.lst xs) else M.fail) h1) Q X=_
  by_cases q:ds.length≤most
  ·rw [if_pos q,ev_bind];simp only [compK,q,true_and];rfl
  ·rw [if_neg q];simp only [compK,q,false_and];rfl
 ·rename_i ds
  show Ev ((if ds.length≤most then (compL (evE clsT cf elt) t ρ ds).bind fun xs=>M.ret (.lst xs) else M.fail) h1) Q X=_
  by_cases q:ds.length≤most
  ·rw [if_pos q,ev_bind];simp only [compK,q,true_and];rfl
  ·rw [if_neg q];simp only [compK,q,false_and];rfl
 ·rename_i l
  cases hl:h1[l]? with
  |none=>simp only [compK,at_,hl];rfl
  |some o =>
   simp only [compK,at_,hl]
   cases o<;>try rfl
   rename_i ds
   simp only
   by_cases q:ds.length≤most
   ·simp only [q,if_true,true_and];exact ev_bind
   ·simp only [q,if_false,false_and];rfl
def compcK (cf:Nat→List D→M D)(elt c:Ex)(t:Tg)(ρ:Ve)(d:D)(h:Hp)(Q:D→Hp→Prop)(X:Nat→Hp→Prop):Prop:=some_ (items d) fun ds=>ds.length≤most∧Ev (compLc (evE clsT cf elt) (evE clsT cf c) t ρ ds h) (fun xs h1=>Q (.lst xs) h1) X
def compzK (cf:Nat→List D→M D)(elt:Ex)(i j:Nat)(ρ:Ve)(x y:D)(h:Hp)(Q:D→Hp→Prop)(X:Nat→Hp→Prop):Prop:=some_ (items x) fun xs=>some_ (items y) fun ys=>xs.length≤most∧ys.length≤most∧cmpK cf elt (.p [i,j]) ρ (zipD xs ys) h (fun zs h1=>Q (.lst zs) h1) X
theorem v_compz {elt a b:Ex}{i j:Nat}:Ev (evE clsT cf (.compz elt i j a b) ρ h) Q X=Ev (evE clsT cf a ρ h) (fun x h1=>Ev (evE clsT cf b ρ h1) (fun y h2=>compzK cf elt i j ρ x y h2 Q X) X) X:=by
 rw [evE,ev_bind];congr 1;funext x h1;rw [ev_bind];congr 1;funext y h2
 unfold compzK
 cases items x with
 |none=>rfl
 |some xs =>
  cases items y with
  |none=>rfl
  |some ys =>
   show Ev ((if xs.length≤most∧ys.length≤most then (compL (evE clsT cf elt) (.p [i,j]) ρ (zipD xs ys)).bind fun zs=>M.ret (.lst zs) else M.fail) h2) Q X=_
   by_cases q:xs.length≤most∧ys.length≤most
   ·rw [if_pos q,ev_bind];simp only [some_,q,true_and];rfl
   ·rw [if_neg q]
    simp only [some_,←and_assoc,q,false_and];rfl
theorem v_nil {Q:List D→Hp→Prop}:Ev (evEs clsT cf .nil ρ h) Q X=Q [] h:=by rw [evEs];rfl
theorem v_cons {e:Ex}{es:Exs}{Q:List D→Hp→Prop}:Ev (evEs clsT cf (.cons e es) ρ h) Q X=Ev (evE clsT cf e ρ h) (fun d h1=>Ev (evEs clsT cf es ρ h1) (fun ds h2=>Q (d::ds) h2) X) X:=by
 rw [evEs,ev_bind];congr 1;funext d h1;rw [ev_bind];rfl
end Mine
end
section
set_option maxRecDepth 100000
namespace Mine
variable {cf:Nat→List D→M D}{ρ:Ve}{h:Hp}{Q:Fl→Ve→Hp→Prop}{X:Nat→Ve→Hp→Prop}
theorem sv_with {x:R D}{f:D→Hp→RS}:Sv (withD x ρ f) Q X=Ev x (fun d h1=>Sv (f d h1) Q X) (fun c h1=>X c ρ h1):=by
 cases x<;>rfl
theorem s_asn {t:Tg}{e:Ex}:Sv (evS clsT cf (.asn t e) ρ h) Q X=Ev (evE clsT cf e ρ h) (fun d h1=>some_ (t.set d ρ) fun ρ'=>Q .nx ρ' h1) (fun c h1=>X c ρ h1):=by
 rw [evS,sv_with];congr 1;funext d h1
 cases t.set d ρ<;>rfl
theorem s_sattr {o e:Ex}{a:Nat}:Sv (evS clsT cf (.sattr o a e) ρ h) Q X=Ev (evE clsT cf e ρ h) (fun v h1=>Ev (evE clsT cf o ρ h1) (fun x h2=>some_ (storeAttr x a v h2) fun h3=>Q .nx ρ h3) (fun c h1=>X c ρ h1)) (fun c h1=>X c ρ h1):=by
 rw [evS,sv_with];congr 1;funext v h1;rw [sv_with];congr 1;funext x h2
 cases storeAttr x a v h2<;>rfl
theorem s_sitem {o i e:Ex}:Sv (evS clsT cf (.sitem o i e) ρ h) Q X=Ev (evE clsT cf e ρ h) (fun v h1=>Ev (evE clsT cf o ρ h1) (fun x h2=>Ev (evE clsT cf i ρ h2) (fun k h3=>some_ (storeItem x k v h3) fun h4=>Q .nx ρ h4) (fun c h1=>X c ρ h1)) (fun c h1=>X c ρ h1)) (fun c h1=>X c ρ h1):=by
 rw [evS,sv_with];congr 1;funext v h1;rw [sv_with];congr 1;funext x h2;rw [sv_with];congr 1;funext k h3
 cases storeItem x k v h3<;>rfl
theorem s_ex {e:Ex}:Sv (evS clsT cf (.ex e) ρ h) Q X=Ev (evE clsT cf e ρ h) (fun _ h1=>Q .nx ρ h1) (fun c h1=>X c ρ h1):=by rw [evS,sv_with];rfl
theorem s_iff {c:Ex}{a b:Sts}:Sv (evS clsT cf (.iff c a b) ρ h) Q X=Ev (evE clsT cf c ρ h) (fun d h1=>br d (Sv (evSs clsT cf a ρ h1) Q X) (Sv (evSs clsT cf b ρ h1) Q X)) (fun c h1=>X c ρ h1):=by
 rw [evS,sv_with];congr 1;funext d h1
 cases d<;>try rfl
 rename_i b
 cases b<;>rfl
theorem s_ret {e:Ex}:Sv (evS clsT cf (.ret e) ρ h) Q X=Ev (evE clsT cf e ρ h) (fun d h1=>Q (.rt d) ρ h1) (fun c h1=>X c ρ h1):=by rw [evS,sv_with];rfl
def flK (f:Fl)(P R:Prop):Prop:=match f with
 |.nx=>P
 |_=>R
theorem fl_nx {P R:Prop}:flK .nx P R=P:=propext Iff.rfl
theorem fl_ct {P R:Prop}:flK .ct P R=R:=propext Iff.rfl
theorem fl_rt {d:D}{P R:Prop}:flK (.rt d) P R=R:=propext Iff.rfl
theorem ss_nil:Sv (evSs clsT cf .nil ρ h) Q X=Q .nx ρ h:=by rw [evSs];rfl
theorem ss_cons {s:St}{ss:Sts}:Sv (evSs clsT cf (.cons s ss) ρ h) Q X=Sv (evS clsT cf s ρ h) (fun f ρ' h1=>flK f (Sv (evSs clsT cf ss ρ' h1) Q X) (Q f ρ' h1)) X:=by
 rw [evSs]
 cases evS clsT cf s ρ h with
 |ok f ρ' h1=>cases f<;>rfl
 |ex c ρ' h1=>rfl
 |no=>rfl
def lpK (f:Fl)(P R:Prop):Prop:=match f with
 |.rt _=>R
 |_=>P
theorem lp_nx {P R:Prop}:lpK .nx P R=P:=propext Iff.rfl
theorem lp_ct {P R:Prop}:lpK .ct P R=P:=propext Iff.rfl
theorem lp_rt {d:D}{P R:Prop}:lpK (.rt d) P R=R:=propext Iff.rfl
abbrev WH (cf:Nat→List D→M D)(c:Ex)(b:Sts)(k:Nat)(ρ:Ve)(h:Hp)(Q:Fl→Ve→Hp→Prop)(X:Nat→Ve→Hp→Prop):Prop:=Sv (whileF (evE clsT cf c) (evSs clsT cf b) k ρ h) Q X
theorem s_whl {c:Ex}{b:Sts}:Sv (evS clsT cf (.whl c b) ρ h) Q X=WH cf c b 100 ρ h Q X:=by rw [evS];rfl
theorem wh_succ {c:Ex}{b:Sts}{k:Nat}:WH cf c b (k+1) ρ h Q X=Ev (evE clsT cf c ρ h) (fun d h1=>br d (Sv (evSs clsT cf b ρ h1) (fun f ρ' h2=>lpK f (WH cf c b k ρ' h2 Q X) (Q f ρ' h2)) X) (Q .nx ρ h1)) (fun c h1=>X c ρ h1):=by
 unfold WH
 rw [whileF]
 cases evE clsT cf c ρ h with
 |no=>rfl
 |ex c h1=>rfl
 |ok d h1 =>
  show Sv (match d with|.bool true=>_|.bool false=>_|_=>_) Q X=br d _ _
  cases d<;>try rfl
  rename_i z
  cases z
  ·rfl
  ·show Sv (match evSs clsT cf b ρ h1 with|.ok f ρ' h2=>_|.ex c ρ' h2=>_|.no=>_) Q X=Sv (evSs clsT cf b ρ h1) _ X
   cases evSs clsT cf b ρ h1 with
   |no=>rfl
   |ex c ρ' h2=>rfl
   |ok f ρ' h2=>cases f<;>rfl
abbrev FR (cf:Nat→List D→M D)(t:Tg)(b:Sts)(ds:List D)(ρ:Ve)(h:Hp)(Q:Fl→Ve→Hp→Prop)(X:Nat→Ve→Hp→Prop):Prop:=Sv (forF t (evSs clsT cf b) ds ρ h) Q X
theorem s_for {t:Tg}{e:Ex}{b:Sts}:Sv (evS clsT cf (.for t e b) ρ h) Q X=Ev (evE clsT cf e ρ h) (fun d h1=>some_ (items d) fun ds=>ds.length≤most∧FR cf t b ds ρ h1 Q X) (fun c h1=>X c ρ h1):=by
 rw [evS,sv_with];congr 1;funext d h1
 cases items d with
 |none=>rfl
 |some ds =>
  by_cases q:ds.length≤most
  ·simp only [some_,q,if_true,true_and,FR]
  ·simp only [some_,q,if_false,false_and];rfl
theorem fr_nil {t:Tg}{b:Sts}:FR cf t b [] ρ h Q X=Q .nx ρ h:=propext Iff.rfl
theorem fr_cons {t:Tg}{b:Sts}{d:D}{ds:List D}:FR cf t b (d::ds) ρ h Q X=some_ (t.set d ρ) fun ρ1=>Sv (evSs clsT cf b ρ1 h) (fun f ρ' h2=>lpK f (FR cf t b ds ρ' h2 Q X) (Q f ρ' h2)) X:=by
 unfold FR
 rw [forF]
 cases t.set d ρ with
 |none=>rfl
 |some ρ1 =>
  show Sv (match evSs clsT cf b ρ1 h with|.ok f ρ' h2=>_|.ex c ρ' h2=>_|.no=>_) Q X=Sv (evSs clsT cf b ρ1 h) _ X
  cases evSs clsT cf b ρ1 h with
  |no=>rfl
  |ex c ρ' h2=>rfl
  |ok f ρ' h2=>cases f<;>rfl
def raiseK (ds:List D)(P:Prop):Prop:=match ds with
 |[_,_]=>P
 |_=>False
theorem s_raise {c:Nat}{es:Exs}:Sv (evS clsT cf (.raise c es) ρ h) Q X=Ev (evEs clsT cf es ρ h) (fun ds h1=>raiseK ds (X c ρ h1)) (fun c h1=>X c ρ h1):=by
 rw [evS]
 cases evEs clsT cf es ρ h with
 |no=>rfl
 |ex c h1=>rfl
 |ok ds h1 =>
  show Sv (match ds with|[_,_]=>_|_=>_) Q X=raiseK ds _
  cases ds with
  |nil=>rfl
  |cons a r=>cases r with
   |nil=>rfl
   |cons b r=>cases r<;>rfl
def tryK (k:Nat)(hn:Hn)(c:Nat)(ρ:Ve)(h:Hp)(Q:Fl→Ve→Hp→Prop):Prop:=under c k=true∧match hn with
 |.cont=>Q .ct ρ h
 |.ret d=>Q (.rt d) ρ h
 |.stuck=>False
theorem s_try {b:Sts}{k:Nat}{hn:Hn}:Sv (evS clsT cf (.try b k hn) ρ h) Q X=Sv (evSs clsT cf b ρ h) Q (fun c ρ' h1=>tryK k hn c ρ' h1 Q):=by
 rw [evS]
 cases evSs clsT cf b ρ h with
 |no=>rfl
 |ok f ρ' h1=>rfl
 |ex c ρ' h1 =>
  show Sv (if under c k then _ else _) Q X=_
  cases q:under c k with
  |true=>simp only [if_true,tryK,q,true_and,Sv];cases hn<;>rfl
  |false=>simp [tryK,q,Sv]
theorem s_cont:Sv (evS clsT cf .cont ρ h) Q X=Q .ct ρ h:=by rw [evS];rfl
theorem s_deff {i:Nat}:Sv (evS clsT cf (.deff i) ρ h) Q X=at_ h 0 fun o=>match o with|.tab=>Q .nx (ρ.set i (some .opq)) h|_=>False:=by
 rw [evS]
 unfold at_
 cases h[(0:Nat)]? with
 |none=>rfl
 |some o=>cases o<;>rfl
def retK (f:Fl)(Q:D→Prop):Prop:=match f with
 |.rt d=>Q d
 |.nx=>Q .none
 |.ct=>False
theorem rt_rt {d:D}{Q:D→Prop}:retK (.rt d) Q=Q d:=propext Iff.rfl
theorem rt_nx {Q:D→Prop}:retK .nx Q=Q .none:=propext Iff.rfl
theorem c_call {n f:Nat}{fi:FnI}{as:List D}{Q:D→Hp→Prop}{X:Nat→Hp→Prop}(e:fnT[f]? = some fi):Ev (callF tab (n+1) f as h) Q X=some_ (bindA fi as) fun ρ=>Sv (evSs clsT (callF tab n) fi.body ρ h) (fun f _ h1=>retK f fun d=>Q d h1) (fun c _ h1=>X c h1):=by
 have e':tab.fns[f]? = some fi:=e
 unfold callF
 rw [e']
 simp only
 unfold runF
 cases bindA fi as with
 |none=>rfl
 |some ρ =>
  show Ev (match evSs clsT (callF tab n) fi.body ρ h with|.ok f _ h'=>_|.ex c _ h'=>_|.no=>_) Q X=Sv (evSs clsT (callF tab n) fi.body ρ h) _ _
  cases evSs clsT (callF tab n) fi.body ρ h with
  |no=>rfl
  |ex c ρ' h2=>rfl
  |ok f ρ' h2=>cases f<;>rfl
section
variable {Q:D→Hp→Prop}{X:Nat→Hp→Prop}{P R:Prop}
theorem k_some {α:Type}{a:α}{K:α→Prop}:some_ (some a) K=K a:=propext Iff.rfl
theorem k_none {α:Type}{K:α→Prop}:some_ none K=False:=propext Iff.rfl
theorem k_true:br (.bool true) P R=P:=propext Iff.rfl
theorem k_false:br (.bool false) P R=R:=propext Iff.rfl
def listK (o:AO)(K:List D→Prop):Prop:=match o with
 |.list ds=>K ds
 |_=>False
def dictK (o:AO)(K:List (List Nat×D)→Prop):Prop:=match o with
 |.dict ds=>K ds
 |_=>False
def instK (o:AO)(K:Nat→List (Nat×D)→Prop):Prop:=match o with
 |.inst c fs=>K c fs
 |_=>False
theorem k_list {ds:List D}{K:List D→Prop}:listK (.list ds) K=K ds:=propext Iff.rfl
theorem k_dict {ds:List (List Nat×D)}{K:List (List Nat×D)→Prop}:dictK (.dict ds) K=K ds:=propext Iff.rfl
theorem k_inst {c:Nat}{fs:List (Nat×D)}{K:Nat→List (Nat×D)→Prop}:instK (.inst c fs) K=K c fs:=propext Iff.rfl
theorem at_of {l:Nat}{o:AO}{K:AO→Prop}(e:h[l]? = some o):at_ h l K=K o:=by unfold at_;rw [e]
theorem i_tup {ds:List D}{k:Int}:Ev (itemOf (.tup ds) (.int k) h) Q X=some_ (idx ds k) fun d=>Q d h:=by
 unfold itemOf;simp only;cases idx ds k<;>rfl
theorem i_lst {ds:List D}{k:Int}:Ev (itemOf (.lst ds) (.int k) h) Q X=some_ (idx ds k) fun d=>Q d h:=by
 unfold itemOf;simp only;cases idx ds k<;>rfl
theorem i_loc {l:Nat}{k:Int}:Ev (itemOf (.loc l) (.int k) h) Q X=at_ h l fun o=>listK o fun ds=>some_ (idx ds k) fun d=>Q d h:=by
 unfold itemOf at_
 simp only
 cases h[l]? with
 |none=>rfl
 |some o =>
  cases o<;>try rfl
  rename_i ds
  simp only [listK]
  cases idx ds k<;>rfl
theorem i_key {l:Nat}{x:List Nat}:Ev (itemOf (.loc l) (.str x) h) Q X=at_ h l fun o=>dictK o fun ds=>some_ (find ds x) fun d=>Q d h:=by
 unfold itemOf at_
 simp only
 cases h[l]? with
 |none=>rfl
 |some o =>
  cases o<;>try rfl
  rename_i ds
  simp only [dictK]
  cases find ds x<;>rfl
theorem a_attr {l a:Nat}:Ev (attrOf a (.loc l) h) Q X=at_ h l fun o=>instK o fun _ fs=>some_ (fget fs a) fun d=>Q d h:=by
 unfold attrOf at_
 simp only
 cases h[l]? with
 |none=>rfl
 |some o =>
  cases o<;>try rfl
  rename_i c fs
  simp only [instK]
  cases fget fs a<;>rfl
theorem m_meth {l a:Nat}{K:Nat→Prop}:some_ (methOf clsT h (.loc l) a) K=at_ h l fun o=>instK o fun c _=>some_ clsT[c]? fun ci=>some_ (nget ci.meths a) K:=by
 unfold methOf classOf at_
 simp only
 cases h[l]? with
 |none=>rfl
 |some o =>
  cases o<;>try rfl
  rename_i c fs
  simp only [instK]
  cases clsT[c]? <;> rfl
theorem q_eq {a b:D}{x y:D}(ea:opnd h a=some x)(eb:opnd h b=some y)(ok:okEq x y=true):Ev (cmpD .eq a b h) Q X=Q (.bool (D.eqb x y)) h:=by
 unfold cmpD;simp only [ea,eb,ok,if_true];rfl
theorem q_ne {a b:D}{x y:D}(ea:opnd h a=some x)(eb:opnd h b=some y)(ok:okEq x y=true):Ev (cmpD .ne a b h) Q X=Q (.bool (!D.eqb x y)) h:=by
 unfold cmpD;simp only [ea,eb,ok,if_true];rfl
def asc (x:List Nat):Bool:=x.all fun c=>decide (c < 1114112)
theorem q_eqs {x y:List Nat}(hx:asc x=true)(hy:asc y=true):Ev (cmpD .eq (.str x) (.str y) h) Q X=Q (.bool (decide (x=y))) h:=by
 rw [q_eq rfl rfl (by unfold okEq D.plain;rw [show (x.all fun c=>decide (c < 1114112))=true from hx,show (y.all fun c=>decide (c < 1114112))=true from hy];rfl)]
 unfold D.eqb
 congr 2
 by_cases e:x=y<;>simp [e]
theorem q_nes {x y:List Nat}(hx:asc x=true)(hy:asc y=true):Ev (cmpD .ne (.str x) (.str y) h) Q X=Q (.bool (!decide (x=y))) h:=by
 rw [q_ne rfl rfl (by unfold okEq D.plain;rw [show (x.all fun c=>decide (c < 1114112))=true from hx,show (y.all fun c=>decide (c < 1114112))=true from hy];rfl)]
 unfold D.eqb
 congr 2
 by_cases e:x=y<;>simp [e]
theorem q_isN_none:Ev (cmpD .isN .none .none h) Q X=Q (.bool true) h:=propext Iff.rfl
theorem q_isN_str {x:List Nat}:Ev (cmpD .isN (.str x) .none h) Q X=Q (.bool false) h:=propext Iff.rfl
theorem q_isN_tup {x:List D}:Ev (cmpD .isN (.tup x) .none h) Q X=Q (.bool false) h:=propext Iff.rfl
theorem q_isN_int {x:Int}:Ev (cmpD .isN (.int x) .none h) Q X=Q (.bool false) h:=propext Iff.rfl
theorem q_isN_loc {x:Nat}:Ev (cmpD .isN (.loc x) .none h) Q X=Q (.bool false) h:=propext Iff.rfl
theorem q_isnN_none:Ev (cmpD .isnN .none .none h) Q X=Q (.bool false) h:=propext Iff.rfl
theorem q_isnN_str {x:List Nat}:Ev (cmpD .isnN (.str x) .none h) Q X=Q (.bool true) h:=propext Iff.rfl
theorem q_isnN_tup {x:List D}:Ev (cmpD .isnN (.tup x) .none h) Q X=Q (.bool true) h:=propext Iff.rfl
theorem q_isnN_loc {x:Nat}:Ev (cmpD .isnN (.loc x) .none h) Q X=Q (.bool true) h:=propext Iff.rfl
theorem q_in {a:D}{ds:List D}(ok:okIn a ds=true):Ev (cmpD .isin a (.tup ds) h) Q X=Q (.bool (anyEq a ds)) h:=by
 unfold cmpD;simp only [ok,if_true];rfl
theorem q_nin {a:D}{ds:List D}(ok:okIn a ds=true):Ev (cmpD .nin a (.tup ds) h) Q X=Q (.bool (!anyEq a ds)) h:=by
 unfold cmpD;simp only [ok,if_true];rfl
theorem q_ind {x:List Nat}{l:Nat}:Ev (cmpD .isin (.str x) (.loc l) h) Q X=at_ h l fun o=>dictK o fun kvs=>Q (.bool (find kvs x).isSome) h:=by
 unfold cmpD at_
 simp only
 cases h[l]? with
 |none=>rfl
 |some o=>cases o<;>rfl
theorem q_nind {x:List Nat}{l:Nat}:Ev (cmpD .nin (.str x) (.loc l) h) Q X=at_ h l fun o=>dictK o fun kvs=>Q (.bool (!(find kvs x).isSome)) h:=by
 unfold cmpD at_
 simp only
 cases h[l]? with
 |none=>rfl
 |some o=>cases o<;>rfl
theorem q_lt {x y:Int}:Ev (cmpD .lt (.int x) (.int y) h) Q X=Q (.bool (decide (x < y))) h:=propext Iff.rfl
theorem q_gt {x y:Int}:Ev (cmpD .gt (.int x) (.int y) h) Q X=Q (.bool (decide (y < x))) h:=propext Iff.rfl
theorem q_le {x y:Int}:Ev (cmpD .le (.int x) (.int y) h) Q X=Q (.bool (decide (x≤y))) h:=propext Iff.rfl
theorem q_ge {x y:Int}:Ev (cmpD .ge (.int x) (.int y) h) Q X=Q (.bool (decide (y≤x))) h:=propext Iff.rfl
theorem b_add {x y:Int}:Ev (binD .add (.int x) (.int y) h) Q X=Q (.int (x+y)) h:=propext Iff.rfl
theorem b_sub {x y:Int}:Ev (binD .sub (.int x) (.int y) h) Q X=Q (.int (x - y)) h:=propext Iff.rfl
theorem b_adds {x y:List Nat}:Ev (binD .add (.str x) (.str y) h) Q X=(x.length+y.length≤most∧Q (.str (x++y)) h):=by
 show Ev (cat x y h) Q X=_
 unfold cat
 by_cases q:x.length+y.length≤most
 ·simp only [q,if_true,true_and];rfl
 ·simp only [q,if_false,false_and];rfl
def seqK (h:Hp)(d:D)(K:List D→Prop):Prop:=match d with
 |.tup ds=>K ds
 |.lst ds=>K ds
 |.loc l=>at_ h l fun o=>listK o K
 |_=>False
theorem sq_tup {ds:List D}{K:List D→Prop}:seqK h (.tup ds) K=K ds:=propext Iff.rfl
theorem sq_lst {ds:List D}{K:List D→Prop}:seqK h (.lst ds) K=K ds:=propext Iff.rfl
theorem sq_loc {l:Nat}{K:List D→Prop}:seqK h (.loc l) K=at_ h l fun o=>listK o K:=propext Iff.rfl
theorem itemsAt_seq {d:D}{K:List D→Prop}:some_ (itemsAt h d) K=seqK h d K:=by
 cases d<;>try rfl
 rename_i l
 unfold itemsAt seqK at_
 simp only
 cases h[l]? with
 |none=>rfl
 |some o=>cases o<;>rfl
theorem f_len {d:D}:Ev (biD .len [d] h) Q X=seqK h d fun ds=>ds.length≤most∧Q (.int ds.length) h:=by
 rw [←itemsAt_seq]
 unfold biD
 simp only
 cases itemsAt h d with
 |none=>rfl
 |some ds =>
  by_cases q:ds.length≤most
  ·simp only [some_,q,if_true,true_and];rfl
  ·simp only [some_,q,if_false,false_and];rfl
theorem f_tuple {d:D}:Ev (biD .tuple [d] h) Q X=seqK h d fun ds=>ds.length≤most∧Q (.tup ds) h:=by
 rw [←itemsAt_seq]
 unfold biD
 simp only
 cases itemsAt h d with
 |none=>rfl
 |some ds =>
  by_cases q:ds.length≤most
  ·simp only [some_,q,if_true,true_and];rfl
  ·simp only [some_,q,if_false,false_and];rfl
theorem f_list {d:D}:Ev (biD .list [d] h) Q X=seqK h d fun ds=>ds.length≤most∧Q (.lst ds) h:=by
 rw [←itemsAt_seq]
 unfold biD
 simp only
 cases itemsAt h d with
 |none=>rfl
 |some ds =>
  by_cases q:ds.length≤most
  ·simp only [some_,q,if_true,true_and];rfl
  ·simp only [some_,q,if_false,false_and];rfl
theorem f_isb {b:Bool}:Ev (biD .isBool [.bool b] h) Q X=Q (.bool true) h:=propext Iff.rfl
theorem f_isi {b:Int}:Ev (biD .isBool [.int b] h) Q X=Q (.bool false) h:=propext Iff.rfl
theorem f_str {i:Int}:Ev (biD .str [.int i] h) Q X=((0≤i∧i < 1000)∧Q (.str (strI i)) h):=by
 unfold biD
 simp only
 by_cases q:0≤i∧i < 1000
 ·rw [if_pos q];simp only [q,true_and];simp [Ev]
 ·rw [if_neg q];simp only [q,false_and];rfl
theorem f_dict {l:Nat}:Ev (biD .dict [.loc l] h) Q X=at_ h l fun o=>dictK o fun kvs=>kvs.length≤most∧Q (.loc h.length) (h++[.dict kvs]):=by
 unfold biD dictAt at_
 simp only
 cases h[l]? with
 |none=>rfl
 |some o =>
  cases o<;>try rfl
  rename_i kvs
  simp only [dictK]
  by_cases q:kvs.length≤most
  ·simp only [q,if_true,true_and];rfl
  ·simp only [q,if_false,false_and];rfl
theorem f_sorted {l:Nat}:Ev (biD .sorted [.loc l] h) Q X=at_ h l fun o=>dictK o fun kvs=>kvs.length < 60∧Q (.lst ((sortS (kvs.map (·.1))).map D.str)) h:=by
 unfold biD dictAt at_
 simp only
 cases h[l]? with
 |none=>rfl
 |some o =>
  cases o<;>try rfl
  rename_i kvs
  simp only [dictK]
  by_cases q:kvs.length < 60
  ·simp only [q,if_true,true_and];rfl
  ·simp only [q,if_false,false_and];rfl
theorem f_listzip {xs ys:List D}:Ev (biD .listzip [.tup xs,.tup ys] h) Q X=((xs.length≤most∧ys.length≤most)∧Q (.lst (zipD xs ys)) h):=by
 unfold biD items
 simp only
 by_cases q:xs.length≤most∧ys.length≤most
 ·rw [if_pos q];simp only [q,true_and];simp [Ev]
 ·rw [if_neg q];simp only [q,false_and];rfl
theorem x10 {a:D}:idx [a] 0=some a:=Eq.trans rfl rfl
theorem x20 {a b:D}:idx [a,b] 0=some a:=Eq.trans rfl rfl
theorem x21 {a b:D}:idx [a,b] 1=some b:=Eq.trans rfl rfl
theorem x30 {a b c:D}:idx [a,b,c] 0=some a:=Eq.trans rfl rfl
theorem x31 {a b c:D}:idx [a,b,c] 1=some b:=Eq.trans rfl rfl
theorem x32 {a b c:D}:idx [a,b,c] 2=some c:=Eq.trans rfl rfl
theorem x40 {a b c d:D}:idx [a,b,c,d] 0=some a:=Eq.trans rfl rfl
theorem x41 {a b c d:D}:idx [a,b,c,d] 1=some b:=Eq.trans rfl rfl
theorem x42 {a b c d:D}:idx [a,b,c,d] 2=some c:=Eq.trans rfl rfl
theorem x43 {a b c d:D}:idx [a,b,c,d] 3=some d:=Eq.trans rfl rfl
theorem x50 {a b c d e:D}:idx [a,b,c,d,e] 0=some a:=Eq.trans rfl rfl
theorem x51 {a b c d e:D}:idx [a,b,c,d,e] 1=some b:=Eq.trans rfl rfl
theorem x52 {a b c d e:D}:idx [a,b,c,d,e] 2=some c:=Eq.trans rfl rfl
theorem x53 {a b c d e:D}:idx [a,b,c,d,e] 3=some d:=Eq.trans rfl rfl
theorem x54 {a b c d e:D}:idx [a,b,c,d,e] 4=some e:=Eq.trans rfl rfl
theorem x60 {a b c d e f:D}:idx [a,b,c,d,e,f] 0=some a:=Eq.trans rfl rfl
theorem x61 {a b c d e f:D}:idx [a,b,c,d,e,f] 1=some b:=Eq.trans rfl rfl
theorem x62 {a b c d e f:D}:idx [a,b,c,d,e,f] 2=some c:=Eq.trans rfl rfl
theorem x63 {a b c d e f:D}:idx [a,b,c,d,e,f] 3=some d:=Eq.trans rfl rfl
theorem x64 {a b c d e f:D}:idx [a,b,c,d,e,f] 4=some e:=Eq.trans rfl rfl
theorem x65 {a b c d e f:D}:idx [a,b,c,d,e,f] 5=some f:=Eq.trans rfl rfl
theorem x70 {a b c d e f g:D}:idx [a,b,c,d,e,f,g] 0=some a:=Eq.trans rfl rfl
theorem x71 {a b c d e f g:D}:idx [a,b,c,d,e,f,g] 1=some b:=Eq.trans rfl rfl
theorem x72 {a b c d e f g:D}:idx [a,b,c,d,e,f,g] 2=some c:=Eq.trans rfl rfl
theorem x73 {a b c d e f g:D}:idx [a,b,c,d,e,f,g] 3=some d:=Eq.trans rfl rfl
theorem x74 {a b c d e f g:D}:idx [a,b,c,d,e,f,g] 4=some e:=Eq.trans rfl rfl
theorem x75 {a b c d e f g:D}:idx [a,b,c,d,e,f,g] 5=some f:=Eq.trans rfl rfl
theorem x76 {a b c d e f g:D}:idx [a,b,c,d,e,f,g] 6=some g:=Eq.trans rfl rfl
theorem y11 {a:D}:idx [a] (-((1:Nat):Int))=some a:=Eq.trans rfl rfl
theorem y21 {a b:D}:idx [a,b] (-((1:Nat):Int))=some b:=Eq.trans rfl rfl
theorem y22 {a b:D}:idx [a,b] (-((2:Nat):Int))=some a:=Eq.trans rfl rfl
theorem q_eqi {x y:Int}:Ev (cmpD .eq (.int x) (.int y) h) Q X=Q (.bool (decide (x=y))) h:=by
 rw [q_eq rfl rfl rfl]
 simp only [D.eqb]
 rfl
theorem q_nei {x y:Int}:Ev (cmpD .ne (.int x) (.int y) h) Q X=Q (.bool (!decide (x=y))) h:=by
 rw [q_ne rfl rfl rfl]
 simp only [D.eqb]
 rfl
end
theorem cl5:clsT[5]? = some { addr:=270,init:=7,meths:=[(19,8),(11,9),(7,10),(17,11),(16,12),(18,13),(8,14),(9,15),(12,16),(13,17),(14,18),(23,19),(15,20),(26,21),(27,22)],isExc:=false }:=rfl
theorem cl6:clsT[6]? = some { addr:=381,init:=27,meths:=[(45,28),(30,29),(10,30),(31,31),(32,32),(33,33),(21,34)],isExc:=false }:=rfl
theorem cl7:clsT[7]? = some { addr:=637,init:=35,meths:=[(45,36),(10,37),(21,38),(46,39),(22,40),(49,41),(24,42),(50,43),(20,44),(48,45)],isExc:=false }:=rfl
theorem cl8:clsT[8]? = some { addr:=693,init:=50,meths:=[],isExc:=false }:=rfl
theorem cl9:clsT[9]? = some { addr:=726,init:=51,meths:=[(61,52),(71,53)],isExc:=false }:=rfl
theorem cl10:clsT[10]? = some { addr:=845,init:=54,meths:=[(67,55),(22,56),(69,57),(70,58),(68,59),(76,60),(51,61),(72,62),(73,63),(74,64),(75,65),(77,66)],isExc:=false }:=rfl
end Mine
end
namespace Mine
local macro_rules | `(tactic| simp! only [$ls,*])=>`(tactic| simp (config:={decide:=true}) only [k_some,k_none,k_true,k_false,k_list,k_dict,k_inst,ss_cons,ss_nil,fl_nx,fl_rt,fl_ct,lp_nx,lp_ct,lp_rt,s_asn,s_ret,s_iff,s_ex,s_sattr,s_sitem,s_for,s_cont,s_raise,v_item,v_var,v_lit,v_neg,v_tup,v_vlist,v_mlist,v_cons,v_nil,v_cmp,v_andor,v_ao1,v_ao2,v_not,v_ite,v_bin,v_bi,v_bm,v_call,v_meth,v_attr,v_lpick,v_rev,revK,List.reverse_cons,List.reverse_nil,v_compz,v_mdict,v_new,v_fresh,v_comp,compK,v_compnil,v_compcons,rt_rt,rt_nx,i_tup,i_lst,x10,x20,x21,x30,x31,x32,x40,x41,x42,x43,x50,x51,x52,x53,x54,x60,x61,x62,x63,x64,x65,x70,x71,x72,x73,x74,x75,x76,y11,y21,y22,q_eqs,q_nes,q_eqi,q_nei,q_isN_none,q_isN_str,q_isN_tup,q_isN_int,q_isN_loc,q_isnN_none,q_isnN_str,q_isnN_tup,q_isnN_loc,q_lt,q_gt,q_le,q_ge,b_add,b_sub,f_len,f_tuple,f_list,f_isb,f_isi,sq_tup,sq_lst,Tg.set,setAll,List.set_cons_zero,List.set_cons_succ,List.length_cons,List.length_nil,List.map_cons,List.map_nil,List.getElem?_cons_zero,List.getElem?_cons_succ,List.append_nil,List.cons_append,List.nil_append,if_true,if_false,Nat.reduceAdd,Nat.reduceSub,Nat.reduceLeDiff,Nat.reduceEqDiff,Int.reduceAdd,Int.reduceSub,Int.reduceLT,Int.reduceLE,Int.reduceNeg,List.cons.injEq,and_true,true_and,and_false,false_and,decide_true,decide_false,Bool.not_true,Bool.not_false,Bool.false_eq_true,most,$ls,*])
local macro_rules | `(tactic| simp_all! only [$ls,*])=>`(tactic| try simp (config:={decide:=true}) only [k_some,k_none,k_true,k_false,k_list,k_dict,k_inst,ss_cons,ss_nil,fl_nx,fl_rt,fl_ct,lp_nx,lp_ct,lp_rt,s_asn,s_ret,s_iff,s_ex,s_sattr,s_sitem,s_for,s_cont,s_raise,v_item,v_var,v_lit,v_neg,v_tup,v_vlist,v_mlist,v_cons,v_nil,v_cmp,v_andor,v_ao1,v_ao2,v_not,v_ite,v_bin,v_bi,v_bm,v_call,v_meth,v_attr,v_lpick,v_rev,revK,List.reverse_cons,List.reverse_nil,v_compz,v_mdict,v_new,v_fresh,v_comp,compK,v_compnil,v_compcons,rt_rt,rt_nx,i_tup,i_lst,x10,x20,x21,x30,x31,x32,x40,x41,x42,x43,x50,x51,x52,x53,x54,x60,x61,x62,x63,x64,x65,x70,x71,x72,x73,x74,x75,x76,y11,y21,y22,q_eqs,q_nes,q_eqi,q_nei,q_isN_none,q_isN_str,q_isN_tup,q_isN_int,q_isN_loc,q_isnN_none,q_isnN_str,q_isnN_tup,q_isnN_loc,q_lt,q_gt,q_le,q_ge,b_add,b_sub,f_len,f_tuple,f_list,f_isb,f_isi,sq_tup,sq_lst,Tg.set,setAll,List.set_cons_zero,List.set_cons_succ,List.length_cons,List.length_nil,List.map_cons,List.map_nil,List.getElem?_cons_zero,List.getElem?_cons_succ,List.append_nil,List.cons_append,List.nil_append,if_true,if_false,Nat.reduceAdd,Nat.reduceSub,Nat.reduceLeDiff,Nat.reduceEqDiff,Int.reduceAdd,Int.reduceSub,Int.reduceLT,Int.reduceLE,Int.reduceNeg,List.cons.injEq,and_true,true_and,and_false,false_and,decide_true,decide_false,Bool.not_true,Bool.not_false,Bool.false_eq_true,most,$ls,*])
local macro_rules | `(tactic| dsimp! only [$ls,*])=>`(tactic| simp (config:={decide:=true}) only [k_some,k_none,k_true,k_false,k_list,k_dict,k_inst,ss_cons,ss_nil,fl_nx,fl_rt,fl_ct,lp_nx,lp_ct,lp_rt,s_asn,s_ret,s_iff,s_ex,s_sattr,s_sitem,s_for,s_cont,s_raise,v_item,v_var,v_lit,v_neg,v_tup,v_vlist,v_mlist,v_cons,v_nil,v_cmp,v_andor,v_ao1,v_ao2,v_not,v_ite,v_bin,v_bi,v_bm,v_call,v_meth,v_attr,v_lpick,v_rev,revK,List.reverse_cons,List.reverse_nil,v_compz,v_mdict,v_new,v_fresh,v_comp,compK,v_compnil,v_compcons,rt_rt,rt_nx,i_tup,i_lst,x10,x20,x21,x30,x31,x32,x40,x41,x42,x43,x50,x51,x52,x53,x54,x60,x61,x62,x63,x64,x65,x70,x71,x72,x73,x74,x75,x76,y11,y21,y22,q_eqs,q_nes,q_eqi,q_nei,q_isN_none,q_isN_str,q_isN_tup,q_isN_int,q_isN_loc,q_isnN_none,q_isnN_str,q_isnN_tup,q_isnN_loc,q_lt,q_gt,q_le,q_ge,b_add,b_sub,f_len,f_tuple,f_list,f_isb,f_isi,sq_tup,sq_lst,Tg.set,setAll,List.set_cons_zero,List.set_cons_succ,List.length_cons,List.length_nil,List.map_cons,List.map_nil,List.getElem?_cons_zero,List.getElem?_cons_succ,List.append_nil,List.cons_append,List.nil_append,if_true,if_false,Nat.reduceAdd,Nat.reduceSub,Nat.reduceLeDiff,Nat.reduceEqDiff,Int.reduceAdd,Int.reduceSub,Int.reduceLT,Int.reduceLE,Int.reduceNeg,List.cons.injEq,and_true,true_and,and_false,false_and,decide_true,decide_false,Bool.not_true,Bool.not_false,Bool.false_eq_true,most,a_attr,m_meth,fget,nget,find,cl5,cl6,cl7,cl8,cl9,cl10,i_loc,i_key,reduceCtorEq,Option.isSome_some,Option.isSome_none,$ls,*])
section
set_option maxRecDepth 100000
theorem c_run {n f:Nat}{fi:FnI}{as:List D}{ρ:Ve}{h:Hp}{Q:D→Hp→Prop}{X:Nat→Hp→Prop}(e:fnT[f]? = some fi)(b:bindA fi as=some ρ)(hn:1≤n)(k:∀m,n=m+1→Sv (evSs clsT (callF tab m) fi.body ρ h) (fun f _ h1=>retK f fun d=>Q d h1) (fun c _ h1=>X c h1)) :
  Ev (callF tab n f as h) Q X:=by
 obtain ⟨m,rfl⟩:∃m,n=m+1:=⟨n - 1,by omega⟩
 rw [c_call e,b];exact k m rfl
inductive Ty where
 |u8|bool|s
 |pair (t:Ty)
 |en (t:Ty)
 |rf (m:Bool) (t:Ty)
abbrev u8D:D:=.tup [.str [105,110,116],.str [117,56]]
def Ty.d:Ty→D
 |.u8=>.tup [.str [105,110,116],.str [117,56]]
 |.bool=>.tup [.str [98,111,111,108]]
 |.s=>.tup [.str [97,100,116],.str [83],.tup [],.tup []]
 |.pair t=>.tup [.str [116,117,112,108,101],.tup [t.d,.tup [.str [105,110,116],.str [117,56]]]]
 |.en t=>.tup [.str [97,100,116],.str [69],.tup [],.tup [t.d]]
 |.rf m t=>.tup [.str [114,101,102],.none,.bool m,t.d]
def Ty.parts:Ty→List Ty
 |.u8=>[]
 |.bool=>[]
 |.s=>[]
 |.pair t=>[t,.u8]
 |.en t=>[t]
 |.rf _ t=>[t]
def Ty.dep:Ty→Nat
 |.u8=>0
 |.bool=>0
 |.s=>0
 |.pair t=>t.dep+1
 |.en t=>t.dep+1
 |.rf _ t=>t.dep+1
def Ty.bot:Ty→Ty
 |.rf _ t=>t.bot
 |t=>t
def Ty.isRef:Ty→Bool
 |.rf _ _=>true
 |_=>false
inductive Mo' where
 |mv|rf|mt
def Mo'.s:Mo'→List Nat
 |.mv=>[109,111,118,101]
 |.rf=>[114,101,102]
 |.mt=>[109,117,116]
abbrev Mo'.d (m:Mo'):D:=.str m.s
def Mo'.beh (m:Mo')(b:Bool):Mo':=match m,b with
 |.rf,_=>.rf
 |_,false=>.rf
 |_,true=>.mt
theorem Ty.plain:∀t:Ty,D.plain t.d=true
 |.u8=>by decide
 |.bool=>by decide
 |.s=>by decide
 |.pair t=>by have h:=t.plain;simp [Ty.d,D.plain,D.plainAll,h]
 |.en t=>by have h:=t.plain;simp [Ty.d,D.plain,D.plainAll,h]
 |.rf m t=>by have h:=t.plain;simp [Ty.d,D.plain,D.plainAll,h]
theorem Ty.shal:∀(t:Ty) (n:Nat),2 * t.dep+2≤n→D.shal n t.d=true
 |.u8,n+2,_=>by simp [Ty.d,D.shal,D.shalAll]
 |.bool,n+2,_=>by simp [Ty.d,D.shal,D.shalAll]
 |.s,n+2,_=>by simp [Ty.d,D.shal,D.shalAll]
 |.pair t,n+2,h=>by
  unfold Ty.dep at h
  obtain ⟨k,rfl⟩:∃k,n=k+1:=⟨n - 1,by omega⟩
  simp [Ty.d,D.shal,D.shalAll,t.shal (k+1) (by omega)]
 |.en t,n+2,h=>by
  unfold Ty.dep at h
  simp [Ty.d,D.shal,D.shalAll,t.shal n (by omega)]
 |.rf m t,n+2,h=>by
  unfold Ty.dep at h
  simp [Ty.d,D.shal,D.shalAll,t.shal (n+1) (by omega)]
 |.u8,0,h=>by omega
 |.bool,0,h=>by omega
 |.s,0,h=>by omega
 |.pair t,0,h=>by omega
 |.en t,0,h=>by omega
 |.rf m t,0,h=>by omega
 |.u8,1,h=>by omega
 |.bool,1,h=>by omega
 |.s,1,h=>by omega
 |.pair t,1,h=>by omega
 |.en t,1,h=>by omega
 |.rf m t,1,h=>by omega
mutual
theorem eqb_refl:∀d:D,D.plain d=true→D.eqb d d=true
 |.none,_=>rfl
 |.bool b,_=>by simp [D.eqb]
 |.int i,_=>by simp [D.eqb]
 |.str x,_=>by simp [D.eqb]
 |.tup ds,h=>by simp only [D.plain] at h;simp only [D.eqb];exact eqbAll_refl ds h
 |.lst ds,h=>by simp only [D.plain] at h;simp only [D.eqb];exact eqbAll_refl ds h
 |.loc _,h=>by simp [D.plain] at h
 |.opq,h=>by simp [D.plain] at h
theorem eqbAll_refl:∀ds:List D,D.plainAll ds=true→D.eqbAll ds ds=true
 |[],_=>rfl
 |d::ds,h=>by
  simp only [D.plainAll,Bool.and_eq_true] at h
  simp only [D.eqbAll,Bool.and_eq_true]
  exact ⟨eqb_refl d h.1,eqbAll_refl ds h.2⟩
end
variable {h:Hp}{Q:D→Hp→Prop}{X:Nat→Hp→Prop}{n:Nat}
theorem q_same {d:D}(hp:D.plain d=true)(hs:D.shal 60 d=true):Ev (cmpD .eq d d h) Q X=Q (.bool true) h:=by
 have hl:opnd h d=some d:=by cases d<;>first|rfl|(simp [D.plain] at hp;done)
 rw [q_eq hl hl (by unfold okEq;simp [hp,hs]),eqb_refl d hp]
theorem parts_ok {t:Ty}(hn:1≤n)(k:Q (.tup (t.parts.map Ty.d)) h):Ev (callF tab n 0 [t.d] h) Q X:=by
 refine c_run (fi:=Z0) (ρ:=[some t.d,none]) rfl rfl hn fun m hm=>?_
 cases t<;>simp! only [Z0,Ty.d]<;>exact k
theorem rebuilt_ok {t:Ty}(hn:1≤n)(k:Q t.d h):Ev (callF tab n 1 [t.d,.lst (t.parts.map Ty.d)] h) Q X:=by
 refine c_run (fi:=Z1) (ρ:=[some t.d,some (.lst (t.parts.map Ty.d)),none]) rfl rfl hn fun m hm=>?_
 cases t<;>simp! only [Z1,Ty.d,Ty.parts]<;>exact k
theorem behind_ok {m:Mo'}{b:Bool}(hn:1≤n)(k:Q (m.beh b).d h):Ev (callF tab n 24 [m.d,.bool b] h) Q X:=by
 refine c_run (fi:=Z24) (ρ:=[some m.d,some (.bool b)]) rfl rfl hn fun _ _=>?_
 cases m<;>cases b<;>simp! only [Z24,Mo'.d,Mo'.s]<;>exact k
theorem lbehind_ok {m:Mo'}{b:Bool}(hn:1≤n)(k:Q (m.beh b).d h):Ev (callF tab n 74 [m.d,.bool b] h) Q X:=by
 refine c_run (fi:=Z74) (ρ:=[some m.d,some (.bool b)]) rfl rfl hn fun _ _=>?_
 cases m<;>cases b<;>simp! only [Z74,Mo'.d,Mo'.s]<;>exact k
def Ty.thr:Ty→D→D
 |.rf m t,q=>.tup [.str [100,101,114,101,102],(Ty.rf m t).d,t.thr q]
 |_,q=>q
theorem lbot_ok:∀{t:Ty} {n:Nat},t.dep+1≤n→Q t.bot.d h→Ev (callF tab n 76 [t.d] h) Q X:=by
 intro t
 induction t with
 |rf m t ih =>
  intro n hn k
  refine c_run (fi:=Z76) (ρ:=[some (Ty.rf m t).d]) rfl rfl (by omega) fun m hm=>?_
  simp! only [Z76,Ty.d]
  exact ih (by unfold Ty.dep at hn;omega) k
 |_ =>
  intro n hn k
  refine c_run (fi:=Z76) (ρ:=[some _]) rfl rfl (by omega) fun m hm=>?_
  simp! only [Z76,Ty.d]
  exact k
theorem lthr_ok {q:D}:∀{t:Ty} {n:Nat} {Q:D→Hp→Prop},t.dep+1≤n→Q (t.thr q) h→Ev (callF tab n 75 [t.d,q] h) Q X:=by
 intro t
 induction t with
 |rf m t ih =>
  intro n Q hn k
  refine c_run (fi:=Z75) (ρ:=[some (Ty.rf m t).d,some q]) rfl rfl (by omega) fun m hm=>?_
  simp! only [Z75,Ty.d]
  exact ih (by unfold Ty.dep at hn;omega) k
 |_ =>
  intro n Q hn k
  refine c_run (fi:=Z75) (ρ:=[some _,some q]) rfl rfl (by omega) fun m hm=>?_
  simp! only [Z75,Ty.d]
  exact k
end
section
set_option maxRecDepth 100000
def b36:List AO:=[
 .tab,
 .list [],
 .list [],
 .list [],
 .list [],
 .list [],
 .list [.tup [.str [101,110,117,109],.int 1,.str [69],.tup [.tup [],.tup [.tup [.str [84],.tup []]]],.tup [.tup [.str [80],.str [117,110,105,116],.tup []],.tup [.str [81],.str [116,117,112,108,101],.tup []]],.bool false],.tup [.str [115,116,114,117,99,116],.int 1,.str [83],.tup [.tup [],.tup []],.str [110,97,109,101,100],.tup [],.bool false]],
 .inst 10 [(62,.loc 8),(63,.loc 9),(64,.loc 14),(65,.loc 15),(66,.loc 16)],
 .dict [([],.str [109,111,100]),([69],.str [101,110,117,109]),([69,58,58,80],.str [118,97,114,105,97,110,116]),([69,58,58,81],.str [118,97,114,105,97,110,116]),([83],.str [115,116,114,117,99,116]),([75],.str [99,111,110,115,116])],
 .dict [([],.bool true),([69],.bool false),([83],.bool false),([75],.bool false)],
 .inst 9 [(58,.loc 11),(59,.loc 12),(60,.loc 13)],
 .dict [([69],.str [69]),([83],.str [83])],
 .dict [([75],.str [75])],
 .dict [([80],.loc 18)],
 .dict [([],.loc 10)],
 .dict [([69],.tup [.tup [],.tup [.str [84]]]),([83],.tup [.tup [],.tup []])],
 .dict [([69],.tup [.str [101,110,117,109],.int 1,.str [69],.tup [.tup [],.tup [.tup [.str [84],.tup []]]],.tup [.tup [.str [80],.str [117,110,105,116],.tup []],.tup [.str [81],.str [116,117,112,108,101],.tup []]],.bool false]),([83],.tup [.str [115,116,114,117,99,116],.int 1,.str [83],.tup [.tup [],.tup []],.str [110,97,109,101,100],.tup [],.bool false]),([75],.tup [.str [99,111,110,115,116],.int 1,.str [75],.none,.none,.bool false])],
 .list [],
 .inst 8 [(55,.tup [.str [69],.str [80]]),(56,.bool false),(57,.int 1)],
 .inst 12 [(52,.loc 7),(0,.loc 20),(1,.loc 21),(79,.loc 22),(80,.loc 23),(81,.lst []),(53,.loc 24),(82,.loc 25)],
 .dict [([69],.loc 26),([83],.loc 27)],
 .dict [([69,58,58,80],.tup [.str [69],.int 0]),([69,58,58,81],.tup [.str [69],.int 1]),([83],.tup [.str [83],.int 0])],
 .dict [],
 .dict [],
 .dict [([75],.tup [.tup [.str [105,110,116],.str [117,56]],.tup [.str [105,110,116],.int 1,.int 7,.none],.str []])],
 .dict [],
 .inst 11 [(78,.str [69]),(34,.str []),(3,.tup []),(2,.tup [.str [84]]),(1,.lst [.tup [.str [80],.str [117,110,105,116],.lst []],.tup [.str [81],.str [116,117,112,108,101],.lst [.tup [.str [48],.tup [.str [112,97,114,97,109],.str [84]]],.tup [.str [49],.tup [.str [105,110,116],.str [117,56]]]]]]),(63,.tup []),(28,.bool true)],
 .inst 11 [(78,.str [83]),(34,.str []),(3,.tup []),(2,.tup []),(1,.lst [.tup [.str [83],.str [110,97,109,101,100],.lst [.tup [.str [97],.tup [.str [98,111,111,108]]],.tup [.str [98],.tup [.str [105,110,116],.str [117,56]]]]]]),(63,.tup []),(28,.bool false)],
 .dict [([69,58,58,80],.tup [.str [69],.int 0]),([69,58,58,81],.tup [.str [69],.int 1]),([83],.tup [.str [83],.int 0])],
 .dict [],
 .inst 7 [(25,.loc 19),(34,.str []),(35,.none),(36,.loc 29),(37,.none),(38,.loc 31),(39,.loc 34),(40,.lst [.loc 35]),(41,.lst []),(42,.int 0),(43,.lst []),(44,.tup [.str [116,117,112,108,101],.tup []])],
 .inst 6 [(5,.loc 32),(29,.loc 33)],
 .list [],
 .list [],
 .list [],
 .dict []]
def Cn (B:Nat→Option AO)(h:Hp):Prop:=∀i,i < 32→i≠6→h[i]? = if 1≤i∧i < 6 then B i else b36[i]?
theorem Cn.low {B:Nat→Option AO}{h:Hp}(c:Cn B h){i:Nat}(h1:1≤i)(h2:i < 6):h[i]? = B i:=by
 rw [c i (by omega) (by omega),if_pos ⟨h1,h2⟩]
theorem Cn.len {B:Nat→Option AO}{h:Hp}(c:Cn B h):31 < h.length:=by
 have e:=c 31 (by omega) (by omega)
 rw [if_neg (by omega)] at e
 have:31 < b36.length:=by show 31 < 36;omega
 rw [List.getElem?_eq_getElem this] at e
 exact (List.getElem?_eq_some_iff.mp e).1
theorem Cn.app {B:Nat→Option AO}{h:Hp}(c:Cn B h)(x:Hp):Cn B (h++x):=fun i h1 h2=>by
 rw [List.getElem?_append_left (by have:=c.len;omega)]
 exact c i h1 h2
theorem Cn.set {B:Nat→Option AO}{h:Hp}{i:Nat}{o:AO}(c:Cn B h)(hi:32≤i∨32≤i):Cn B (h.set i o):=fun j h1 h2=>by
 rw [List.getElem?_set_ne (by omega)]
 exact c j h1 h2
theorem Cn.a0 {B:Nat→Option AO}{h:Hp}(c:Cn B h):h[0]? = some (.tab):=(c 0 (by omega) (by omega)).trans (if_neg (by omega))
theorem Cn.a7 {B:Nat→Option AO}{h:Hp}(c:Cn B h):h[7]? = some (.inst 10 [(62,.loc 8),(63,.loc 9),(64,.loc 14),(65,.loc 15),(66,.loc 16)]):=(c 7 (by omega) (by omega)).trans (if_neg (by omega))
theorem Cn.a8 {B:Nat→Option AO}{h:Hp}(c:Cn B h):h[8]? = some (.dict [([],.str [109,111,100]),([69],.str [101,110,117,109]),([69,58,58,80],.str [118,97,114,105,97,110,116]),([69,58,58,81],.str [118,97,114,105,97,110,116]),([83],.str [115,116,114,117,99,116]),([75],.str [99,111,110,115,116])]):=(c 8 (by omega) (by omega)).trans (if_neg (by omega))
theorem Cn.a9 {B:Nat→Option AO}{h:Hp}(c:Cn B h):h[9]? = some (.dict [([],.bool true),([69],.bool false),([83],.bool false),([75],.bool false)]):=(c 9 (by omega) (by omega)).trans (if_neg (by omega))
theorem Cn.a10 {B:Nat→Option AO}{h:Hp}(c:Cn B h):h[10]? = some (.inst 9 [(58,.loc 11),(59,.loc 12),(60,.loc 13)]):=(c 10 (by omega) (by omega)).trans (if_neg (by omega))
theorem Cn.a11 {B:Nat→Option AO}{h:Hp}(c:Cn B h):h[11]? = some (.dict [([69],.str [69]),([83],.str [83])]):=(c 11 (by omega) (by omega)).trans (if_neg (by omega))
theorem Cn.a12 {B:Nat→Option AO}{h:Hp}(c:Cn B h):h[12]? = some (.dict [([75],.str [75])]):=(c 12 (by omega) (by omega)).trans (if_neg (by omega))
theorem Cn.a13 {B:Nat→Option AO}{h:Hp}(c:Cn B h):h[13]? = some (.dict [([80],.loc 18)]):=(c 13 (by omega) (by omega)).trans (if_neg (by omega))
theorem Cn.a14 {B:Nat→Option AO}{h:Hp}(c:Cn B h):h[14]? = some (.dict [([],.loc 10)]):=(c 14 (by omega) (by omega)).trans (if_neg (by omega))
theorem Cn.a15 {B:Nat→Option AO}{h:Hp}(c:Cn B h):h[15]? = some (.dict [([69],.tup [.tup [],.tup [.str [84]]]),([83],.tup [.tup [],.tup []])]):=(c 15 (by omega) (by omega)).trans (if_neg (by omega))
theorem Cn.a16 {B:Nat→Option AO}{h:Hp}(c:Cn B h):h[16]? = some (.dict [([69],.tup [.str [101,110,117,109],.int 1,.str [69],.tup [.tup [],.tup [.tup [.str [84],.tup []]]],.tup [.tup [.str [80],.str [117,110,105,116],.tup []],.tup [.str [81],.str [116,117,112,108,101],.tup []]],.bool false]),([83],.tup [.str [115,116,114,117,99,116],.int 1,.str [83],.tup [.tup [],.tup []],.str [110,97,109,101,100],.tup [],.bool false]),([75],.tup [.str [99,111,110,115,116],.int 1,.str [75],.none,.none,.bool false])]):=(c 16 (by omega) (by omega)).trans (if_neg (by omega))
theorem Cn.a17 {B:Nat→Option AO}{h:Hp}(c:Cn B h):h[17]? = some (.list []):=(c 17 (by omega) (by omega)).trans (if_neg (by omega))
theorem Cn.a18 {B:Nat→Option AO}{h:Hp}(c:Cn B h):h[18]? = some (.inst 8 [(55,.tup [.str [69],.str [80]]),(56,.bool false),(57,.int 1)]):=(c 18 (by omega) (by omega)).trans (if_neg (by omega))
theorem Cn.a19 {B:Nat→Option AO}{h:Hp}(c:Cn B h):h[19]? = some (.inst 12 [(52,.loc 7),(0,.loc 20),(1,.loc 21),(79,.loc 22),(80,.loc 23),(81,.lst []),(53,.loc 24),(82,.loc 25)]):=(c 19 (by omega) (by omega)).trans (if_neg (by omega))
theorem Cn.a20 {B:Nat→Option AO}{h:Hp}(c:Cn B h):h[20]? = some (.dict [([69],.loc 26),([83],.loc 27)]):=(c 20 (by omega) (by omega)).trans (if_neg (by omega))
theorem Cn.a21 {B:Nat→Option AO}{h:Hp}(c:Cn B h):h[21]? = some (.dict [([69,58,58,80],.tup [.str [69],.int 0]),([69,58,58,81],.tup [.str [69],.int 1]),([83],.tup [.str [83],.int 0])]):=(c 21 (by omega) (by omega)).trans (if_neg (by omega))
theorem Cn.a24 {B:Nat→Option AO}{h:Hp}(c:Cn B h):h[24]? = some (.dict [([75],.tup [.tup [.str [105,110,116],.str [117,56]],.tup [.str [105,110,116],.int 1,.int 7,.none],.str []])]):=(c 24 (by omega) (by omega)).trans (if_neg (by omega))
theorem Cn.a26 {B:Nat→Option AO}{h:Hp}(c:Cn B h):h[26]? = some (.inst 11 [(78,.str [69]),(34,.str []),(3,.tup []),(2,.tup [.str [84]]),(1,.lst [.tup [.str [80],.str [117,110,105,116],.lst []],.tup [.str [81],.str [116,117,112,108,101],.lst [.tup [.str [48],.tup [.str [112,97,114,97,109],.str [84]]],.tup [.str [49],.tup [.str [105,110,116],.str [117,56]]]]]]),(63,.tup []),(28,.bool true)]):=(c 26 (by omega) (by omega)).trans (if_neg (by omega))
theorem Cn.a27 {B:Nat→Option AO}{h:Hp}(c:Cn B h):h[27]? = some (.inst 11 [(78,.str [83]),(34,.str []),(3,.tup []),(2,.tup []),(1,.lst [.tup [.str [83],.str [110,97,109,101,100],.lst [.tup [.str [97],.tup [.str [98,111,111,108]]],.tup [.str [98],.tup [.str [105,110,116],.str [117,56]]]]]]),(63,.tup []),(28,.bool false)]):=(c 27 (by omega) (by omega)).trans (if_neg (by omega))
theorem Cn.a30 {B:Nat→Option AO}{h:Hp}(c:Cn B h):h[30]? = some (.inst 7 [(25,.loc 19),(34,.str []),(35,.none),(36,.loc 29),(37,.none),(38,.loc 31),(39,.loc 34),(40,.lst [.loc 35]),(41,.lst []),(42,.int 0),(43,.lst []),(44,.tup [.str [116,117,112,108,101],.tup []])]):=(c 30 (by omega) (by omega)).trans (if_neg (by omega))
theorem Cn.a31 {B:Nat→Option AO}{h:Hp}(c:Cn B h):h[31]? = some (.inst 6 [(5,.loc 32),(29,.loc 33)]):=(c 31 (by omega) (by omega)).trans (if_neg (by omega))
structure Rd (B:Nat→Option AO)(h:Hp)(V L:List D)(kn hr:Nat)(K H:List (List Nat×D)):Prop where
 c:Cn B h
 v:h[32]? = some (.list V)
 num:∃N,h[33]? = some (.list N)∧N.length=V.length
 l:h[34]? = some (.list L)
 sc:∃kvs,h[35]? = some (.dict kvs)∧kvs.length≤L.length
 rd:h[36]? = some (.inst 5 [(4,.loc 30),(5,.loc kn),(6,.loc hr)])
 k:h[kn]? = some (.dict K)
 hh:h[hr]? = some (.dict H)
 kl:37≤kn
 hl:37≤hr
 ne:kn≠hr
theorem app_at {h x:Hp}{i:Nat}{o:AO}(e:h[i]? = some o):(h++x)[i]? = some o:=by
 rw [List.getElem?_append_left (List.getElem?_eq_some_iff.mp e).1]
 exact e
theorem set_at {h:Hp}{i j:Nat}{o o':AO}(e:h[i]? = some o)(hne:j≠i):(h.set j o')[i]? = some o:=by
 rw [List.getElem?_set_ne hne]
 exact e
theorem set_self {h:Hp}{i:Nat}{o o':AO}(e:h[i]? = some o):(h.set i o')[i]? = some o':=by
 rw [List.getElem?_set_self (List.getElem?_eq_some_iff.mp e).1]
section
variable {B:Nat→Option AO}{h:Hp}{V L:List D}{kn hr:Nat}{K H:List (List Nat×D)}
theorem Rd.app (r:Rd B h V L kn hr K H)(x:Hp):Rd B (h++x) V L kn hr K H :=
 ⟨r.c.app x,app_at r.v,let ⟨N,e,z⟩:=r.num;⟨N,app_at e,z⟩,app_at r.l,let ⟨N,e,z⟩:=r.sc;⟨N,app_at e,z⟩,app_at r.rd,app_at r.k,app_at r.hh,r.kl,r.hl,r.ne⟩
theorem Rd.len (r:Rd B h V L kn hr K H):kn < h.length∧hr < h.length∧36 < h.length:=⟨(List.getElem?_eq_some_iff.mp r.k).1,(List.getElem?_eq_some_iff.mp r.hh).1,(List.getElem?_eq_some_iff.mp r.rd).1⟩
end
theorem Cn.at {B:Nat→Option AO}{h:Hp}(c:Cn B h):(∀K,at_ h 0 K=K (.tab))∧(∀K,at_ h 7 K=K (.inst 10 [(62,.loc 8),(63,.loc 9),(64,.loc 14),(65,.loc 15),(66,.loc 16)]))∧(∀K,at_ h 8 K=K (.dict [([],.str [109,111,100]),([69],.str [101,110,117,109]),([69,58,58,80],.str [118,97,114,105,97,110,116]),([69,58,58,81],.str [118,97,114,105,97,110,116]),([83],.str [115,116,114,117,99,116]),([75],.str [99,111,110,115,116])]))∧(∀K,at_ h 9 K=K (.dict [([],.bool true),([69],.bool false),([83],.bool false),([75],.bool false)]))∧(∀K,at_ h 10 K=K (.inst 9 [(58,.loc 11),(59,.loc 12),(60,.loc 13)]))∧(∀K,at_ h 11 K=K (.dict [([69],.str [69]),([83],.str [83])]))∧(∀K,at_ h 12 K=K (.dict [([75],.str [75])]))∧(∀K,at_ h 13 K=K (.dict [([80],.loc 18)]))∧(∀K,at_ h 14 K=K (.dict [([],.loc 10)]))∧(∀K,at_ h 15 K=K (.dict [([69],.tup [.tup [],.tup [.str [84]]]),([83],.tup [.tup [],.tup []])]))∧(∀K,at_ h 16 K=K (.dict [([69],.tup [.str [101,110,117,109],.int 1,.str [69],.tup [.tup [],.tup [.tup [.str [84],.tup []]]],.tup [.tup [.str [80],.str [117,110,105,116],.tup []],.tup [.str [81],.str [116,117,112,108,101],.tup []]],.bool false]),([83],.tup [.str [115,116,114,117,99,116],.int 1,.str [83],.tup [.tup [],.tup []],.str [110,97,109,101,100],.tup [],.bool false]),([75],.tup [.str [99,111,110,115,116],.int 1,.str [75],.none,.none,.bool false])]))∧(∀K,at_ h 17 K=K (.list []))∧(∀K,at_ h 18 K=K (.inst 8 [(55,.tup [.str [69],.str [80]]),(56,.bool false),(57,.int 1)]))∧(∀K,at_ h 19 K=K (.inst 12 [(52,.loc 7),(0,.loc 20),(1,.loc 21),(79,.loc 22),(80,.loc 23),(81,.lst []),(53,.loc 24),(82,.loc 25)]))∧(∀K,at_ h 20 K=K (.dict [([69],.loc 26),([83],.loc 27)]))∧(∀K,at_ h 21 K=K (.dict [([69,58,58,80],.tup [.str [69],.int 0]),([69,58,58,81],.tup [.str [69],.int 1]),([83],.tup [.str [83],.int 0])]))∧(∀K,at_ h 24 K=K (.dict [([75],.tup [.tup [.str [105,110,116],.str [117,56]],.tup [.str [105,110,116],.int 1,.int 7,.none],.str []])]))∧(∀K,at_ h 26 K=K (.inst 11 [(78,.str [69]),(34,.str []),(3,.tup []),(2,.tup [.str [84]]),(1,.lst [.tup [.str [80],.str [117,110,105,116],.lst []],.tup [.str [81],.str [116,117,112,108,101],.lst [.tup [.str [48],.tup [.str [112,97,114,97,109],.str [84]]],.tup [.str [49],.tup [.str [105,110,116],.str [117,56]]]]]]),(63,.tup []),(28,.bool true)]))∧(∀K,at_ h 27 K=K (.inst 11 [(78,.str [83]),(34,.str []),(3,.tup []),(2,.tup []),(1,.lst [.tup [.str [83],.str [110,97,109,101,100],.lst [.tup [.str [97],.tup [.str [98,111,111,108]]],.tup [.str [98],.tup [.str [105,110,116],.str [117,56]]]]]]),(63,.tup []),(28,.bool false)]))∧(∀K,at_ h 30 K=K (.inst 7 [(25,.loc 19),(34,.str []),(35,.none),(36,.loc 29),(37,.none),(38,.loc 31),(39,.loc 34),(40,.lst [.loc 35]),(41,.lst []),(42,.int 0),(43,.lst []),(44,.tup [.str [116,117,112,108,101],.tup []])]))∧(∀K,at_ h 31 K=K (.inst 6 [(5,.loc 32),(29,.loc 33)])) :=
 ⟨fun _=>at_of c.a0,fun _=>at_of c.a7,fun _=>at_of c.a8,fun _=>at_of c.a9,fun _=>at_of c.a10,fun _=>at_of c.a11,fun _=>at_of c.a12,fun _=>at_of c.a13,fun _=>at_of c.a14,fun _=>at_of c.a15,fun _=>at_of c.a16,fun _=>at_of c.a17,fun _=>at_of c.a18,fun _=>at_of c.a19,fun _=>at_of c.a20,fun _=>at_of c.a21,fun _=>at_of c.a24,fun _=>at_of c.a26,fun _=>at_of c.a27,fun _=>at_of c.a30,fun _=>at_of c.a31⟩
end
section
set_option maxRecDepth 100000
variable {B:Nat→Option AO}{h:Hp}{Q:D→Hp→Prop}{X:Nat→Hp→Prop}{n:Nat}
theorem mm {l c a f:Nat}{fs:List (Nat×D)}{K:Nat→Prop}(hI:h[l]? = some (.inst c fs))(e:(match clsT[c]? with|some ci=>nget ci.meths a|none=>none)=some f):some_ (methOf clsT h (.loc l) a) K=K f:=by
 unfold methOf classOf
 simp only [hI]
 cases h1:clsT[c]? with
 |none=>rw [h1] at e;cases e
 |some ci=>rw [h1] at e;simp only at e;simp only [e];rfl
theorem aa {l c a:Nat}{fs:List (Nat×D)}{d:D}(hI:h[l]? = some (.inst c fs))(e:fget fs a=some d):Ev (attrOf a (.loc l) h) Q X=Q d h:=by
 rw [a_attr,at_of hI,k_inst,e,k_some]
theorem wh100 {cf:Nat→List D→M D}{c:Ex}{b:Sts}{ρ:Ve}{Q:Fl→Ve→Hp→Prop}{X:Nat→Ve→Hp→Prop}:WH cf c b 100 ρ h Q X=Ev (evE clsT cf c ρ h) (fun d h1=>br d (Sv (evSs clsT cf b ρ h1) (fun f ρ' h2=>lpK f (WH cf c b 99 ρ' h2 Q X) (Q f ρ' h2)) X) (Q .nx ρ h1)) (fun c h1=>X c ρ h1):=wh_succ
theorem wh99 {cf:Nat→List D→M D}{c:Ex}{b:Sts}{ρ:Ve}{Q:Fl→Ve→Hp→Prop}{X:Nat→Ve→Hp→Prop}:WH cf c b 99 ρ h Q X=Ev (evE clsT cf c ρ h) (fun d h1=>br d (Sv (evSs clsT cf b ρ h1) (fun f ρ' h2=>lpK f (WH cf c b 98 ρ' h2 Q X) (Q f ρ' h2)) X) (Q .nx ρ h1)) (fun c h1=>X c ρ h1):=wh_succ
theorem wh98 {cf:Nat→List D→M D}{c:Ex}{b:Sts}{ρ:Ve}{Q:Fl→Ve→Hp→Prop}{X:Nat→Ve→Hp→Prop}:WH cf c b 98 ρ h Q X=Ev (evE clsT cf c ρ h) (fun d h1=>br d (Sv (evSs clsT cf b ρ h1) (fun f ρ' h2=>lpK f (WH cf c b 97 ρ' h2 Q X) (Q f ρ' h2)) X) (Q .nx ρ h1)) (fun c h1=>X c ρ h1):=wh_succ
theorem eqb_s {x y:List Nat}:D.eqb (.str x) (.str y)=decide (x=y):=by
 simp only [D.eqb]
 by_cases e:x=y<;>simp [e]
abbrev varD (k:Nat):D:=.tup [.str [118,97,114],.int k]
theorem shallow_ok {t:Ty}(c:Cn B h)(hn:1≤n)(k:Q t.d h):Ev (callF tab n 29 [.loc 31,t.d] h) Q X:=by
 refine c_run (fi:=Z29) (ρ:=[some (.loc 31),some t.d]) rfl rfl hn fun m hm=>?_
 cases t<;>simp! only [Z29,Ty.d,s_whl,wh100,q_in,anyEq,eqb_s,Bool.or_false]<;>exact k
theorem resolved_ok (c:Cn B h):∀{t:Ty} {n:Nat} {Q:D→Hp→Prop},t.dep+3≤n→Q t.d h→Ev (callF tab n 30 [.loc 31,t.d] h) Q X:=by
 have go:∀{t:Ty} {n:Nat} {Q:D→Hp→Prop},3≤n→(∀m Q,n=m+1→cmpK (callF tab m) (.meth 10 (.var 0) (.cons (.var 2) .nil)) (.n 2) [some (.loc 31),some t.d,none] (t.parts.map Ty.d) h Q X=Q (t.parts.map Ty.d) h∨True) →
   (∀m,n=m+1→∀Q:List D→Hp→Prop,Q (t.parts.map Ty.d) h→cmpK (callF tab m) (.meth 10 (.var 0) (.cons (.var 2) .nil)) (.n 2) [some (.loc 31),some t.d,none] (t.parts.map Ty.d) h Q X)→Q t.d h→Ev (callF tab n 30 [.loc 31,t.d] h) Q X:=by
  intro t n Q hn _ hc k
  refine c_run (fi:=Z30) (ρ:=[some (.loc 31),some t.d,none]) rfl rfl (by omega) fun m hm=>?_
  simp! only [Z30,mm (a:=30) (f:=29) c.a31 rfl]
  refine shallow_ok c (by omega) ?_
  simp_all! only [k_some]
  refine parts_ok (by omega) ?_
  simp! only [k_some]
  refine ⟨by cases t<;>simp [Ty.parts],hc m hm _ ?_⟩
  exact rebuilt_ok (by omega) k
 intro t
 induction t with
 |pair t ih =>
  intro n Q hn k
  refine go (by omega) (fun _ _ _=>.inr trivial) (fun m hm Q' k'=>?_) k
  unfold Ty.dep at hn
  simp! only [Ty.parts,mm (a:=10) (f:=30) c.a31 rfl]
  refine ih (by omega) ?_
  simp! only [mm (a:=10) (f:=30) c.a31 rfl]
  refine go (t:=.u8) (by omega) (fun _ _ _=>.inr trivial) (fun m hm Q' k'=>?_) k'
  simp! only [Ty.parts]
  exact k'
 |en t ih =>
  intro n Q hn k
  refine go (by omega) (fun _ _ _=>.inr trivial) (fun m hm Q' k'=>?_) k
  unfold Ty.dep at hn
  simp! only [Ty.parts,mm (a:=10) (f:=30) c.a31 rfl]
  exact ih (by omega) k'
 |rf b t ih =>
  intro n Q hn k
  refine go (by omega) (fun _ _ _=>.inr trivial) (fun m hm Q' k'=>?_) k
  unfold Ty.dep at hn
  simp! only [Ty.parts,mm (a:=10) (f:=30) c.a31 rfl]
  exact ih (by omega) k'
 |_ =>
  intro n Q hn k
  refine go (by omega) (fun _ _ _=>.inr trivial) (fun m hm Q' k'=>?_) k
  simp! only [Ty.parts]
  exact k'
end
section
set_option maxRecDepth 100000
variable {B:Nat→Option AO}{h:Hp}{Q:D→Hp→Prop}{X:Nat→Hp→Prop}{n:Nat}
theorem end_at {o:AO}:(h++[o])[h.length]? = some o:=by simp
theorem set_end {o o':AO}:(h++[o]).set h.length o'=h++[o']:=by
 rw [List.set_append]
 simp
theorem p_pop {l:Nat}{ds i:List D}{x:D}(e:h[l]? = some (.list ds))(el:lastInit ds=some (i,x))(hl:ds.length≤most):Ev (bmD .pop (.loc l) [] h) Q X=Q x (h.set l (.list i)):=by
 unfold bmD;simp only [e,el,hl,if_true];rfl
theorem p_ext {l:Nat}{ds es:List D}(e:h[l]? = some (.list ds))(hl:ds.length+es.length≤most):Ev (bmD .extend (.loc l) [.tup es] h) Q X=Q .none (h.set l (.list (ds++es))):=by
 unfold bmD;simp only [e,items,hl,if_true];rfl
theorem p_extl {l:Nat}{ds es:List D}(e:h[l]? = some (.list ds))(hl:ds.length+es.length≤most):Ev (bmD .extend (.loc l) [.lst es] h) Q X=Q .none (h.set l (.list (ds++es))):=by
 unfold bmD;simp only [e,items,hl,if_true];rfl
theorem p_app {l:Nat}{ds:List D}{x:D}(e:h[l]? = some (.list ds))(hl:ds.length≤most):Ev (bmD .append (.loc l) [x] h) Q X=Q .none (h.set l (.list (ds++[x]))):=by
 unfold bmD;simp only [e,hl,if_true];rfl
theorem isK_list {l:Nat}{ds:List D}(e:h[l]? = some (.list ds)):isK h (.loc l) .list=true:=by unfold isK;simp only [e]
theorem isK_dict {l:Nat}{ds:List (List Nat×D)}(e:h[l]? = some (.dict ds)):isK h (.loc l) .dict=true:=by unfold isK;simp only [e]
theorem q_nel {l:Nat}{ds:List D}(e:h[l]? = some (.list ds))(hp:D.plainAll ds=true):Ev (cmpD .ne (.loc l) (.lst []) h) Q X=Q (.bool (!D.eqb (.lst ds) (.lst []))) h:=by
 rw [q_ne (x:=.lst ds) (y:=.lst []) (by unfold opnd;simp only [e]) rfl (by unfold okEq;simp [D.plain,hp,D.shal,D.shalAll,D.plainAll])]
theorem lastInit_append {ds:List D}{x:D}:lastInit (ds++[x])=some (ds,x):=by
 induction ds with
 |nil=>rfl
 |cons d r ih =>
  cases r with
  |nil=>rfl
  |cons e r =>
   show lastInit (d::e::(r++[x]))=_
   unfold lastInit
   have:lastInit (e::(r++[x]))=some (e::r,x):=ih
   rw [this]
theorem unify_same {t:Ty}(c:Cn B h)(ht:t.dep≤6)(hn:4≤n)(k:Q .none (h++[.list []])):Ev (callF tab n 34 [.loc 31,t.d,t.d] h) Q X:=by
 refine c_run (fi:=Z34) (ρ:=[some (.loc 31),some t.d,some t.d,none,none,none,none]) rfl rfl (by omega) fun m hm=>?_
 have hp:=t.plain
 have hs:D.shal 60 t.d=true:=t.shal 60 (by omega)
 have e1:(h++[AO.list [.tup [t.d,t.d]]])[h.length]? = some (.list [.tup [t.d,t.d]]):=end_at
 have e2:(h++[AO.list []])[h.length]? = some (.list []):=end_at
 have pl:D.plainAll [.tup [t.d,t.d]]=true:=by simp [D.plainAll,D.plain,hp]
 simp! only [Z34,s_whl,wh100,q_nel e1 pl,D.eqb,D.eqbAll,bmK,isK_list e1,p_pop e1 (i:=[]) (x:=.tup [t.d,t.d]) rfl (by simp [most]),set_end,mm (a:=30) (f:=29) (c.app _).a31 rfl]
 refine shallow_ok (c.app _) (by omega) ?_
 simp_all! only [mm (a:=30) (f:=29) (c.app _).a31 rfl]
 refine shallow_ok (c.app _) (by omega) ?_
 simp! only [q_same hp hs,wh99,q_nel e2 rfl,D.eqb,D.eqbAll]
 exact k
end
section
set_option maxRecDepth 100000
variable {B:Nat→Option AO}{h:Hp}{Q:D→Hp→Prop}{X:Nat→Hp→Prop}{n:Nat}
def Ty.sz:Ty→Nat
 |.u8=>1
 |.bool=>1
 |.s=>1
 |.pair t=>t.sz+2
 |.en t=>t.sz+1
 |.rf _ t=>t.sz+1
def szs (l:List Ty):Nat:=(l.map Ty.sz).sum
theorem szs_app (a b:List Ty):szs (a++b)=szs a+szs b:=by simp [szs]
theorem szs_len:∀l:List Ty,l.length≤szs l
 |[]=>Nat.zero_le _
 |t::r=>by
  have:=szs_len r
  have h1:1≤t.sz:=by cases t<;>simp [Ty.sz]
  simp only [szs,List.map_cons,List.sum_cons,List.length_cons] at this ⊢
  omega
theorem sz_parts (t:Ty):szs t.parts+1=t.sz:=by cases t<;>simp [Ty.parts,szs,Ty.sz]
theorem sz_dep (t:Ty):t.sz≤2 * t.dep+1:=by induction t<;>simp [Ty.sz,Ty.dep]<;>omega
theorem eqb_var {t:Ty}{k:Nat}:D.eqb t.d (varD k)=false:=by cases t<;>simp [Ty.d,varD,D.eqb,D.eqbAll]
theorem plainAll_map:∀l:List Ty,D.plainAll (l.map Ty.d)=true
 |[]=>rfl
 |t::r=>by simp [D.plainAll,t.plain,plainAll_map r]
theorem plainAll_app:∀{a b:List D},D.plainAll a=true→D.plainAll b=true→D.plainAll (a++b)=true
 |[],b,_,h=>h
 |d::a,b,h1,h2=>by
  simp only [D.plainAll,Bool.and_eq_true] at h1
  simp [D.plainAll,h1.1,plainAll_app h1.2 h2]
theorem occ_loop (c:Cn B h){k:Nat}{m:Nat}(hm:1≤m){told:Option D}{X:Nat→Ve→Hp→Prop}:∀(j:Nat) (st:List Ty) (x:Option D) (Q:Fl→Ve→Hp→Prop),j≤100→szs st < j →
  (∀y,Q .nx [some (.loc 31),some (varD k),told,some (.loc h.length),y] (h++[.list []])) →
  WH (callF tab m) (.cmp .ne (.var 3) (.vlist .nil)) (.cons (.asn (.n 4) (.meth 30 (.var 0) (.cons (.bm .pop (.var 3) .nil) .nil)))
  (.cons (.iff (.cmp .eq (.var 4) (.var 1)) (.cons .stuck
  .nil) .nil)
  (.cons (.ex (.bm .extend (.var 3) (.cons (.call 0 (.cons (.var 4) .nil)) .nil)))
  .nil))) j [some (.loc 31),some (varD k),told,some (.loc h.length),x] (h++[.list (st.map Ty.d)]) Q X:=by
 intro j
 induction j with
 |zero=>intro st x Q _ h1;omega
 |succ j ih =>
  intro st x Q hj hs k'
  rw [wh_succ]
  have e0:(h++[AO.list (st.map Ty.d)])[h.length]? = some (.list (st.map Ty.d)):=end_at
  rcases List.eq_nil_or_concat st with rfl|⟨st',t,rfl⟩
  ·rw [List.map_nil] at e0 ⊢
   simp! only [q_nel e0 rfl,D.eqb,D.eqbAll]
   exact k' x
  ·have hl:=szs_len (st'++[t])
   simp only [List.concat_eq_append] at *
   simp only [List.map_append,List.map_cons,List.map_nil] at e0 ⊢
   have ef:D.eqb (.lst (st'.map Ty.d++[t.d])) (.lst [])=false:=by
    simp only [D.eqb]
    cases st'<;>simp [D.eqbAll]
   have pl:D.plainAll (st'.map Ty.d++[t.d])=true:=plainAll_app (plainAll_map _) (plainAll_map [t])
   have hlen:(st'.map Ty.d++[t.d]).length≤most:=by simp [most];simp at hl;omega
   have e1:(h++[AO.list (st'.map Ty.d)])[h.length]? = some (.list (st'.map Ty.d)):=end_at
   simp! only [q_nel e0 pl,ef,bmK,isK_list e0,p_pop e0 (i:=st'.map Ty.d) (x:=t.d) (by simpa using lastInit_append) hlen,set_end,mm (a:=30) (f:=29) (c.app _).a31 rfl]
   refine shallow_ok (c.app _) hm ?_
   have oe:okEq t.d (varD k)=true:=by unfold okEq;simp [t.plain,D.plain,D.plainAll,D.shal,D.shalAll]
   have hq:∀{g:Hp} {Q:D→Hp→Prop} {X:Nat→Hp→Prop},Ev (cmpD .eq t.d (varD k) g) Q X=Q (.bool false) g:=by
    intro g Q X
    rw [q_eq (x:=t.d) (y:=varD k) (by cases t<;>rfl) rfl oe]
    rw [show D.eqb t.d (varD k)=false from eqb_var]
   simp! only [hq,isK_list e1,bmK]
   refine parts_ok hm ?_
   have hsz:=sz_parts t
   rw [szs_app] at hs
   have hst:szs [t]=t.sz:=by simp [szs]
   have hp2:=szs_len t.parts
   have hp3:=szs_len st'
   rw [p_ext e1 (by simp [most];omega),set_end,←List.map_append]
   refine ih (st'++t.parts) _ Q (by omega) (by rw [szs_app];omega) k'
theorem occurs_ok {t:Ty}{k:Nat}(c:Cn B h)(ht:t.dep≤6)(hn:2≤n)(kk:Q (.bool false) (h++[.list []])):Ev (callF tab n 31 [.loc 31,varD k,t.d] h) Q X:=by
 refine c_run (fi:=Z31) (ρ:=[some (.loc 31),some (varD k),some t.d,none,none]) rfl rfl (by omega) fun m hm=>?_
 simp! only [Z31,s_whl]
 have:=sz_dep t
 refine occ_loop c (by omega) 100 [t] none _ (by omega) (by simp [szs];omega) fun y=>?_
 simp! only [k_some]
 exact kk
end
section
set_option maxRecDepth 100000
variable {B:Nat→Option AO}{h:Hp}{Q:D→Hp→Prop}{X:Nat→Hp→Prop}{n:Nat}
theorem idx_nat {V:List D}{k:Nat}(hl:V.length≤most):idx V (k:Int)=V[k]? := by
 unfold idx
 rw [if_pos hl,if_pos (by omega)]
 simp
theorem st_item {V:List D}{l k:Nat}{d:D}(e:h[l]? = some (.list V))(hk:k < V.length)(hl:V.length≤most):storeItem (.loc l) (.int (k:Int)) d h=some (h.set l (.list (V.set k d))):=by
 unfold storeItem
 simp only [e]
 rw [if_pos ⟨by omega,by simpa using hk,hl⟩]
 simp
theorem set_app {x:Hp}{i:Nat}{o:AO}(hi:i < h.length):(h++x).set i o=h.set i o++x:=by
 rw [List.set_append_left _ _ hi]
abbrev ownD (k:Nat):D:=.tup [.str [97,100,116],.str [69],.tup [],.tup [varD k]]
theorem bind_ok {t:Ty}{k:Nat}{V:List D}(c:Cn B h)(v:h[32]? = some (.list V))(hk:k < V.length)(hl:V.length≤most)(ht:t.dep≤6)(hn:3≤n)(kk:Q .none (h.set 32 (.list (V.set k t.d))++[.list []])):Ev (callF tab n 32 [.loc 31,varD k,t.d] h) Q X:=by
 refine c_run (fi:=Z32) (ρ:=[some (.loc 31),some (varD k),some t.d]) rfl rfl (by omega) fun m hm=>?_
 have hlen:32 < h.length:=(List.getElem?_eq_some_iff.mp v).1
 simp! only [Z32,mm (a:=31) (f:=31) c.a31 rfl]
 refine occurs_ok c ht (by omega) ?_
 simp! only [aa (a:=5) (d:=.loc 32) (c.app _).a31 rfl,st_item (app_at v) hk hl,set_app hlen]
 exact kk
theorem shallow_var {k:Nat}{V:List D}(c:Cn B h)(v:h[32]? = some (.list V))(hV:V[k]? = some .none)(hl:V.length≤most)(hn:1≤n)(kk:Q (varD k) h):Ev (callF tab n 29 [.loc 31,varD k] h) Q X:=by
 refine c_run (fi:=Z29) (ρ:=[some (.loc 31),some (varD k)]) rfl rfl hn fun m hm=>?_
 simp! only [Z29,s_whl,wh100,q_in,anyEq,eqb_s,Bool.or_false,Bool.true_or,aa (a:=5) (d:=.loc 32) c.a31 rfl,i_loc,at_of v,idx_nat hl,hV]
 exact kk
theorem shallow_bound {k:Nat}{V:List D}{t:Ty}(c:Cn B h)(v:h[32]? = some (.list V))(hV:V[k]? = some t.d)(hl:V.length≤most)(hn:1≤n)(kk:Q t.d h):Ev (callF tab n 29 [.loc 31,varD k] h) Q X:=by
 refine c_run (fi:=Z29) (ρ:=[some (.loc 31),some (varD k)]) rfl rfl hn fun m hm=>?_
 cases t<;>simp! only [Z29,s_whl,wh100,wh99,q_in,anyEq,eqb_s,Bool.or_false,Bool.true_or,aa (a:=5) (d:=.loc 32) c.a31 rfl,i_loc,at_of v,idx_nat hl,hV,Ty.d]<;>exact kk
theorem shallow_own {k:Nat}(c:Cn B h)(hn:1≤n)(kk:Q (ownD k) h):Ev (callF tab n 29 [.loc 31,ownD k] h) Q X:=by
 refine c_run (fi:=Z29) (ρ:=[some (.loc 31),some (ownD k)]) rfl rfl hn fun m hm=>?_
 simp! only [Z29,s_whl,wh100,q_in,anyEq,eqb_s,Bool.or_false]
 exact kk
theorem parts_own {k:Nat}(hn:1≤n)(kk:Q (.tup [varD k]) h):Ev (callF tab n 0 [ownD k] h) Q X:=by
 refine c_run (fi:=Z0) (ρ:=[some (ownD k),none]) rfl rfl hn fun m hm=>?_
 simp! only [Z0]
 exact kk
theorem alike_own {t:Ty}{k:Nat}(hn:2≤n)(kk:Q (.bool true) h):Ev (callF tab n 33 [.loc 31,(Ty.en t).d,ownD k] h) Q X:=by
 refine c_run (fi:=Z33) (ρ:=[some (.loc 31),some (Ty.en t).d,some (ownD k)]) rfl rfl (by omega) fun m hm=>?_
 have e:(Ty.en t).d=.tup [.str [97,100,116],.str [69],.tup [],.tup [t.d]]:=rfl
 simp! only [Z33,e]
 rw [←e]
 refine parts_ok (by omega) ?_
 simp! only [Ty.parts]
 refine parts_own (by omega) ?_
 simp! only [q_in,anyEq,eqb_s,Bool.or_false,Bool.or_true,Bool.false_or]
 exact kk
theorem resolved_any {d:D}{t:Ty}(c:Cn B h)(hn:t.dep+3≤n)(hsh:∀(m:Nat) (Q:D→Hp→Prop) (X:Nat→Hp→Prop),1≤m→Q t.d h→Ev (callF tab m 29 [.loc 31,d] h) Q X)(k:Q t.d h):Ev (callF tab n 30 [.loc 31,d] h) Q X:=by
 refine c_run (fi:=Z30) (ρ:=[some (.loc 31),some d,none]) rfl rfl (by omega) fun m hm=>?_
 simp! only [Z30,mm (a:=30) (f:=29) c.a31 rfl]
 refine hsh _ _ _ (by omega) ?_
 simp_all! only [k_some]
 refine parts_ok (by omega) ?_
 cases t with
 |pair t =>
  simp! only [Ty.parts,mm (a:=10) (f:=30) c.a31 rfl]
  unfold Ty.dep at hn
  refine resolved_ok c (by omega) ?_
  simp! only [Ty.parts,mm (a:=10) (f:=30) c.a31 rfl]
  refine resolved_ok (t:=.u8) c (by unfold Ty.dep;omega) ?_
  exact rebuilt_ok (t:=.pair t) (by omega) k
 |en t =>
  simp! only [Ty.parts,mm (a:=10) (f:=30) c.a31 rfl]
  unfold Ty.dep at hn
  refine resolved_ok c (by omega) ?_
  exact rebuilt_ok (t:=.en t) (by omega) k
 |rf b t =>
  simp! only [Ty.parts,mm (a:=10) (f:=30) c.a31 rfl]
  unfold Ty.dep at hn
  refine resolved_ok c (by omega) ?_
  exact rebuilt_ok (t:=.rf b t) (by omega) k
 |u8=>simp! only [Ty.parts];exact rebuilt_ok (t:=.u8) (by omega) k
 |bool=>simp! only [Ty.parts];exact rebuilt_ok (t:=.bool) (by omega) k
 |s=>simp! only [Ty.parts];exact rebuilt_ok (t:=.s) (by omega) k
theorem resolved_own {k:Nat}{V:List D}{t:Ty}(c:Cn B h)(v:h[32]? = some (.list V))(hV:V[k]? = some t.d)(hl:V.length≤most)(hn:t.dep+4≤n)(kk:Q (Ty.en t).d h):Ev (callF tab n 30 [.loc 31,ownD k] h) Q X:=by
 refine c_run (fi:=Z30) (ρ:=[some (.loc 31),some (ownD k),none]) rfl rfl (by omega) fun m hm=>?_
 simp! only [Z30,mm (a:=30) (f:=29) c.a31 rfl]
 refine shallow_own c (by omega) ?_
 simp_all! only [k_some]
 refine parts_own (by omega) ?_
 simp! only [mm (a:=10) (f:=30) c.a31 rfl]
 refine resolved_any (t:=t) c (by omega) (fun m Q X h1 h2=>shallow_bound c v hV hl h1 h2) ?_
 refine c_run (fi:=Z1) (ρ:=[some (ownD k),some (.lst [t.d]),none]) rfl rfl (by omega) fun m hm=>?_
 simp! only [Z1]
 exact kk
end
section
set_option maxRecDepth 100000
variable {B:Nat→Option AO}{h:Hp}{Q:D→Hp→Prop}{X:Nat→Hp→Prop}{n:Nat}
def Ty.kd:Ty→List Nat
 |.u8=>[105,110,116]
 |.bool=>[98,111,111,108]
 |.s=>[97,100,116]
 |.pair _=>[116,117,112,108,101]
 |.en _=>[97,100,116]
 |.rf _ _=>[114,101,102]
theorem i_ty {t:Ty}:Ev (itemOf t.d (.int 0) h) Q X=Q (.str t.kd) h:=by cases t<;>rfl
theorem kd_in {t:Ty}:Ev (cmpD .isin (.str t.kd) (.tup [.str [118,97,114],.str [105,110,116,118,97,114]]) h) Q X=Q (.bool false) h:=by
 cases t<;>(rw [q_in rfl];rfl)
theorem eq_tv {t:Ty}{k:Nat}:Ev (cmpD .eq t.d (varD k) h) Q X=Q (.bool false) h:=by
 rw [q_eq (x:=t.d) (y:=varD k) (by cases t<;>rfl) rfl (by unfold okEq;simp [t.plain,D.plain,D.plainAll,D.shal,D.shalAll])]
 rw [show D.eqb t.d (varD k)=false from eqb_var]
theorem eq_own {t:Ty}{k:Nat}:Ev (cmpD .eq (Ty.en t).d (ownD k) h) Q X=Q (.bool false) h:=by
 rw [q_eq (x:=(Ty.en t).d) (y:=ownD k) rfl rfl (by unfold okEq;simp [(Ty.en t).plain,D.plain,D.plainAll,D.shal,D.shalAll])]
 have:D.eqb (Ty.en t).d (ownD k)=false:=by
  have e:=eqb_var (t:=t) (k:=k)
  simp [Ty.d,D.eqb,D.eqbAll]
  exact e
 rw [this]
theorem unify_en {t:Ty}{k:Nat}{V:List D}(c:Cn B h)(v:h[32]? = some (.list V))(hV:V[k]? = some .none)(hl:V.length≤most)(ht:t.dep≤6)(hn:5≤n)(kk:Q .none (h.set 32 (.list (V.set k t.d))++[.list [],.list []])):Ev (callF tab n 34 [.loc 31,(Ty.en t).d,ownD k] h) Q X:=by
 refine c_run (fi:=Z34) (ρ:=[some (.loc 31),some (Ty.en t).d,some (ownD k),none,none,none,none]) rfl rfl (by omega) fun m hm=>?_
 have hk:k < V.length:=(List.getElem?_eq_some_iff.mp hV).1
 have hlen:32 < h.length:=(List.getElem?_eq_some_iff.mp v).1
 have e1:(h++[AO.list [.tup [(Ty.en t).d,ownD k]]])[h.length]? = some (.list [.tup [(Ty.en t).d,ownD k]]):=end_at
 have e2:(h++[AO.list []])[h.length]? = some (.list []):=end_at
 have e3:(h++[AO.list [.tup [t.d,varD k]]])[h.length]? = some (.list [.tup [t.d,varD k]]):=end_at
 have p1:D.plainAll [.tup [(Ty.en t).d,ownD k]]=true:=by simp [D.plainAll,D.plain,(Ty.en t).plain]
 have p3:D.plainAll [.tup [t.d,varD k]]=true:=by simp [D.plainAll,D.plain,t.plain]
 simp! only [Z34,s_whl,wh100,q_nel e1 p1,D.eqb,D.eqbAll,bmK,isK_list e1,p_pop e1 (i:=[]) (x:=.tup [(Ty.en t).d,ownD k]) rfl (by simp [most]),set_end,mm (a:=30) (f:=29) (c.app _).a31 rfl]
 refine shallow_ok (c.app _) (by omega) ?_
 simp_all! only [mm (a:=30) (f:=29) (c.app _).a31 rfl]
 refine shallow_own (c.app _) (by omega) ?_
 simp! only [eq_own,i_ty,kd_in,q_in,anyEq,eqb_s,Bool.or_false,mm (a:=33) (f:=33) (c.app _).a31 rfl]
 refine alike_own (by omega) ?_
 simp! only [bmK,isK_list e2]
 refine parts_ok (by omega) ?_
 simp_all! only [k_some]
 refine parts_own (by omega) ?_
 simp! only [f_listzip,Ty.parts,zipD,p_extl e2 (es:=[.tup [t.d,varD k]]) (by simp [most]),set_end]
 simp! only [wh99,q_nel e3 p3,D.eqb,D.eqbAll,bmK,isK_list e3,p_pop e3 (i:=[]) (x:=.tup [t.d,varD k]) rfl (by simp [most]),set_end,mm (a:=30) (f:=29) (c.app _).a31 rfl]
 refine shallow_ok (c.app _) (by omega) ?_
 simp_all! only [mm (a:=30) (f:=29) (c.app _).a31 rfl]
 refine shallow_var (c.app _) (app_at v) hV hl (by omega) ?_
 simp! only [eq_tv,i_ty,kd_in,q_in,anyEq,eqb_s,Bool.or_false,Bool.true_or,mm (a:=32) (f:=32) (c.app _).a31 rfl]
 refine bind_ok (c.app _) (app_at v) hk hl ht (by omega) ?_
 have e4:((h++[AO.list []]).set 32 (.list (V.set k t.d))++[AO.list []])[h.length]? = some (.list []):=app_at (set_at e2 (Nat.ne_of_lt hlen))
 simp! only [wh98,q_nel e4 rfl,D.eqb,D.eqbAll]
 rw [set_app hlen,List.append_assoc]
 exact kk
end
section
set_option maxRecDepth 100000
variable {B:Nat→Option AO}{h:Hp}{Q:D→Hp→Prop}{X:Nat→Hp→Prop}{n:Nat}
theorem asc_plain {x:List Nat}(h:asc x=true):D.plain (.str x)=true:=by unfold D.plain;exact h
theorem begin_ok {x:List Nat}{r:List D}{sp:D}{md:List Nat}(hx:asc x=true)(h1:x≠[99,114,97,116,101])(h2:x≠[115,101,108,102])(h3:x≠[115,117,112,101,114])(hr:D.plainAll r=true)(hl:r.length≤5)(hn:1≤n)(kk:Q (.tup [.none,.int 0]) h) :
  Ev (callF tab n 63 [.loc 7,.str md,.tup (.str x::r),sp] h) Q X:=by
 refine c_run (fi:=Z63) (ρ:=[some (.loc 7),some (.str md),some (.tup (.str x::r)),some sp,none,none]) rfl rfl hn fun m hm=>?_
 have e1:∀{Q:D→Hp→Prop} {X:Nat→Hp→Prop},Ev (cmpD .eq (.tup (.str x::r)) (.tup []) h) Q X=Q (.bool false) h:=by
  intro Q X
  rw [q_eq (x:=.tup (.str x::r)) (y:=.tup []) rfl rfl (by
   have e:D.plain (.tup (.str x::r))=true:=by
    show (D.plain (.str x)&&D.plainAll r)=true
    rw [asc_plain hx,hr]
    rfl
   unfold okEq
   rw [e]
   rfl)]
  simp [D.eqb,D.eqbAll]
 have e2:∀{k:Int},idx (.str x::r) 0=some (.str x):=by
  intro k
  unfold idx
  rw [if_pos (by simp [most];omega)]
  rfl
 have e3:okIn (.str x) [.str [99,114,97,116,101],.str [115,101,108,102],.str [115,117,112,101,114]]=true:=by
  unfold okIn
  rw [asc_plain hx]
  rfl
 simp! only [Z63,e1,e2 (k:=0),q_eqs hx (show asc [99,114,97,116,101]=true from rfl),h1,h2,h3,q_nin e3,anyEq,eqb_s,Bool.or_false,Ne.symm h1,Ne.symm h2,Ne.symm h3,Bool.or_self]
 exact kk
theorem joined_E {x:List Nat}(hl:x.length≤50)(hn:1≤n)(kk:Q (.str ([69,58,58]++x)) h):Ev (callF tab n 48 [.str [69],.str x] h) Q X:=by
 refine c_run (fi:=Z48) (ρ:=[some (.str [69]),some (.str x)]) rfl rfl hn fun m hm=>?_
 simp! only [Z48,b_adds,reduceCtorEq]
 exact ⟨by omega,kk⟩
theorem space_v (c:Cn B h)(hn:1≤n)(kk:Q (.loc 12) h):Ev (callF tab n 52 [.loc 10,.str [118,97,108,117,101]] h) Q X:=by
 refine c_run (fi:=Z52) (ρ:=[some (.loc 10),some (.str [118,97,108,117,101])]) rfl rfl hn fun m hm=>?_
 dsimp! only [Z52,c.at]
 exact kk
theorem space_t (c:Cn B h)(hn:1≤n)(kk:Q (.loc 11) h):Ev (callF tab n 52 [.loc 10,.str [116,121,112,101]] h) Q X:=by
 refine c_run (fi:=Z52) (ρ:=[some (.loc 10),some (.str [116,121,112,101])]) rfl rfl hn fun m hm=>?_
 dsimp! only [Z52,c.at]
 exact kk
theorem within_ok (hn:1≤n)(kk:Q (.bool true) h):Ev (callF tab n 49 [.str [],.str []] h) Q X:=by
 refine c_run (fi:=Z49) (ρ:=[some (.str []),some (.str [])]) rfl rfl hn fun m hm=>?_
 simp! only [Z49]
 exact kk
theorem see_ok (hn:2≤n)(kk:Q (.bool true) h):Ev (callF tab n 60 [.loc 7,.str [],.str [],.bool false] h) Q X:=by
 refine c_run (fi:=Z60) (ρ:=[some (.loc 7),some (.str []),some (.str []),some (.bool false)]) rfl rfl (by omega) fun m hm=>?_
 simp! only [Z60]
 exact within_ok (by omega) kk
theorem g_get1 {l:Nat}{x:List Nat}:Ev (bmD .get1 (.loc l) [.str x] h) Q X=at_ h l fun o=>dictK o fun kvs=>Q ((find kvs x).getD .none) h:=by
 unfold bmD at_
 simp only
 cases h[l]? with
 |none=>rfl
 |some o=>cases o<;>rfl
theorem look_hit {x p:List Nat}{sp:List Nat}{l:Nat}{seen spot:D}(c:Cn B h)(hs:(sp=[118,97,108,117,101]∧l=12∧x=[75]∧p=[75])∨(sp=[116,121,112,101]∧l=11∧x=[69]∧p=[69])∨(sp=[116,121,112,101]∧l=11∧x=[83]∧p=[83]))(hn:3≤n)(kk:Q (.str p) h) :
  Ev (callF tab n 65 [.loc 7,.str [],.str [],.str x,.str sp,spot,seen] h) Q X:=by
 refine c_run (fi:=Z65) (ρ:=[some (.loc 7),some (.str []),some (.str []),some (.str x),some (.str sp),some spot,some seen,none,none,none]) rfl rfl (by omega) fun m hm=>?_
 rcases hs with ⟨rfl,rfl,rfl,rfl⟩|⟨rfl,rfl,rfl,rfl⟩|⟨rfl,rfl,rfl,rfl⟩
 ·dsimp! only [Z65,c.at,bmK]
  refine space_v c (by omega) ?_
  dsimp! only [isK_dict c.a12,g_get1,c.at,Option.getD_some]
  refine see_ok (by omega) ?_
  simp! only [k_some]
  exact kk
 ·dsimp! only [Z65,c.at,bmK]
  refine space_t c (by omega) ?_
  dsimp! only [isK_dict c.a11,g_get1,c.at,Option.getD_some]
  refine see_ok (by omega) ?_
  simp! only [k_some]
  exact kk
 ·dsimp! only [Z65,c.at,bmK]
  refine space_t c (by omega) ?_
  dsimp! only [isK_dict c.a11,g_get1,c.at,Option.getD_some]
  refine see_ok (by omega) ?_
  simp! only [k_some]
  exact kk
theorem look_miss {x:List Nat}{seen spot:D}(c:Cn B h)(h1:x≠[75])(h2:x≠[80])(hn:3≤n)(kk:Q .none h) :
  Ev (callF tab n 65 [.loc 7,.str [],.str [],.str x,.str [118,97,108,117,101],spot,seen] h) Q X:=by
 refine c_run (fi:=Z65) (ρ:=[some (.loc 7),some (.str []),some (.str []),some (.str x),some (.str [118,97,108,117,101]),some spot,some seen,none,none,none]) rfl rfl (by omega) fun m hm=>?_
 dsimp! only [Z65,c.at,bmK]
 refine space_v c (by omega) ?_
 dsimp! only [isK_dict c.a12,isK_dict c.a13,g_get1,c.at,Option.getD_none,Ne.symm h1,Ne.symm h2]
 exact kk
theorem look_E {x:List Nat}{sp seen spot:D}(c:Cn B h)(hx:x=[80]∨x=[81])(hn:3≤n)(kk:Q (.str ([69,58,58]++x)) h) :
  Ev (callF tab n 65 [.loc 7,.str [],.str [69],.str x,sp,spot,seen] h) Q X:=by
 refine c_run (fi:=Z65) (ρ:=[some (.loc 7),some (.str []),some (.str [69]),some (.str x),some sp,some spot,some seen,none,none,none]) rfl rfl (by omega) fun m hm=>?_
 rcases hx with rfl|rfl
 ·dsimp! only [Z65,c.at,bmK]
  refine joined_E (by decide) (by omega) ?_
  dsimp! only [isK_dict c.a8,g_get1,c.at,Option.getD_some]
  exact kk
 ·dsimp! only [Z65,c.at,bmK]
  refine joined_E (by decide) (by omega) ?_
  dsimp! only [isK_dict c.a8,g_get1,c.at,Option.getD_some]
  exact kk
end
section
set_option maxRecDepth 100000
variable {B:Nat→Option AO}{h:Hp}{Q:D→Hp→Prop}{X:Nat→Hp→Prop}{n:Nat}
abbrev sV:List Nat:=[118,97,108,117,101]
abbrev sT:List Nat:=[116,121,112,101]
theorem step_hit {x sp p:List Nat}{spot seen:D}(hn:1≤n)(k:∀m,n=m+1→∀(Q':D→Hp→Prop) (X':Nat→Hp→Prop),Q' (.str p) h→Ev (callF tab m 65 [.loc 7,.str [],.str [],.str x,.str sp,spot,seen] h) Q' X')(c:Cn B h)(kk:Q (.str p) h) :
  Ev (callF tab n 64 [.loc 7,.str [],.none,.str x,.str sp,spot,seen] h) Q X:=by
 refine c_run (fi:=Z64) (ρ:=[some (.loc 7),some (.str []),some .none,some (.str x),some (.str sp),some spot,some seen,none]) rfl rfl (by omega) fun m hm=>?_
 dsimp! only [Z64,c.at]
 refine k m hm _ _ ?_
 simp! only [k_some]
 exact kk
theorem step_here {x:List Nat}{sp spot seen:D}(c:Cn B h)(hx:x=[80]∨x=[81])(hn:4≤n)(kk:Q (.str ([69,58,58]++x)) h) :
  Ev (callF tab n 64 [.loc 7,.str [],.str [69],.str x,sp,spot,seen] h) Q X:=by
 refine c_run (fi:=Z64) (ρ:=[some (.loc 7),some (.str []),some (.str [69]),some (.str x),some sp,some spot,some seen,none]) rfl rfl (by omega) fun m hm=>?_
 dsimp! only [Z64,c.at]
 exact look_E c hx (by omega) kk
def prel:List D:=[(.str [67,108,111,110,101]),(.str [67,111,112,121]),(.str [68,101,102,97,117,108,116]),(.str [68,114,111,112]),(.str [69,114,114]),(.str [78,111,110,101]),(.str [79,107]),(.str [79,112,116,105,111,110]),(.str [82,97,110,103,101,56]),(.str [82,101,115,117,108,116]),(.str [83,111,109,101]),(.str [86,101,99,56]),(.str [115,119,97,112,112,101,100])]
theorem step_miss {x:List Nat}{spot seen:D}(c:Cn B h)(hx:asc x=true)(h1:x≠[75])(h2:x≠[80])(hp:anyEq (.str x) prel=false)(hn:4≤n)(kk:Q .none h) :
  Ev (callF tab n 64 [.loc 7,.str [],.none,.str x,.str sV,spot,seen] h) Q X:=by
 refine c_run (fi:=Z64) (ρ:=[some (.loc 7),some (.str []),some .none,some (.str x),some (.str sV),some spot,some seen,none]) rfl rfl (by omega) fun m hm=>?_
 have e3:okIn (.str x) prel=true:=by
  unfold okIn
  rw [asc_plain hx]
  rfl
 unfold prel at e3 hp
 dsimp! only [Z64,c.at]
 refine look_miss c h1 h2 (by omega) ?_
 simp! only [q_in e3,hp]
 exact kk
theorem walk_E {x:List Nat}{spot seen:D}(c:Cn B h)(hx:x=[80]∨x=[81])(hn:5≤n)(kk:Q (.str ([69,58,58]++x)) h) :
  Ev (callF tab n 62 [.loc 7,.str [],.tup [.str [69],.str x],.str sV,spot,seen] h) Q X:=by
 refine c_run (fi:=Z62) (ρ:=[some (.loc 7),some (.str []),some (.tup [.str [69],.str x]),some (.str sV),some spot,some seen,none,none,none,none]) rfl rfl (by omega) fun m hm=>?_
 have hv:find [([],D.str [109,111,100]),([69],.str [101,110,117,109]),([69,58,58,80],.str [118,97,114,105,97,110,116]),([69,58,58,81],.str [118,97,114,105,97,110,116]),([83],.str [115,116,114,117,99,116]),([75],.str [99,111,110,115,116])] (69::58::58::x)=some (.str [118,97,114,105,97,110,116]):=by
  rcases hx with rfl|rfl<;>rfl
 have hp:D.plainAll [.str x]=true:=by rcases hx with rfl|rfl<;>rfl
 simp! only [Z62,m_meth,at_of c.a7,cl10,nget]
 refine begin_ok (by decide) (by decide) (by decide) (by decide) hp (by simp) (by omega) ?_
 simp! only [s_whl,wh100,m_meth,at_of c.a7,cl10,nget,Int.reduceEq]
 refine step_hit (p:=[69]) (by omega) (fun m' hm' Q' X' hq=>look_hit c (.inr (.inl ⟨rfl,rfl,rfl,rfl⟩)) (by omega) hq) c ?_
 simp! only [wh99,m_meth,at_of c.a7,cl10,nget,Int.reduceEq]
 refine step_here c hx (by omega) ?_
 simp! only [wh98,a_attr,at_of c.a7,fget,i_key,at_of c.a8]
 rw [hv]
 simp! only [k_some]
 exact kk
theorem follow_P {spot:D}(c:Cn B h)(hn:6≤n)(kk:Q (.str [69,58,58,80]) h):Ev (callF tab n 66 [.loc 7,.str [],.str [80],.loc 18,.str sV,.lst []] h) Q X:=by
 refine c_run (fi:=Z66) (ρ:=[some (.loc 7),some (.str []),some (.str [80]),some (.loc 18),some (.str sV),some (.lst [])]) rfl rfl (by omega) fun m hm=>?_
 have e1:∀{Q:D→Hp→Prop} {X:Nat→Hp→Prop},Ev (cmpD .isin (.tup [.str [],.str [80]]) (.lst []) h) Q X=Q (.bool false) h:=rfl
 have e2:∀{Q:D→Hp→Prop} {X:Nat→Hp→Prop} {a:D},Ev (binD .add (.lst []) (.lst [a]) h) Q X=Q (.lst [a]) h:=rfl
 dsimp! only [Z66,e1,c.at,Int.reduceEq,e2]
 exact walk_E c (.inl rfl) (by omega) kk
theorem look_P {spot:D}(c:Cn B h)(hn:7≤n)(kk:Q (.str [69,58,58,80]) h):Ev (callF tab n 65 [.loc 7,.str [],.str [],.str [80],.str sV,spot,.lst []] h) Q X:=by
 refine c_run (fi:=Z65) (ρ:=[some (.loc 7),some (.str []),some (.str []),some (.str [80]),some (.str sV),some spot,some (.lst []),none,none,none]) rfl rfl (by omega) fun m hm=>?_
 dsimp! only [Z65,c.at,bmK]
 refine space_v c (by omega) ?_
 dsimp! only [isK_dict c.a12,isK_dict c.a13,g_get1,c.at,Option.getD_none,Option.getD_some]
 refine see_ok (by omega) ?_
 dsimp! only [c.at]
 exact follow_P (spot:=spot) c (by omega) kk
theorem walk_one {x p sp:List Nat}{spot:D}(c:Cn B h)(hx:(sp=sV∧x=[75]∧p=[75])∨(sp=sT∧x=[83]∧p=[83])∨(sp=sV∧x=[80]∧p=[69,58,58,80]))(hn:9≤n)(kk:Q (.str p) h) :
  Ev (callF tab n 62 [.loc 7,.str [],.tup [.str x],.str sp,spot,.lst []] h) Q X:=by
 refine c_run (fi:=Z62) (ρ:=[some (.loc 7),some (.str []),some (.tup [.str x]),some (.str sp),some spot,some (.lst []),none,none,none,none]) rfl rfl (by omega) fun m hm=>?_
 rcases hx with ⟨rfl,rfl,rfl⟩|⟨rfl,rfl,rfl⟩|⟨rfl,rfl,rfl⟩
 ·simp! only [Z62,m_meth,at_of c.a7,cl10,nget]
  refine begin_ok (by decide) (by decide) (by decide) (by decide) rfl (by simp) (by omega) ?_
  simp! only [s_whl,wh100,m_meth,at_of c.a7,cl10,nget,Int.reduceEq]
  refine step_hit (p:=[75]) (by omega) (fun m' hm' Q' X' hq=>look_hit c (.inl ⟨rfl,rfl,rfl,rfl⟩) (by omega) hq) c ?_
  dsimp! only [wh99,Int.reduceEq,c.at]
  exact kk
 ·simp! only [Z62,m_meth,at_of c.a7,cl10,nget]
  refine begin_ok (by decide) (by decide) (by decide) (by decide) rfl (by simp) (by omega) ?_
  simp! only [s_whl,wh100,m_meth,at_of c.a7,cl10,nget,Int.reduceEq]
  refine step_hit (p:=[83]) (by omega) (fun m' hm' Q' X' hq=>look_hit c (.inr (.inr ⟨rfl,rfl,rfl,rfl⟩)) (by omega) hq) c ?_
  dsimp! only [wh99,Int.reduceEq,c.at]
  exact kk
 ·simp! only [Z62,m_meth,at_of c.a7,cl10,nget]
  refine begin_ok (by decide) (by decide) (by decide) (by decide) rfl (by simp) (by omega) ?_
  simp! only [s_whl,wh100,m_meth,at_of c.a7,cl10,nget,Int.reduceEq]
  refine step_hit (p:=[69,58,58,80]) (by omega) (fun m' hm' Q' X' hq=>look_P c (by omega) hq) c ?_
  dsimp! only [wh99,Int.reduceEq,c.at]
  exact kk
theorem p_join1 {x:List Nat}(hl:x.length≤50):Ev (bmD .join (.str [58,58]) [.tup [.str x]] h) Q X=Q (.str x) h:=by
 unfold bmD
 simp only [strsOf,Option.map_some]
 rw [if_pos (by simp [most];omega)]
 rfl
theorem walk_miss {x:List Nat}{spot:D}(c:Cn B h)(hx:asc x=true)(hl:x.length≤50)(h1:x≠[75])(h2:x≠[80])(hp:anyEq (.str x) prel=false)(g1:x≠[99,114,97,116,101])(g2:x≠[115,101,108,102])(g3:x≠[115,117,112,101,114])(hn:9≤n)(kk:X 1 h) :
  Ev (callF tab n 62 [.loc 7,.str [],.tup [.str x],.str sV,spot,.lst []] h) Q X:=by
 refine c_run (fi:=Z62) (ρ:=[some (.loc 7),some (.str []),some (.tup [.str x]),some (.str sV),some spot,some (.lst []),none,none,none,none]) rfl rfl (by omega) fun m hm=>?_
 simp! only [Z62,m_meth,at_of c.a7,cl10,nget]
 refine begin_ok hx g1 g2 g3 rfl (by simp) (by omega) ?_
 simp! only [s_whl,wh100,m_meth,at_of c.a7,cl10,nget,Int.reduceEq]
 refine step_miss c hx h1 h2 hp (by omega) ?_
 simp! only [isK,bmK,p_join1 hl,b_adds,raiseK]
 exact ⟨by omega,kk⟩
theorem find_of {x:List D}{sp:List Nat}{spot:D}{P:(D→Hp→Prop)→(Nat→Hp→Prop)→Prop}(c:Cn B h)(hl:x.length≤3)(hn:10≤n)(k:∀m (Q':D→Hp→Prop) (X':Nat→Hp→Prop),9≤m→P Q' X'→Ev (callF tab m 62 [.loc 7,.str [],.tup x,.str sp,spot,.lst []] h) Q' X')(kk:P (fun d h=>Q d h) (fun d h=>X d h)) :
  Ev (callF tab n 61 [.loc 7,.str [],.tup x,.str sp,spot] h) Q X:=by
 refine c_run (fi:=Z61) (ρ:=[some (.loc 7),some (.str []),some (.tup x),some (.str sp),some spot]) rfl rfl (by omega) fun m hm=>?_
 simp! only [Z61,m_meth,at_of c.a7,cl10,nget]
 exact ⟨by omega,k m _ _ (by omega) kk⟩
theorem find_of4 {x:List D}{sp:List Nat}{P:(D→Hp→Prop)→(Nat→Hp→Prop)→Prop}(c:Cn B h)(hl:x.length≤3)(hn:10≤n)(k:∀m (Q':D→Hp→Prop) (X':Nat→Hp→Prop),9≤m→P Q' X'→Ev (callF tab m 62 [.loc 7,.str [],.tup x,.str sp,.int 0,.lst []] h) Q' X')(kk:P (fun d h=>Q d h) (fun d h=>X d h)) :
  Ev (callF tab n 61 [.loc 7,.str [],.tup x,.str sp] h) Q X:=by
 refine c_run (fi:=Z61) (ρ:=[some (.loc 7),some (.str []),some (.tup x),some (.str sp),some (.int 0)]) rfl rfl (by omega) fun m hm=>?_
 simp! only [Z61,m_meth,at_of c.a7,cl10,nget]
 exact ⟨by omega,k m _ _ (by omega) kk⟩
theorem names1 {x:List Nat}(hn:1≤n)(kk:Q (.tup [.str x]) h):Ev (callF tab n 46 [.tup [.tup [.str x,.tup [],.tup []]]] h) Q X:=by
 refine c_run (fi:=Z46) (ρ:=[some (.tup [.tup [.str x,.tup [],.tup []]]),none,none,none]) rfl rfl (by omega) fun m hm=>?_
 simp! only [Z46]
 exact kk
theorem names2 {x y:List Nat}(hn:1≤n)(kk:Q (.tup [.str x,.str y]) h):Ev (callF tab n 46 [.tup [.tup [.str x,.tup [],.tup []],.tup [.str y,.tup [],.tup []]]] h) Q X:=by
 refine c_run (fi:=Z46) (ρ:=[some (.tup [.tup [.str x,.tup [],.tup []],.tup [.str y,.tup [],.tup []]]),none,none,none]) rfl rfl (by omega) fun m hm=>?_
 simp! only [Z46]
 exact kk
end
section
set_option maxRecDepth 100000
variable {B:Nat→Option AO}{h:Hp}{Q:D→Hp→Prop}{X:Nat→Hp→Prop}{n:Nat}
theorem tk_cont {c k:Nat}{ρ:Ve}{Q:Fl→Ve→Hp→Prop}:tryK k .cont c ρ h Q=(under c k=true∧Q .ct ρ h):=rfl
theorem tk_ret {c k:Nat}{d:D}{ρ:Ve}{Q:Fl→Ve→Hp→Prop}:tryK k (.ret d) c ρ h Q=(under c k=true∧Q (.rt d) ρ h):=rfl
theorem q_unit:Ev (cmpD .eq (.tup []) (.tup []) h) Q X=Q (.bool true) h:=rfl
theorem q_nols:Ev (cmpD .eq (.lst []) (.lst []) h) Q X=Q (.bool true) h:=rfl
theorem b_mulz:Ev (binD .mul (.tup [.none]) (.int ((0:Nat):Int)) h) Q X=Q (.tup []) h:=rfl
theorem eqb_i {x y:Int}:D.eqb (.int x) (.int y)=decide (x=y):=rfl
abbrev seg (x:List Nat):D:=.tup [.str x,.tup [],.tup []]
theorem vpath_E {x:List Nat}{spot:D}(c:Cn B h)(hx:x=[80]∨x=[81])(hn:11≤n)(kk:Q (.str ([69,58,58]++x)) h):Ev (callF tab n 45 [.loc 30,spot,.tup [.str [69],.str x]] h) Q X:=by
 refine c_run (fi:=Z45) (ρ:=[some (.loc 30),some spot,some (.tup [.str [69],.str x]),none,none]) rfl rfl (by omega) fun m hm=>?_
 dsimp! only [Z45,items,fr_cons,s_try,c.at]
 refine find_of4 c (by simp) (by omega) (fun m Q' X' hm hq=>walk_E c hx (by omega) hq) ?_
 rcases hx with rfl|rfl<;>dsimp! only [q_ind,c.at]<;>exact kk
theorem vpath_P {spot:D}(c:Cn B h)(hn:11≤n)(kk:Q (.str [69,58,58,80]) h):Ev (callF tab n 45 [.loc 30,spot,.tup [.str [80]]] h) Q X:=by
 refine c_run (fi:=Z45) (ρ:=[some (.loc 30),some spot,some (.tup [.str [80]]),none,none]) rfl rfl (by omega) fun m hm=>?_
 dsimp! only [Z45,items,fr_cons,s_try,c.at]
 refine find_of4 c (by simp) (by omega) (fun m Q' X' hm hq=>walk_one c (.inr (.inr ⟨rfl,rfl,rfl⟩)) (by omega) hq) ?_
 dsimp! only [q_ind,c.at]
 exact kk
theorem vpath_S {spot:D}(c:Cn B h)(hn:11≤n)(kk:Q (.str [83]) h):Ev (callF tab n 45 [.loc 30,spot,.tup [.str [83]]] h) Q X:=by
 refine c_run (fi:=Z45) (ρ:=[some (.loc 30),some spot,some (.tup [.str [83]]),none,none]) rfl rfl (by omega) fun m hm=>?_
 dsimp! only [Z45,items,fr_cons,s_try,c.at]
 refine find_of4 c (by simp) (by omega) (fun m Q' X' hm hq=>walk_miss c (by decide) (by decide) (by decide) (by decide) (by decide) (by decide) (by decide) (by decide) (by omega) hq) ?_
 dsimp! only [tk_cont,c.at]
 refine find_of4 c (by simp) (by omega) (fun m Q' X' hm hq=>walk_one c (.inr (.inl ⟨rfl,rfl,rfl⟩)) (by omega) hq) ?_
 dsimp! only [q_ind,c.at]
 exact kk
theorem told1 {o x:List Nat}(c:Cn B h)(hn:1≤n)(kk:Q (.tup []) h):Ev (callF tab n 43 [.loc 30,.str o,.tup [seg x]] h) Q X:=by
 refine c_run (fi:=Z43) (ρ:=[some (.loc 30),some (.str o),some (.tup [seg x]),none]) rfl rfl (by omega) fun m hm=>?_
 simp! only [Z43,q_unit,Int.reduceEq]
 exact kk
theorem told2 {x y:List Nat}(c:Cn B h)(hn:1≤n)(kk:Q (.tup []) h):Ev (callF tab n 43 [.loc 30,.str [69],.tup [seg x,seg y]] h) Q X:=by
 refine c_run (fi:=Z43) (ρ:=[some (.loc 30),some (.str [69]),some (.tup [seg x,seg y]),none]) rfl rfl (by omega) fun m hm=>?_
 dsimp! only [Z43,q_unit,c.at]
 exact kk
abbrev freshH (h:Hp)(V N:List D):Hp:=(h.set 32 (.list (V++[.none]))).set 33 (.list (N++[.bool false]))
theorem fresh_ok {V N:List D}(c:Cn B h)(v:h[32]? = some (.list V))(v':h[33]? = some (.list N))(hl:V.length≤90000)(hl':N.length≤90000)(hn:1≤n)(kk:Q (varD V.length) (freshH h V N)):Ev (callF tab n 28 [.loc 31] h) Q X:=by
 refine c_run (fi:=Z28) (ρ:=[some (.loc 31)]) rfl rfl hn fun m hm=>?_
 have e1:(h.set 32 (.list (V++[.none])))[33]? = some (.list N):=set_at v' (by decide)
 have e2:(h.set 32 (.list (V++[.none])))[32]? = some (.list (V++[.none])):=set_self v
 have e3:(freshH h V N)[32]? = some (.list (V++[.none])):=set_at e2 (by decide)
 have c1:Cn B (h.set 32 (.list (V++[.none]))):=c.set (.inl (by omega))
 have c2:Cn B (freshH h V N):=c1.set (.inl (by omega))
 simp! only [Z28,a_attr,at_of c.a31,at_of c1.a31,fget,bmK,isK_list v,p_app v (by simp [most];omega),isK_list e1,p_app e1 (by simp [most];omega)]
 rw [at_of c2.a31]
 simp! only [fget,sq_loc]
 rw [at_of e3]
 simp! only [List.length_append]
 refine ⟨by omega,?_⟩
 have:((V.length+1:Nat):Int) - 1=(V.length:Int):=by omega
 rw [this]
 exact kk
theorem cfresh_ok {V N:List D}(c:Cn B h)(v:h[32]? = some (.list V))(v':h[33]? = some (.list N))(hl:V.length≤90000)(hl':N.length≤90000)(hn:2≤n)(kk:Q (varD V.length) (freshH h V N)):Ev (callF tab n 36 [.loc 30] h) Q X:=by
 refine c_run (fi:=Z36) (ρ:=[some (.loc 30)]) rfl rfl (by omega) fun m hm=>?_
 dsimp! only [Z36,c.at]
 exact fresh_ok c v v' hl hl' (by omega) kk
theorem adt_S (c:Cn B h)(hn:2≤n)(kk:Q Ty.s.d h):Ev (callF tab n 41 [.loc 30,.str [83],.tup []] h) Q X:=by
 refine c_run (fi:=Z41) (ρ:=[some (.loc 30),some (.str [83]),some (.tup []),none,none,none,none]) rfl rfl (by omega) fun m hm=>?_
 dsimp! only [Z41,c.at,q_nin,anyEq,eqb_i,Bool.true_or,q_nols,b_mulz]
 exact kk
theorem adt_E {V N:List D}(c:Cn B h)(v:h[32]? = some (.list V))(v':h[33]? = some (.list N))(hl:V.length≤90000)(hl':N.length≤90000)(hn:3≤n)(kk:Q (ownD V.length) (freshH h V N)):Ev (callF tab n 41 [.loc 30,.str [69],.tup []] h) Q X:=by
 refine c_run (fi:=Z41) (ρ:=[some (.loc 30),some (.str [69]),some (.tup []),none,none,none,none]) rfl rfl (by omega) fun m hm=>?_
 dsimp! only [Z41,c.at,q_nin,anyEq,eqb_i,Bool.true_or,q_nols,b_mulz]
 refine cfresh_ok c v v' hl hl' (by omega) ?_
 have c2:Cn B (freshH h V N):=(c.set (.inl (by omega))).set (.inl (by omega))
 rw [at_of c2.a26]
 simp! only [fget,b_mulz]
 exact kk
theorem vof_S {spot:D}(c:Cn B h)(hn:12≤n)(kk:Q (.tup [.int 0,Ty.s.d]) h):Ev (callF tab n 42 [.loc 30,spot,.tup [seg [83]]] h) Q X:=by
 refine c_run (fi:=Z42) (ρ:=[some (.loc 30),some spot,some (.tup [seg [83]]),none,none,none]) rfl rfl (by omega) fun m hm=>?_
 dsimp! only [Z42,c.at]
 refine names1 (by omega) ?_
 simp_all! only [a_attr,m_meth,fget,nget,find,cl5,cl6,cl7,cl8,cl9,cl10,i_loc,i_key,reduceCtorEq,Option.isSome_some,Option.isSome_none,c.at]
 refine vpath_S c (by omega) ?_
 dsimp! only [c.at]
 refine told1 c (by omega) ?_
 simp_all! only [k_some]
 exact adt_S c (by omega) kk
theorem vof_P {V N:List D}{spot:D}(c:Cn B h)(v:h[32]? = some (.list V))(v':h[33]? = some (.list N))(hl:V.length≤90000)(hl':N.length≤90000)(hn:12≤n)(kk:Q (.tup [.int 0,ownD V.length]) (freshH h V N)):Ev (callF tab n 42 [.loc 30,spot,.tup [seg [80]]] h) Q X:=by
 refine c_run (fi:=Z42) (ρ:=[some (.loc 30),some spot,some (.tup [seg [80]]),none,none,none]) rfl rfl (by omega) fun m hm=>?_
 dsimp! only [Z42,c.at]
 refine names1 (by omega) ?_
 simp_all! only [a_attr,m_meth,fget,nget,find,cl5,cl6,cl7,cl8,cl9,cl10,i_loc,i_key,reduceCtorEq,Option.isSome_some,Option.isSome_none,c.at]
 refine vpath_P c (by omega) ?_
 dsimp! only [c.at]
 refine told1 c (by omega) ?_
 simp_all! only [k_some]
 exact adt_E c v v' hl hl' (by omega) kk
theorem vof_Q {V N:List D}{spot:D}(c:Cn B h)(v:h[32]? = some (.list V))(v':h[33]? = some (.list N))(hl:V.length≤90000)(hl':N.length≤90000)(hn:12≤n)(kk:Q (.tup [.int 1,ownD V.length]) (freshH h V N)):Ev (callF tab n 42 [.loc 30,spot,.tup [seg [69],seg [81]]] h) Q X:=by
 refine c_run (fi:=Z42) (ρ:=[some (.loc 30),some spot,some (.tup [seg [69],seg [81]]),none,none,none]) rfl rfl (by omega) fun m hm=>?_
 dsimp! only [Z42,c.at]
 refine names2 (by omega) ?_
 simp_all! only [a_attr,m_meth,fget,nget,find,cl5,cl6,cl7,cl8,cl9,cl10,i_loc,i_key,reduceCtorEq,Option.isSome_some,Option.isSome_none,c.at]
 refine vpath_E c (.inr rfl) (by omega) ?_
 dsimp! only [c.at]
 refine told2 c (by omega) ?_
 simp_all! only [k_some]
 exact adt_E c v v' hl hl' (by omega) kk
theorem plain_K (hn:1≤n)(kk:Q (.int 7) h):Ev (callF tab n 47 [.tup [.str [105,110,116],.int 1,.int 7,.none]] h) Q X:=by
 refine c_run (fi:=Z47) (ρ:=[some (.tup [.str [105,110,116],.int 1,.int 7,.none])]) rfl rfl (by omega) fun m hm=>?_
 simp! only [Z47,q_in,anyEq,eqb_s,Bool.true_or]
 exact kk
theorem withr_u8 {g:D}(hn:2≤n)(kk:Q Ty.u8.d h):Ev (callF tab n 3 [Ty.u8.d,g] h) Q X:=by
 refine c_run (fi:=Z3) (ρ:=[some Ty.u8.d,some g,none]) rfl rfl (by omega) fun m hm=>?_
 simp! only [Z3,i_ty,Ty.kd]
 refine parts_ok (by omega) ?_
 simp! only [Ty.parts]
 exact rebuilt_ok (t:=.u8) (by omega) kk
theorem withr_bool {g:D}(hn:2≤n)(kk:Q Ty.bool.d h):Ev (callF tab n 3 [Ty.bool.d,g] h) Q X:=by
 refine c_run (fi:=Z3) (ρ:=[some Ty.bool.d,some g,none]) rfl rfl (by omega) fun m hm=>?_
 simp! only [Z3,i_ty,Ty.kd]
 refine parts_ok (by omega) ?_
 simp! only [Ty.parts]
 exact rebuilt_ok (t:=.bool) (by omega) kk
theorem erased_u8 (hn:3≤n)(kk:Q Ty.u8.d h):Ev (callF tab n 4 [Ty.u8.d] h) Q X:=by
 refine c_run (fi:=Z4) (ρ:=[some Ty.u8.d]) rfl rfl (by omega) fun m hm=>?_
 simp! only [Z4]
 exact withr_u8 (by omega) kk
theorem value_K {spot:D}(c:Cn B h)(hn:11≤n)(kk:∀w,Q (.tup [.str [99,111,110,115,116],Ty.u8.d,w,.int 7]) h):Ev (callF tab n 44 [.loc 30,.tup [seg [75]],spot] h) Q X:=by
 refine c_run (fi:=Z44) (ρ:=[some (.loc 30),some (.tup [seg [75]]),some spot,none,none,none,none,none,none,none]) rfl rfl (by omega) fun m hm=>?_
 dsimp! only [Z44,s_try,c.at]
 refine names1 (by omega) ?_
 simp_all! only [a_attr,m_meth,fget,nget,find,cl5,cl6,cl7,cl8,cl9,cl10,i_loc,i_key,reduceCtorEq,Option.isSome_some,Option.isSome_none,c.at]
 refine find_of c (by simp) (by omega) (fun m Q' X' hm hq=>walk_one c (.inl ⟨rfl,rfl,rfl⟩) (by omega) hq) ?_
 dsimp! only [q_ind,c.at]
 refine erased_u8 (by omega) ?_
 simp_all! only [a_attr,m_meth,fget,nget,find,cl5,cl6,cl7,cl8,cl9,cl10,i_loc,i_key,reduceCtorEq,Option.isSome_some,Option.isSome_none,c.at]
 refine plain_K (by omega) ?_
 exact kk _
theorem value_P {spot:D}(c:Cn B h)(hn:11≤n)(kk:Q (.tup [.str [118,97,114,105,97,110,116],.str [69],.int 0,.tup []]) h):Ev (callF tab n 44 [.loc 30,.tup [seg [80]],spot] h) Q X:=by
 refine c_run (fi:=Z44) (ρ:=[some (.loc 30),some (.tup [seg [80]]),some spot,none,none,none,none,none,none,none]) rfl rfl (by omega) fun m hm=>?_
 dsimp! only [Z44,s_try,c.at]
 refine names1 (by omega) ?_
 simp_all! only [a_attr,m_meth,fget,nget,find,cl5,cl6,cl7,cl8,cl9,cl10,i_loc,i_key,reduceCtorEq,Option.isSome_some,Option.isSome_none,c.at]
 refine find_of c (by simp) (by omega) (fun m Q' X' hm hq=>walk_one c (.inr (.inr ⟨rfl,rfl,rfl⟩)) (by omega) hq) ?_
 dsimp! only [q_ind,c.at]
 exact told1 c (by omega) kk
structure Nm (x:List Nat):Prop where
 a:asc x=true
 l:x.length≤50
 k:x≠[75]
 p:x≠[80]
 pr:anyEq (.str x) prel=false
 g1:x≠[99,114,97,116,101]
 g2:x≠[115,101,108,102]
 g3:x≠[115,117,112,101,114]
 s:x≠[83,101,108,102]
theorem value_x {x:List Nat}{spot:D}(c:Cn B h)(N:Nm x)(hn:11≤n)(kk:Q .none h):Ev (callF tab n 44 [.loc 30,.tup [seg x],spot] h) Q X:=by
 refine c_run (fi:=Z44) (ρ:=[some (.loc 30),some (.tup [seg x]),some spot,none,none,none,none,none,none,none]) rfl rfl (by omega) fun m hm=>?_
 dsimp! only [Z44,s_try,c.at,q_eqs N.a (show asc [83,101,108,102]=true from rfl),N.s]
 refine names1 (by omega) ?_
 simp_all! only [a_attr,m_meth,fget,nget,find,cl5,cl6,cl7,cl8,cl9,cl10,i_loc,i_key,reduceCtorEq,Option.isSome_some,Option.isSome_none,c.at]
 refine find_of c (by simp) (by omega) (fun m Q' X' hm hq=>walk_miss c N.a N.l N.k N.p N.pr N.g1 N.g2 N.g3 (by omega) hq) ?_
 simp! only [tk_ret]
 exact kk
end
section
set_option maxRecDepth 100000
variable {B:Nat→Option AO}{h:Hp}{Q:D→Hp→Prop}{X:Nat→Hp→Prop}{n:Nat}
theorem cunify {a b spot:D}(c:Cn B h)(hn:1≤n)(k:∀(m:Nat) (X':Nat→Hp→Prop),n=m+1→Ev (callF tab m 34 [.loc 31,a,b] h) (fun _ h1=>Q .none h1) X'):Ev (callF tab n 38 [.loc 30,a,b,spot] h) Q X:=by
 refine c_run (fi:=Z38) (ρ:=[some (.loc 30),some a,some b,some spot]) rfl rfl (by omega) fun m hm=>?_
 dsimp! only [Z38,s_try,c.at]
 exact k m _ hm
theorem cresolved {a:D}(c:Cn B h)(hn:1≤n)(k:∀(m:Nat) (X':Nat→Hp→Prop),n=m+1→Ev (callF tab m 30 [.loc 31,a] h) (fun d h1=>Q d h1) X'):Ev (callF tab n 37 [.loc 30,a] h) Q X:=by
 refine c_run (fi:=Z37) (ρ:=[some (.loc 30),some a]) rfl rfl (by omega) fun m hm=>?_
 dsimp! only [Z37,c.at]
 exact k m _ hm
theorem cresolved_ty {t:Ty}(c:Cn B h)(hn:t.dep+4≤n)(kk:Q t.d h):Ev (callF tab n 37 [.loc 30,t.d] h) Q X :=
 cresolved c (by omega) fun m X' hm=>resolved_ok c (by omega) kk
theorem kd_ref {t:Ty}{Q:D→Hp→Prop}:Ev (cmpD .eq (.str t.kd) (.str [114,101,102]) h) Q X=Q (.bool t.isRef) h:=by
 rw [q_eqs (by cases t<;>rfl) rfl]
 cases t<;>rfl
theorem thr_loop (c:Cn B h){m:Nat}{cur:Option D}{X:Nat→Ve→Hp→Prop}:∀(t:Ty) (j:Nat) (Q:Fl→Ve→Hp→Prop),t.dep < j→t.dep+5≤m→Q .nx [some (.loc 30),cur,some t.bot.d] h →
  WH (callF tab m) (.cmp .eq (.item (.var 2) (.lit (.int 0))) (.lit (.str [114,101,102]))) (.cons (.asn (.n 2) (.meth 10 (.var 0) (.cons (.item (.var 2) (.lit (.int 3))) .nil)))
  .nil) j [some (.loc 30),cur,some t.d] h Q X:=by
 intro t
 induction t with
 |rf b t ih =>
  intro j Q hj hm k
  obtain ⟨j,rfl⟩:∃i,j=i+1:=⟨j - 1,by omega⟩
  unfold Ty.dep at hj hm
  have e:(Ty.rf b t).d=.tup [.str [114,101,102],.none,.bool b,t.d]:=rfl
  rw [wh_succ]
  dsimp! only [e,c.at]
  refine cresolved_ty c (by omega) ?_
  exact ih j Q (by omega) (by omega) k
 |_ =>
  intro j Q hj hm k
  obtain ⟨j,rfl⟩:∃i,j=i+1:=⟨j - 1,by omega⟩
  rw [wh_succ]
  simp! only [i_ty,kd_ref,Ty.isRef]
  exact k
theorem through_ok {t:Ty}(c:Cn B h)(ht:t.dep≤6)(hn:t.dep+6≤n)(kk:Q t.bot.d h):Ev (callF tab n 25 [.loc 30,t.d] h) Q X:=by
 refine c_run (fi:=Z25) (ρ:=[some (.loc 30),some t.d,none]) rfl rfl (by omega) fun m hm=>?_
 dsimp! only [Z25,c.at]
 refine cresolved_ty c (by omega) ?_
 simp! only [s_whl]
 refine thr_loop c t 100 _ (by omega) (by omega) ?_
 simp! only [k_some]
 exact kk
theorem f_dz1 {k:List Nat}{d:D}:Ev (biD .dictzip [.tup [.str k],.tup [d]] h) Q X=Q (.loc h.length) (h++[.dict [(k,d)]]):=rfl
theorem f_dz0:Ev (biD .dictzip [.tup [],.tup []] h) Q X=Q (.loc h.length) (h++[.dict []]):=rfl
theorem rows_E1 {t:Ty}(c:Cn B h)(hn:1≤n)(kk:Q (.lst [.tup [.str [48],.tup [.str [112,97,114,97,109],.str [84]]],.tup [.str [49],.tup [.str [105,110,116],.str [117,56]]]]) h):Ev (callF tab n 5 [(Ty.en t).d,.int 1,.loc 19] h) Q X:=by
 refine c_run (fi:=Z5) (ρ:=[some (Ty.en t).d,some (.int 1),some (.loc 19)]) rfl rfl (by omega) fun m hm=>?_
 have e:(Ty.en t).d=.tup [.str [97,100,116],.str [69],.tup [],.tup [t.d]]:=rfl
 dsimp! only [Z5,e,c.at]
 exact kk
theorem rows_E0 {t:Ty}(c:Cn B h)(hn:1≤n)(kk:Q (.lst []) h):Ev (callF tab n 5 [(Ty.en t).d,.int 0,.loc 19] h) Q X:=by
 refine c_run (fi:=Z5) (ρ:=[some (Ty.en t).d,some (.int 0),some (.loc 19)]) rfl rfl (by omega) fun m hm=>?_
 have e:(Ty.en t).d=.tup [.str [97,100,116],.str [69],.tup [],.tup [t.d]]:=rfl
 dsimp! only [Z5,e,c.at]
 exact kk
theorem rows_S (c:Cn B h)(hn:1≤n)(kk:Q (.lst [.tup [.str [97],.tup [.str [98,111,111,108]]],.tup [.str [98],.tup [.str [105,110,116],.str [117,56]]]]) h):Ev (callF tab n 5 [Ty.s.d,.int 0,.loc 19] h) Q X:=by
 refine c_run (fi:=Z5) (ρ:=[some Ty.s.d,some (.int 0),some (.loc 19)]) rfl rfl (by omega) fun m hm=>?_
 dsimp! only [Z5,Ty.d,c.at]
 exact kk
theorem subst_T {l:Nat}{d:D}(e:h[l]? = some (.dict [([84],d)]))(hn:1≤n)(kk:Q d h):Ev (callF tab n 2 [.tup [.str [112,97,114,97,109],.str [84]],.loc l] h) Q X:=by
 refine c_run (fi:=Z2) (ρ:=[some (.tup [.str [112,97,114,97,109],.str [84]]),some (.loc l),none]) rfl rfl (by omega) fun m hm=>?_
 have g:∀{Q:D→Hp→Prop} {X:Nat→Hp→Prop} {z:D},Ev (bmD .get2 (.loc l) [.str [84],z] h) Q X=Q d h:=by
  intro Q X z
  unfold bmD
  simp only [e]
  rfl
 simp! only [Z2,bmK,isK_dict e,g]
 exact kk
theorem subst_u8 {l:D}(hn:2≤n)(kk:Q Ty.u8.d h):Ev (callF tab n 2 [Ty.u8.d,l] h) Q X:=by
 refine c_run (fi:=Z2) (ρ:=[some Ty.u8.d,some l,none]) rfl rfl (by omega) fun m hm=>?_
 simp! only [Z2,i_ty,Ty.kd]
 refine parts_ok (by omega) ?_
 simp! only [Ty.parts]
 exact rebuilt_ok (t:=.u8) (by omega) kk
theorem subst_bool {l:D}(hn:2≤n)(kk:Q Ty.bool.d h):Ev (callF tab n 2 [Ty.bool.d,l] h) Q X:=by
 refine c_run (fi:=Z2) (ρ:=[some Ty.bool.d,some l,none]) rfl rfl (by omega) fun m hm=>?_
 simp! only [Z2,i_ty,Ty.kd]
 refine parts_ok (by omega) ?_
 simp! only [Ty.parts]
 exact rebuilt_ok (t:=.bool) (by omega) kk
theorem withr_T {g:D}(hn:2≤n)(kk:Q (.tup [.str [112,97,114,97,109],.str [84]]) h):Ev (callF tab n 3 [.tup [.str [112,97,114,97,109],.str [84]],g] h) Q X:=by
 refine c_run (fi:=Z3) (ρ:=[some (.tup [.str [112,97,114,97,109],.str [84]]),some g,none]) rfl rfl (by omega) fun m hm=>?_
 simp! only [Z3]
 refine c_run (fi:=Z0) (ρ:=[some (.tup [.str [112,97,114,97,109],.str [84]]),none]) rfl rfl (by omega) fun m hm=>?_
 simp! only [Z0]
 refine c_run (fi:=Z1) (ρ:=[some (.tup [.str [112,97,114,97,109],.str [84]]),some (.lst []),none]) rfl rfl (by omega) fun m hm=>?_
 simp! only [Z1]
 exact kk
theorem fields_E1 {t:Ty}(c:Cn B h)(hn:4≤n)(kk:Q (.lst [.tup [.str [48],t.d],.tup [.str [49],Ty.u8.d]]) (h++[.dict [([84],t.d)],.dict []])):Ev (callF tab n 6 [(Ty.en t).d,.int 1,.loc 19] h) Q X:=by
 refine c_run (fi:=Z6) (ρ:=[some (Ty.en t).d,some (.int 1),some (.loc 19),none,none,none,none,none,none]) rfl rfl (by omega) fun m hm=>?_
 have e:(Ty.en t).d=.tup [.str [97,100,116],.str [69],.tup [],.tup [t.d]]:=rfl
 have c2:Cn B (h++[AO.dict [([84],t.d)],.dict []]):=c.app _
 have d2:(h++[AO.dict [([84],t.d)],.dict []])[h.length]? = some (.dict [([84],t.d)]):=by simp
 dsimp! only [Z6,e,c.at]
 rw [f_dz1]
 simp! only [at_of (c.app _).a26,fget]
 rw [f_dz0,List.append_assoc,s_deff]
 simp! only [at_of c2.a0]
 rw [←e]
 refine rows_E1 c2 (by omega) ?_
 simp! only [k_some]
 refine withr_T (by omega) ?_
 simp_all! only [k_some]
 refine subst_T d2 (by omega) ?_
 simp_all! only [k_some]
 refine withr_u8 (by omega) ?_
 simp_all! only [k_some]
 refine subst_u8 (by omega) ?_
 exact kk
theorem fields_E0 {t:Ty}(c:Cn B h)(hn:4≤n)(kk:Q (.lst []) (h++[.dict [([84],t.d)],.dict []])):Ev (callF tab n 6 [(Ty.en t).d,.int 0,.loc 19] h) Q X:=by
 refine c_run (fi:=Z6) (ρ:=[some (Ty.en t).d,some (.int 0),some (.loc 19),none,none,none,none,none,none]) rfl rfl (by omega) fun m hm=>?_
 have e:(Ty.en t).d=.tup [.str [97,100,116],.str [69],.tup [],.tup [t.d]]:=rfl
 have c2:Cn B (h++[AO.dict [([84],t.d)],.dict []]):=c.app _
 dsimp! only [Z6,e,c.at]
 rw [f_dz1]
 simp! only [at_of (c.app _).a26,fget]
 rw [f_dz0,List.append_assoc,s_deff]
 simp! only [at_of c2.a0]
 rw [←e]
 refine rows_E0 c2 (by omega) ?_
 simp! only [k_some]
 exact kk
theorem fields_S (c:Cn B h)(hn:4≤n)(kk:Q (.lst [.tup [.str [97],Ty.bool.d],.tup [.str [98],Ty.u8.d]]) (h++[.dict [],.dict []])):Ev (callF tab n 6 [Ty.s.d,.int 0,.loc 19] h) Q X:=by
 refine c_run (fi:=Z6) (ρ:=[some Ty.s.d,some (.int 0),some (.loc 19),none,none,none,none,none,none]) rfl rfl (by omega) fun m hm=>?_
 have e:Ty.s.d=.tup [.str [97,100,116],.str [83],.tup [],.tup []]:=rfl
 have c2:Cn B (h++[AO.dict [],.dict []]):=c.app _
 dsimp! only [Z6,e,c.at]
 rw [f_dz0]
 simp! only [at_of (c.app _).a27,fget]
 rw [f_dz0,List.append_assoc,s_deff]
 simp! only [at_of c2.a0]
 rw [←e]
 refine rows_S c2 (by omega) ?_
 simp! only [k_some]
 refine withr_bool (by omega) ?_
 simp_all! only [k_some]
 refine subst_bool (by omega) ?_
 simp_all! only [k_some]
 refine withr_u8 (by omega) ?_
 simp_all! only [k_some]
 refine subst_u8 (by omega) ?_
 exact kk
end
section
set_option maxRecDepth 100000
def xn (n:Nat):List Nat:=120::strI n
def wayOf (r m:Bool)(md:Mo'):Mo':=if r then (if m then .mt else .rf) else if m then .mv else md
def heldT (w:Mo')(t:Ty):Ty:=match w with
 |.mv=>t
 |.rf=>.rf false t
 |.mt=>.rf true t
abbrev nameD (x:List Nat)(r m:Bool)(i:D):D:=.tup [.str [110,97,109,101],.int 1,.str x,.bool r,.bool m,i]
abbrev bindD (t:Ty)(n:Nat)(w:Mo')(q:D):D:=.tup [.str [98,105,110,100],t.d,.int n,w.d,q]
abbrev rowD (n:Nat)(t:Ty)(r m:Bool)(md:Mo'):D:=.lst [.str (xn n),(heldT (wayOf r m md) t).d,.bool (m&&!r)]
abbrev derD (t:Ty)(q:D):D:=.tup [.str [100,101,114,101,102],t.d,q]
abbrev litD (v:D):D:=.tup [.str [108,105,116],.int 1,v]
abbrev conD (t:Ty)(v:D):D:=.tup [.str [99,111,110,115,116],t.d,v]
abbrev wilD:D:=.tup [.str [119,105,108,100],.int 1]
abbrev refD (b:Bool)(p:D):D:=.tup [.str [114,101,102],.int 1,.bool b,p]
abbrev tupD (ps:List D):D:=.tup [.str [116,117,112,108,101],.int 1,.tup ps]
abbrev fldD (t:Ty)(qs:List D):D:=.tup [.str [102,105,101,108,100,115],t.d,.tup qs]
abbrev rngD:D:=.tup [.str [114,97,110,103,101],.int 1,.int 3,.int 200]
abbrev fpD (path told:D)(b:Bool):D:=.tup [.str [102,105,101,108,100,115],.int 1,path,told,.bool b]
abbrev varpD (path parts:D):D:=.tup [.str [118,97,114,105,97,110,116],.int 1,path,parts]
abbrev varqD (t:Ty)(k:Int)(qs:List D):D:=.tup [.str [118,97,114,105,97,110,116],t.d,.int k,.tup qs]
abbrev orpD (ps:List D):D:=.tup [.str [111,114],.int 1,.tup ps]
abbrev orqD (t:Ty)(qs:List D):D:=.tup [.str [111,114],t.d,.tup qs]
abbrev pS:D:=.tup [seg [83]]
abbrev pQ:D:=.tup [seg [69],seg [81]]
def litQ (v:Int):Ty→D
 |.rf b t=>derD (.rf b t) (litQ v t)
 |t=>conD t (.int v)
def uniQ:Ty→D
 |.rf b t=>derD (.rf b t) (uniQ t)
 |t=>varqD t 0 []
def isEn:Ty→Bool
 |.en _=>true
 |_=>false
inductive Core:D→Prop
 |lit (v:D):Core (litD v)
 |rng:Core rngD
 |tup (ps:List D):Core (tupD ps)
 |fld (a b:D) (c:Bool):Core (fpD a b c)
 |var (a b:D):Core (varpD a b)
inductive Rp:Nat→Ty→Mo'→Nat→D→D→List D→Prop
 |wild {d t md n}:Rp d t md n wilD (.tup [.str [119,105,108,100],t.d]) []
 |name {d t md n} (r m:Bool):(r=true→md=.mv)→Rp d t md n (nameD (xn n) r m .none) (bindD t n (wayOf r m md) .none) [rowD n t r m md]
 |nin {d e t md n p p' q rs} (r m:Bool):(r=true→md=.mv)→d+3≤e→p≠.none→Rp d t md (n+1) (.tup p') q rs→p=.tup p'→Rp e t md n (nameD (xn n) r m p) (bindD t n (wayOf r m md) q) (rowD n t r m md::rs)
 |ref {d e b t md n p q rs}:d+3≤e→Rp d t .mv n p q rs→Rp e (.rf b t) md n (refD b p) (derD (.rf b t) q) rs
 |der {d e b t md n p q rs}:d+3≤e→Core p→Rp d t (md.beh b) n p q rs→Rp e (.rf b t) md n p (derD (.rf b t) q) rs
 |litb {d md n} (b:Bool):Rp d .bool md n (litD (.bool b)) (conD .bool (.bool b)) []
 |liti {d md n} (i:Int):Rp d .u8 md n (litD (.int i)) (conD .u8 (.int i)) []
 |rng {d md n}:Rp d .u8 md n rngD (.tup [.str [114,97,110,103,101],Ty.u8.d,.int 3,.int 200]) []
 |tup {d e t md n p q rs p' q' rs'}:d+3≤e→Rp d t md n p q rs→Rp d .u8 md (n+rs.length) p' q' rs'→Rp e (.pair t) md n (tupD [p,p']) (fldD (.pair t) [q,q']) (rs++rs')
 |fs1 {d e md n p q rs}:d+3≤e→Rp d .bool md n p q rs→Rp e .s md n (fpD pS (.tup [.tup [.str [97],p]]) true) (fldD .s [q,.tup [.str [119,105,108,100],Ty.u8.d]]) rs
 |fs2 {d e md n p q rs p' q' rs'}:d+3≤e→Rp d .bool md n p q rs→Rp d .u8 md (n+rs.length) p' q' rs'→Rp e .s md n (fpD pS (.tup [.tup [.str [97],p],.tup [.str [98],p']]) false) (fldD .s [q,q']) (rs++rs')
 |vq {d e t md n p q rs p' q' rs'}:d+3≤e→Rp d t md n p q rs→Rp d .u8 md (n+rs.length) p' q' rs'→Rp e (.en t) md n (varpD pQ (.tup [p,p'])) (varqD (.en t) 1 [q,q']) (rs++rs')
 |cK {d t md n}:t.bot=.u8→Rp d t md n (nameD [75] false false .none) (litQ 7 t) []
 |uP {d t md n}:isEn t.bot=true→Rp d t md n (nameD [80] false false .none) (uniQ t) []
 |orl {d t md n} (i j:Int):t.bot=.u8→Rp d t md n (orpD [litD (.int i),litD (.int j)]) (orqD t [litQ i t,litQ j t]) []
 |orn {d t md n} (i j:Int) (r m:Bool):t.bot=.u8→(r=true→md=.mv)→Rp d t md n (orpD [nameD (xn n) r m (litD (.int i)),nameD (xn n) r m (litD (.int j))]) (orqD t [bindD t n (wayOf r m md) (litQ i t),bindD t n (wayOf r m md) (litQ j t)]) [rowD n t r m md]
variable {B:Nat→Option AO}{h:Hp}{Q:D→Hp→Prop}{X:Nat→Hp→Prop}{n:Nat}{V L:List D}{kn hr:Nat}{K H:List (List Nat×D)}
theorem rd_wild {t:Ty}{md:D}(r:Rd B h V L kn hr K H)(hn:1≤n)(kk:Q (.tup [.str [119,105,108,100],t.d]) h):Ev (callF tab n 9 [.loc 36,wilD,t.d,md] h) Q X:=by
 refine c_run (fi:=Z9) (ρ:=[some (.loc 36),some wilD,some t.d,some md,none,none,none]) rfl rfl hn fun m hm=>?_
 simp! only [Z9]
 exact kk
theorem rd_name {t:Ty}{md i:D}{x:List Nat}{a b:Bool}(r:Rd B h V L kn hr K H)(hn:1≤n)(kk:∀m,n=m+1→Ev (callF tab m 10 [.loc 36,nameD x a b i,t.d,md] h) Q X):Ev (callF tab n 9 [.loc 36,nameD x a b i,t.d,md] h) Q X:=by
 refine c_run (fi:=Z9) (ρ:=[some (.loc 36),some (nameD x a b i),some t.d,some md,none,none,none]) rfl rfl hn fun m hm=>?_
 simp! only [Z9,m_meth,at_of r.rd,cl5,nget]
 exact kk m hm
theorem rd_or {t:Ty}{md:D}{ps:List D}(r:Rd B h V L kn hr K H)(hn:1≤n)(kk:∀m,n=m+1→Ev (callF tab m 14 [.loc 36,orpD ps,t.d,md] h) Q X):Ev (callF tab n 9 [.loc 36,orpD ps,t.d,md] h) Q X:=by
 refine c_run (fi:=Z9) (ρ:=[some (.loc 36),some (orpD ps),some t.d,some md,none,none,none]) rfl rfl hn fun m hm=>?_
 simp! only [Z9,m_meth,at_of r.rd,cl5,nget]
 exact kk m hm
theorem rd_ref {t:Ty}{md p:D}{b:Bool}(r:Rd B h V L kn hr K H)(hn:1≤n)(kk:∀m,n=m+1→Ev (callF tab m 15 [.loc 36,refD b p,t.d] h) Q X):Ev (callF tab n 9 [.loc 36,refD b p,t.d,md] h) Q X:=by
 refine c_run (fi:=Z9) (ρ:=[some (.loc 36),some (refD b p),some t.d,some md,none,none,none]) rfl rfl hn fun m hm=>?_
 simp! only [Z9,m_meth,at_of r.rd,cl5,nget]
 exact kk m hm
theorem ref_ok {t:Ty}{p:D}{b:Bool}(r:Rd B h V L kn hr K H)(hn:t.dep+6≤n)(kk:∀m X',n=m+1→Ev (callF tab m 9 [.loc 36,p,t.d,Mo'.mv.d] h) (fun d h'=>Q (derD (.rf b t) d) h') X'):Ev (callF tab n 15 [.loc 36,refD b p,(Ty.rf b t).d] h) Q X:=by
 refine c_run (fi:=Z15) (ρ:=[some (.loc 36),some (refD b p),some (Ty.rf b t).d,none,none,none,none,none]) rfl rfl (by omega) fun m hm=>?_
 have e:(Ty.rf b t).d=.tup [.str [114,101,102],.none,.bool b,t.d]:=rfl
 simp! only [Z15,a_attr,m_meth,at_of r.rd,fget,cl5,nget,at_of r.c.a30,cl7]
 refine cresolved_ty r.c (by unfold Ty.dep;omega) ?_
 have hb:∀{Q:D→Hp→Prop} {X:Nat→Hp→Prop},Ev (cmpD .ne (.bool b) (.bool b) h) Q X=Q (.bool false) h:=by
  intro Q X
  rw [q_ne rfl rfl rfl]
  cases b<;>rfl
 simp! only [e,hb,m_meth,at_of r.rd,cl5,nget]
 exact kk m _ hm
theorem rd_der {t:Ty}{p:D}{b:Bool}{md:Mo'}(cp:Core p)(r:Rd B h V L kn hr K H)(hn:t.dep+6≤n)(kk:∀m X',n=m+1→Ev (callF tab m 9 [.loc 36,p,t.d,(md.beh b).d] h) (fun d h'=>Q (derD (.rf b t) d) h') X'):Ev (callF tab n 9 [.loc 36,p,(Ty.rf b t).d,md.d] h) Q X:=by
 refine c_run (fi:=Z9) (ρ:=[some (.loc 36),some p,some (Ty.rf b t).d,some md.d,none,none,none]) rfl rfl (by omega) fun m hm=>?_
 have e:(Ty.rf b t).d=.tup [.str [114,101,102],.none,.bool b,t.d]:=rfl
 cases cp <;>
 ·simp! only [Z9,a_attr,m_meth,at_of r.rd,fget,cl5,nget,at_of r.c.a30,cl7]
  refine cresolved_ty r.c (by unfold Ty.dep;omega) ?_
  simp! only [e,m_meth,at_of r.rd,cl5,nget]
  refine behind_ok (by omega) ?_
  exact kk m _ hm
end
section
set_option maxRecDepth 100000
variable {B:Nat→Option AO}{h:Hp}{Q:D→Hp→Prop}{X:Nat→Hp→Prop}{n:Nat}{V L:List D}{kn hr:Nat}{K H:List (List Nat×D)}
theorem ltype_int {i:Int}{spot:D}(r:Rd B h V L kn hr K H)(hn:5≤n)(kk:Q Ty.u8.d h):Ev (callF tab n 16 [.loc 36,.int i,Ty.u8.d,spot] h) Q X:=by
 refine c_run (fi:=Z16) (ρ:=[some (.loc 36),some (.int i),some Ty.u8.d,some spot]) rfl rfl (by omega) fun m hm=>?_
 simp! only [Z16,i_ty,Ty.kd,a_attr,m_meth,at_of r.rd,fget,cl5,nget,at_of r.c.a30,cl7]
 exact cresolved_ty r.c (by unfold Ty.dep;omega) kk
theorem ltype_bool {b:Bool}{spot:D}(r:Rd B h V L kn hr K H)(hn:6≤n)(kk:Q Ty.bool.d (h++[.list []])):Ev (callF tab n 16 [.loc 36,.bool b,Ty.bool.d,spot] h) Q X:=by
 refine c_run (fi:=Z16) (ρ:=[some (.loc 36),some (.bool b),some Ty.bool.d,some spot]) rfl rfl (by omega) fun m hm=>?_
 simp! only [Z16,i_ty,Ty.kd,a_attr,m_meth,at_of r.rd,fget,cl5,nget,at_of r.c.a30,cl7]
 refine cunify r.c (by omega) fun m' X' hm'=>?_
 refine unify_same (t:=.bool) r.c (by unfold Ty.dep;omega) (by omega) ?_
 simp! only [a_attr,m_meth,at_of (r.app _).rd,fget,cl5,nget,at_of (r.app _).c.a30,cl7]
 exact cresolved_ty (r.app _).c (by unfold Ty.dep;omega) kk
theorem rd_int {i:Int}{md:D}(r:Rd B h V L kn hr K H)(hn:7≤n)(kk:Q (conD .u8 (.int i)) h):Ev (callF tab n 9 [.loc 36,litD (.int i),Ty.u8.d,md] h) Q X:=by
 refine c_run (fi:=Z9) (ρ:=[some (.loc 36),some (litD (.int i)),some Ty.u8.d,some md,none,none,none]) rfl rfl (by omega) fun m hm=>?_
 simp! only [Z9,a_attr,m_meth,at_of r.rd,fget,cl5,nget,at_of r.c.a30,cl7]
 refine cresolved_ty r.c (by unfold Ty.dep;omega) ?_
 simp! only [i_ty,Ty.kd,m_meth,at_of r.rd,cl5,nget]
 refine ltype_int r (by omega) ?_
 exact kk
theorem rd_bool {b:Bool}{md:D}(r:Rd B h V L kn hr K H)(hn:7≤n)(kk:Q (conD .bool (.bool b)) (h++[.list []])):Ev (callF tab n 9 [.loc 36,litD (.bool b),Ty.bool.d,md] h) Q X:=by
 refine c_run (fi:=Z9) (ρ:=[some (.loc 36),some (litD (.bool b)),some Ty.bool.d,some md,none,none,none]) rfl rfl (by omega) fun m hm=>?_
 simp! only [Z9,a_attr,m_meth,at_of r.rd,fget,cl5,nget,at_of r.c.a30,cl7]
 refine cresolved_ty r.c (by unfold Ty.dep;omega) ?_
 simp! only [i_ty,Ty.kd,m_meth,at_of r.rd,cl5,nget]
 refine ltype_bool r (by omega) ?_
 exact kk
theorem rd_rng {md:D}(r:Rd B h V L kn hr K H)(hn:8≤n)(kk:Q (.tup [.str [114,97,110,103,101],Ty.u8.d,.int 3,.int 200]) h):Ev (callF tab n 9 [.loc 36,rngD,Ty.u8.d,md] h) Q X:=by
 refine c_run (fi:=Z9) (ρ:=[some (.loc 36),some rngD,some Ty.u8.d,some md,none,none,none]) rfl rfl (by omega) fun m hm=>?_
 simp! only [Z9,a_attr,m_meth,at_of r.rd,fget,cl5,nget,at_of r.c.a30,cl7]
 refine cresolved_ty r.c (by unfold Ty.dep;omega) ?_
 simp! only [i_ty,Ty.kd,m_meth,at_of r.rd,cl5,nget]
 refine c_run (fi:=Z17) (ρ:=[some (.loc 36),some rngD,some Ty.u8.d,none,none,none,none,none]) rfl rfl (by omega) fun m hm=>?_
 simp! only [Z17,m_meth,at_of r.rd,cl5,nget]
 refine ltype_int r (by omega) ?_
 simp_all! only [k_some]
 exact kk
theorem rd_litQ {i:Int}(r:Rd B h V L kn hr K H):∀{t:Ty} {md:Mo'} {n:Nat} {Q:D→Hp→Prop} {X:Nat→Hp→Prop},t.bot=.u8→2 * t.dep+8≤n→Q (litQ i t) h→Ev (callF tab n 9 [.loc 36,litD (.int i),t.d,md.d] h) Q X:=by
 intro t
 induction t with
 |rf b t ih =>
  intro md n Q X hb hn kk
  unfold Ty.dep at hn
  refine rd_der (.lit _) r (by omega) fun m X' hm=>?_
  exact ih hb (by omega) kk
 |u8 =>
  intro md n Q X hb hn kk
  exact rd_int r (by unfold Ty.dep at hn;omega) kk
 |bool=>intro md n Q X hb;cases hb
 |s=>intro md n Q X hb;cases hb
 |pair t=>intro md n Q X hb;cases hb
 |en t=>intro md n Q X hb;cases hb
def Mid (h:Hp)(P:Prop):Prop:=at_ h 36 fun o=>instK o fun c _=>c=5∧P
theorem Mid.mono {P P':Prop}(z:Mid h P)(f:P→P'):Mid h P':=by
 unfold Mid at_ at *
 cases e:h[36]? with
 |none=>rw [e] at z;exact z
 |some o =>
  rw [e] at z
  cases o with
  |inst c fs=>exact ⟨z.1,f z.2⟩
  |_=>exact z
theorem Rd.mid {P:Prop}(r:Rd B h V L kn hr K H)(p:P):Mid h P:=by
 unfold Mid
 rw [at_of r.rd,k_inst]
 exact ⟨rfl,p⟩
theorem parts2t {p p' t t' md:D}(r:Rd B h V L kn hr K H)(hn:1≤n)(kk:∀m X',n=m+1→Ev (callF tab m 9 [.loc 36,p,t,md] h) (fun d h1=>Mid h1 (Ev (callF tab m 9 [.loc 36,p',t',md] h1) (fun d' h2=>Q (.tup [d,d']) h2) X')) X') :
  Ev (callF tab n 19 [.loc 36,.tup [p,p'],.tup [t,t'],md] h) Q X:=by
 refine c_run (fi:=Z19) (ρ:=[some (.loc 36),some (.tup [p,p']),some (.tup [t,t']),some md,none,none]) rfl rfl (by omega) fun m hm=>?_
 simp! only [Z19,compzK,items,zipD,m_meth,at_of r.rd,cl5,nget]
 refine (kk m _ hm).mono (fun d h1 z=>?_) fun _ _ z=>z
 unfold Mid at z
 unfold at_ at z ⊢
 cases e:h1[36]? with
 |none=>rw [e] at z;exact z
 |some o =>
  rw [e] at z
  simp only at z ⊢
  cases o with
  |inst c fs =>
   obtain ⟨rfl,z⟩:=z
   simp! only [cl5,nget]
   exact z
  |_=>exact z
theorem parts2l {p p' t t' md:D}(r:Rd B h V L kn hr K H)(hn:1≤n)(kk:∀m X',n=m+1→Ev (callF tab m 9 [.loc 36,p,t,md] h) (fun d h1=>Mid h1 (Ev (callF tab m 9 [.loc 36,p',t',md] h1) (fun d' h2=>Q (.tup [d,d']) h2) X')) X') :
  Ev (callF tab n 19 [.loc 36,.tup [p,p'],.lst [t,t'],md] h) Q X:=by
 refine c_run (fi:=Z19) (ρ:=[some (.loc 36),some (.tup [p,p']),some (.lst [t,t']),some md,none,none]) rfl rfl (by omega) fun m hm=>?_
 simp! only [Z19,compzK,items,zipD,m_meth,at_of r.rd,cl5,nget]
 refine (kk m _ hm).mono (fun d h1 z=>?_) fun _ _ z=>z
 unfold Mid at z
 unfold at_ at z ⊢
 cases e:h1[36]? with
 |none=>rw [e] at z;exact z
 |some o =>
  rw [e] at z
  simp only at z ⊢
  cases o with
  |inst c fs =>
   obtain ⟨rfl,z⟩:=z
   simp! only [cl5,nget]
   exact z
  |_=>exact z
theorem parts0 {md:D}(hn:1≤n)(kk:Q (.tup []) h):Ev (callF tab n 19 [.loc 36,.tup [],.lst [],md] h) Q X:=by
 refine c_run (fi:=Z19) (ρ:=[some (.loc 36),some (.tup []),some (.lst []),some md,none,none]) rfl rfl (by omega) fun m hm=>?_
 simp! only [Z19,compzK,items,zipD]
 exact kk
theorem rd_tup {t:Ty}{p p':D}{md:Mo'}(r:Rd B h V L kn hr K H)(hn:t.dep+6≤n)(kk:∀m X',n=m+3→Ev (callF tab m 9 [.loc 36,p,t.d,md.d] h) (fun d h1=>Mid h1 (Ev (callF tab m 9 [.loc 36,p',Ty.u8.d,md.d] h1) (fun d' h2=>Q (fldD (.pair t) [d,d']) h2) X')) X') :
  Ev (callF tab n 9 [.loc 36,tupD [p,p'],(Ty.pair t).d,md.d] h) Q X:=by
 refine c_run (fi:=Z9) (ρ:=[some (.loc 36),some (tupD [p,p']),some (Ty.pair t).d,some md.d,none,none,none]) rfl rfl (by omega) fun m hm=>?_
 simp! only [Z9,a_attr,m_meth,at_of r.rd,fget,cl5,nget,at_of r.c.a30,cl7]
 refine cresolved_ty r.c (by unfold Ty.dep;omega) ?_
 have e:(Ty.pair t).d=.tup [.str [116,117,112,108,101],.tup [t.d,Ty.u8.d]]:=rfl
 simp! only [i_ty,Ty.kd,m_meth,at_of r.rd,cl5,nget]
 refine c_run (fi:=Z18) (ρ:=[some (.loc 36),some (tupD [p,p']),some (Ty.pair t).d,some md.d,none,none]) rfl rfl (by omega) fun m' hm'=>?_
 simp! only [Z18,e,m_meth,at_of r.rd,cl5,nget]
 refine parts2t r (by omega) fun m2 X2 hm2=>?_
 exact kk m2 _ (by omega)
theorem e_at0 {a b:AO}:(h++[a,b])[h.length]? = some a:=by simp
theorem e_at1 {a b:AO}:(h++[a,b])[h.length+1]? = some b:=by simp
theorem e_set0 {a b a':AO}:(h++[a,b]).set h.length a'=h++[a',b]:=by rw [List.set_append];simp
theorem e_set1 {a b b':AO}:(h++[a,b]).set (h.length+1) b'=h++[a,b']:=by rw [List.set_append_right _ _ (by omega)];simp
theorem p_dpop {l:Nat}{x:List Nat}{d v:D}{kvs:List (List Nat×D)}(e:h[l]? = some (.dict kvs))(ef:find kvs x=some v)(hl:kvs.length≤most):Ev (bmD .dpop2 (.loc l) [.str x,d] h) Q X=Q v (h.set l (.dict (dropK kvs x))):=by
 unfold bmD;simp only [e,ef,hl,if_true];rfl
theorem p_dpop0 {l:Nat}{x:List Nat}{d:D}{kvs:List (List Nat×D)}(e:h[l]? = some (.dict kvs))(ef:find kvs x=none):Ev (bmD .dpop2 (.loc l) [.str x,d] h) Q X=Q d h:=by
 unfold bmD;simp only [e,ef];rfl
theorem st_key {l:Nat}{x:List Nat}{d:D}{kvs:List (List Nat×D)}(e:h[l]? = some (.dict kvs))(hl:kvs.length≤most):storeItem (.loc l) (.str x) d h=some (h.set l (.dict (putK kvs x d))):=by
 unfold storeItem
 simp only [e,hl,if_true]
theorem names_1 {p:D}(hn:1≤n)(kk:Q (.tup [p,.tup [.str [119,105,108,100],.int 1]]) (h++[.dict [],.list [p,.tup [.str [119,105,108,100],.int 1]]])) :
  Ev (callF tab n 22 [.loc 36,fpD pS (.tup [.tup [.str [97],p]]) true,.lst [.tup [.str [97],Ty.bool.d],.tup [.str [98],Ty.u8.d]]] h) Q X:=by
 refine c_run (fi:=Z22) (ρ:=[some (.loc 36),some (fpD pS (.tup [.tup [.str [97],p]]) true),some (.lst [.tup [.str [97],Ty.bool.d],.tup [.str [98],Ty.u8.d]]),none,none,none,none,none,none,none,none,none,none]) rfl rfl (by omega) fun m hm=>?_
 have a0:(h++[AO.dict []])[h.length]? = some (.dict []):=end_at
 have a1:(h++[AO.dict [([97],p)],.list []])[h.length]? = some (.dict [([97],p)]):=e_at0
 have a2:(h++[AO.dict [],.list []])[h.length+1]? = some (.list []):=e_at1
 have a3:(h++[AO.dict [],.list [p]])[h.length]? = some (.dict []):=e_at0
 have a4:(h++[AO.dict [],.list [p]])[h.length+1]? = some (.list [p]):=e_at1
 have a5:(h++[AO.dict [],.list [p,.tup [.str [119,105,108,100],.int 1]]])[h.length]? = some (.dict []):=e_at0
 have a6:(h++[AO.dict [],.list [p,.tup [.str [119,105,108,100],.int 1]]])[h.length+1]? = some (.list [p,.tup [.str [119,105,108,100],.int 1]]):=e_at1
 have b1:(h++[AO.dict [([97],p)],.list []])[h.length+1]? = some (.list []):=e_at1
 simp! only [Z22,List.zip_nil_left,putAll,items,fr_cons,fr_nil,q_ind,q_nind,at_of a0,find,Option.isSome_none,Option.isSome_some,st_key a0 (by simp),putK,set_end,List.length_append,List.append_assoc,at_of a1]
 simp! only [bmK,isK_list b1,isK_dict a1,p_dpop a1 (x:=[97]) (v:=p) rfl (by simp [most]),dropK,e_set0,p_app a2 (by simp [most]),e_set1]
 rw [at_of a3]
 simp! only [find,Option.isSome_none,bmK,isK_list a4,isK_dict a3,p_dpop0 a3 (x:=[98]) rfl,p_app a4 (by simp [most]),e_set1,f_sorted,at_of a5,sortS,fr_nil,sq_loc,at_of a6]
 exact kk
theorem names_2 {p p':D}(hn:1≤n)(kk:Q (.tup [p,p']) (h++[.dict [],.list [p,p']])) :
  Ev (callF tab n 22 [.loc 36,fpD pS (.tup [.tup [.str [97],p],.tup [.str [98],p']]) false,.lst [.tup [.str [97],Ty.bool.d],.tup [.str [98],Ty.u8.d]]] h) Q X:=by
 refine c_run (fi:=Z22) (ρ:=[some (.loc 36),some (fpD pS (.tup [.tup [.str [97],p],.tup [.str [98],p']]) false),some (.lst [.tup [.str [97],Ty.bool.d],.tup [.str [98],Ty.u8.d]]),none,none,none,none,none,none,none,none,none,none]) rfl rfl (by omega) fun m hm=>?_
 have a0:(h++[AO.dict []])[h.length]? = some (.dict []):=end_at
 have a0':(h++[AO.dict [([97],p)]])[h.length]? = some (.dict [([97],p)]):=end_at
 have a1:(h++[AO.dict [([97],p),([98],p')],.list []])[h.length]? = some (.dict [([97],p),([98],p')]):=e_at0
 have b1:(h++[AO.dict [([97],p),([98],p')],.list []])[h.length+1]? = some (.list []):=e_at1
 have a2:(h++[AO.dict [([98],p')],.list []])[h.length+1]? = some (.list []):=e_at1
 have a3:(h++[AO.dict [([98],p')],.list [p]])[h.length]? = some (.dict [([98],p')]):=e_at0
 have a4:(h++[AO.dict [([98],p')],.list [p]])[h.length+1]? = some (.list [p]):=e_at1
 have a4':(h++[AO.dict [],.list [p]])[h.length+1]? = some (.list [p]):=e_at1
 have a5:(h++[AO.dict [],.list [p,p']])[h.length]? = some (.dict []):=e_at0
 have a6:(h++[AO.dict [],.list [p,p']])[h.length+1]? = some (.list [p,p']):=e_at1
 simp! only [Z22,List.zip_nil_left,putAll,items,fr_cons,fr_nil,q_ind,q_nind,at_of a0,find,Option.isSome_none,Option.isSome_some,st_key a0 (by simp),putK,set_end,List.length_append,List.append_assoc,at_of a0',st_key a0' (by simp [most]),at_of a1]
 simp! only [bmK,isK_list b1,isK_dict a1,p_dpop a1 (x:=[97]) (v:=p) rfl (by simp [most]),dropK,e_set0,p_app a2 (by simp [most]),e_set1]
 rw [at_of a3]
 simp! only [find,Option.isSome_some,bmK,isK_list a4,isK_dict a3,p_dpop a3 (x:=[98]) (v:=p') rfl (by simp [most]),dropK,e_set0,p_app a4' (by simp [most]),e_set1,f_sorted,at_of a5,sortS,fr_nil,sq_loc,at_of a6]
 exact kk
theorem places_2 {a b p p':D}{path:D}(hn:1≤n)(kk:Q (.tup [p,p']) h):Ev (callF tab n 21 [.loc 36,varpD path (.tup [p,p']),.str [116,117,112,108,101],.lst [a,b]] h) Q X:=by
 refine c_run (fi:=Z21) (ρ:=[some (.loc 36),some (varpD path (.tup [p,p'])),some (.str [116,117,112,108,101]),some (.lst [a,b])]) rfl rfl (by omega) fun m hm=>?_
 simp! only [Z21]
 exact kk
theorem places_0 {path:D}(hn:1≤n)(kk:Q (.tup []) h):Ev (callF tab n 21 [.loc 36,varpD path (.tup []),.str [117,110,105,116],.lst []] h) Q X:=by
 refine c_run (fi:=Z21) (ρ:=[some (.loc 36),some (varpD path (.tup [])),some (.str [117,110,105,116]),some (.lst [])]) rfl rfl (by omega) fun m hm=>?_
 simp! only [Z21]
 exact kk
end
section
set_option maxRecDepth 100000
variable {B:Nat→Option AO}{h:Hp}{Q:D→Hp→Prop}{X:Nat→Hp→Prop}{n:Nat}{V L:List D}{kn hr:Nat}{K H:List (List Nat×D)}
theorem Rd.fresh {N:List D}(r:Rd B h V L kn hr K H)(e:h[33]? = some (.list N))(hN:N.length=V.length):Rd B (freshH h V N) (V++[.none]) L kn hr K H where
 c:=(r.c.set (.inl (by omega))).set (.inl (by omega))
 v:=set_at (set_self r.v) (by decide)
 num:=⟨N++[.bool false],set_self (set_at e (by decide)),by simp [hN]⟩
 l:=set_at (set_at r.l (by decide)) (by decide)
 sc:=let ⟨k,e,z⟩:=r.sc;⟨k,set_at (set_at e (by decide)) (by decide),z⟩
 rd:=set_at (set_at r.rd (by decide)) (by decide)
 k:=set_at (set_at r.k (by have:=r.kl;omega)) (by have:=r.kl;omega)
 hh:=set_at (set_at r.hh (by have:=r.hl;omega)) (by have:=r.hl;omega)
 kl:=r.kl
 hl:=r.hl
 ne:=r.ne
theorem Rd.setV {V':List D}(r:Rd B h V L kn hr K H)(hV:V'.length=V.length):Rd B (h.set 32 (.list V')) V' L kn hr K H where
 c:=r.c.set (.inl (by omega))
 v:=set_self r.v
 num:=let ⟨N,e,z⟩:=r.num;⟨N,set_at e (by decide),z.trans hV.symm⟩
 l:=set_at r.l (by decide)
 sc:=let ⟨k,e,z⟩:=r.sc;⟨k,set_at e (by decide),z⟩
 rd:=set_at r.rd (by decide)
 k:=set_at r.k (by have:=r.kl;omega)
 hh:=set_at r.hh (by have:=r.hl;omega)
 kl:=r.kl
 hl:=r.hl
 ne:=r.ne
theorem set_last {V:List D}{d:D}:(V++[D.none]).set V.length d=V++[d]:=by rw [List.set_append];simp
theorem resolved_own' {k:Nat}{V:List D}{t:Ty}(c:Cn B h)(v:h[32]? = some (.list V))(hV:V[k]? = some t.d)(hl:V.length≤most)(hn:t.dep+5≤n)(kk:Q (Ty.en t).d h):Ev (callF tab n 37 [.loc 30,ownD k] h) Q X :=
 cresolved c (by omega) fun m X' hm=>resolved_own c v hV hl (by omega) kk
theorem rd_vQ {t:Ty}{p p':D}{md:Mo'}(r:Rd B h V L kn hr K H)(hl:V.length≤90000)(ht:t.dep≤6)(hn:t.dep+15≤n)(kk:∀m X' h3,n=m+3→Rd B h3 (V++[t.d]) L kn hr K H→Ev (callF tab m 9 [.loc 36,p,t.d,md.d] h3) (fun d h1=>Mid h1 (Ev (callF tab m 9 [.loc 36,p',Ty.u8.d,md.d] h1) (fun d' h2=>Cn B h2∧Q (varqD (.en t) 1 [d,d']) h2) X')) X') :
  Ev (callF tab n 9 [.loc 36,varpD pQ (.tup [p,p']),(Ty.en t).d,md.d] h) Q X:=by
 refine c_run (fi:=Z9) (ρ:=[some (.loc 36),some (varpD pQ (.tup [p,p'])),some (Ty.en t).d,some md.d,none,none,none]) rfl rfl (by omega) fun m hm=>?_
 simp! only [Z9,a_attr,m_meth,at_of r.rd,fget,cl5,nget,at_of r.c.a30,cl7]
 refine cresolved_ty r.c (by unfold Ty.dep;omega) ?_
 simp! only [i_ty,Ty.kd,m_meth,at_of r.rd,cl5,nget]
 refine c_run (fi:=Z20) (ρ:=[some (.loc 36),some (varpD pQ (.tup [p,p'])),some (Ty.en t).d,some md.d,none,none,none,none,none,none,none,none,none,none,none,none,none]) rfl rfl (by omega) fun m' hm'=>?_
 obtain ⟨N,e33,hN⟩:=r.num
 simp! only [Z20,a_attr,m_meth,at_of r.rd,fget,cl5,nget,at_of r.c.a30,cl7]
 refine vof_Q r.c r.v e33 hl (by omega) (by omega) ?_
 have r1:=r.fresh e33 hN
 simp! only [a_attr,m_meth,at_of r1.rd,fget,cl5,nget,at_of r1.c.a30,cl7]
 refine cunify r1.c (by omega) fun m2 X2 hm2=>?_
 refine unify_en (V:=V++[.none]) r1.c r1.v (by simp) (by simp [most];omega) ht (by omega) ?_
 rw [set_last]
 have r2:=(r1.setV (V':=V++[t.d]) (by simp)).app [.list [],.list []]
 simp! only [a_attr,m_meth,at_of r2.rd,fget,cl5,nget,at_of r2.c.a30,cl7]
 refine resolved_own' (t:=t) r2.c r2.v (by simp) (by simp [most];omega) (by omega) ?_
 have e:(Ty.en t).d=.tup [.str [97,100,116],.str [69],.tup [],.tup [t.d]]:=rfl
 simp! only [a_attr,at_of r2.rd,fget,at_of r2.c.a30,at_of r2.c.a19,e,i_key,at_of r2.c.a20,find,at_of r2.c.a26]
 rw [←e]
 refine fields_E1 r2.c (by omega) ?_
 have r3:=r2.app [.dict [([84],t.d)],.dict []]
 simp! only [m_meth,at_of r3.rd,cl5,nget]
 refine places_2 (by omega) ?_
 simp_all! only [m_meth,at_of r3.rd,cl5,nget]
 refine parts2l r3 (by omega) fun m3 X3 hm3=>?_
 refine (kk m3 X3 _ (by omega) r3).mono (fun d h1 z=>z.mono fun z=>z.mono (fun d' h2 z=>?_) fun _ _ z=>z) fun _ _ z=>z
 simp! only [a_attr,at_of z.1.a26,fget]
 exact z.2
theorem rd_vP {t:Ty}{md:Mo'}(r:Rd B h V L kn hr K H)(hl:V.length≤90000)(ht:t.dep≤6)(hn:t.dep+15≤n)(kk:∀h3,Rd B h3 (V++[t.d]) L kn hr K H→Q (varqD (.en t) 0 []) h3) :
  Ev (callF tab n 9 [.loc 36,varpD (.tup [seg [80]]) (.tup []),(Ty.en t).d,md.d] h) Q X:=by
 refine c_run (fi:=Z9) (ρ:=[some (.loc 36),some (varpD (.tup [seg [80]]) (.tup [])),some (Ty.en t).d,some md.d,none,none,none]) rfl rfl (by omega) fun m hm=>?_
 simp! only [Z9,a_attr,m_meth,at_of r.rd,fget,cl5,nget,at_of r.c.a30,cl7]
 refine cresolved_ty r.c (by unfold Ty.dep;omega) ?_
 simp! only [i_ty,Ty.kd,m_meth,at_of r.rd,cl5,nget]
 refine c_run (fi:=Z20) (ρ:=[some (.loc 36),some (varpD (.tup [seg [80]]) (.tup [])),some (Ty.en t).d,some md.d,none,none,none,none,none,none,none,none,none,none,none,none,none]) rfl rfl (by omega) fun m' hm'=>?_
 obtain ⟨N,e33,hN⟩:=r.num
 simp! only [Z20,a_attr,m_meth,at_of r.rd,fget,cl5,nget,at_of r.c.a30,cl7]
 refine vof_P r.c r.v e33 hl (by omega) (by omega) ?_
 have r1:=r.fresh e33 hN
 simp! only [a_attr,m_meth,at_of r1.rd,fget,cl5,nget,at_of r1.c.a30,cl7]
 refine cunify r1.c (by omega) fun m2 X2 hm2=>?_
 refine unify_en (V:=V++[.none]) r1.c r1.v (by simp) (by simp [most];omega) ht (by omega) ?_
 rw [set_last]
 have r2:=(r1.setV (V':=V++[t.d]) (by simp)).app [.list [],.list []]
 simp! only [a_attr,m_meth,at_of r2.rd,fget,cl5,nget,at_of r2.c.a30,cl7]
 refine resolved_own' (t:=t) r2.c r2.v (by simp) (by simp [most];omega) (by omega) ?_
 have e:(Ty.en t).d=.tup [.str [97,100,116],.str [69],.tup [],.tup [t.d]]:=rfl
 simp! only [a_attr,at_of r2.rd,fget,at_of r2.c.a30,at_of r2.c.a19,e,i_key,at_of r2.c.a20,find,at_of r2.c.a26]
 rw [←e]
 refine fields_E0 r2.c (by omega) ?_
 have r3:=r2.app [.dict [([84],t.d)],.dict []]
 simp! only [m_meth,at_of r3.rd,cl5,nget]
 refine places_0 (by omega) ?_
 simp_all! only [m_meth,at_of r3.rd,cl5,nget]
 refine parts0 (by omega) ?_
 simp! only [a_attr,at_of r3.c.a26,fget]
 exact kk _ r3
theorem rd_S {told p p':D}{b:Bool}{md:Mo'}(r:Rd B h V L kn hr K H)(hn:20≤n)
  (hnm:∀{m:Nat} {h:Hp} {Q:D→Hp→Prop} {X:Nat→Hp→Prop},1≤m→Q (.tup [p,p']) (h++[.dict [],.list [p,p']])→Ev (callF tab m 22 [.loc 36,fpD pS told b,.lst [.tup [.str [97],Ty.bool.d],.tup [.str [98],Ty.u8.d]]] h) Q X)
  (kk:∀m X' h3,n=m+3→Rd B h3 V L kn hr K H→Ev (callF tab m 9 [.loc 36,p,Ty.bool.d,md.d] h3) (fun d h1=>Mid h1 (Ev (callF tab m 9 [.loc 36,p',Ty.u8.d,md.d] h1) (fun d' h2=>Cn B h2∧Q (fldD .s [d,d']) h2) X')) X') :
  Ev (callF tab n 9 [.loc 36,fpD pS told b,Ty.s.d,md.d] h) Q X:=by
 refine c_run (fi:=Z9) (ρ:=[some (.loc 36),some (fpD pS told b),some Ty.s.d,some md.d,none,none,none]) rfl rfl (by omega) fun m hm=>?_
 simp! only [Z9,a_attr,m_meth,at_of r.rd,fget,cl5,nget,at_of r.c.a30,cl7]
 refine cresolved_ty r.c (by unfold Ty.dep;omega) ?_
 simp! only [i_ty,Ty.kd,m_meth,at_of r.rd,cl5,nget]
 refine c_run (fi:=Z20) (ρ:=[some (.loc 36),some (fpD pS told b),some Ty.s.d,some md.d,none,none,none,none,none,none,none,none,none,none,none,none,none]) rfl rfl (by omega) fun m' hm'=>?_
 simp! only [Z20,a_attr,m_meth,at_of r.rd,fget,cl5,nget,at_of r.c.a30,cl7]
 refine vof_S r.c (by omega) ?_
 simp! only [a_attr,m_meth,at_of r.rd,fget,cl5,nget,at_of r.c.a30,cl7]
 refine cunify r.c (by omega) fun m2 X2 hm2=>?_
 refine unify_same (t:=.s) r.c (by unfold Ty.dep;omega) (by omega) ?_
 have r2:=r.app [.list []]
 simp! only [a_attr,m_meth,at_of r2.rd,fget,cl5,nget,at_of r2.c.a30,cl7]
 refine cresolved_ty (t:=.s) r2.c (by unfold Ty.dep;omega) ?_
 have e:Ty.s.d=.tup [.str [97,100,116],.str [83],.tup [],.tup []]:=rfl
 simp! only [a_attr,at_of r2.rd,fget,at_of r2.c.a30,at_of r2.c.a19,e,i_key,at_of r2.c.a20,find,at_of r2.c.a27]
 rw [←e]
 refine fields_S r2.c (by omega) ?_
 have r3:=r2.app [.dict [],.dict []]
 simp! only [m_meth,at_of r3.rd,cl5,nget]
 refine hnm (by omega) ?_
 have r4:=r3.app [.dict [],.list [p,p']]
 simp_all! only [m_meth,at_of r4.rd,cl5,nget]
 refine parts2l r4 (by omega) fun m3 X3 hm3=>?_
 refine (kk m3 X3 _ (by omega) r4).mono (fun d h1 z=>z.mono fun z=>z.mono (fun d' h2 z=>?_) fun _ _ z=>z) fun _ _ z=>z
 simp! only [a_attr,at_of z.1.a27,fget]
 exact z.2
theorem rd_uniQ:∀{t:Ty} {md:Mo'} {n:Nat} {h:Hp} {Q:D→Hp→Prop} {X:Nat→Hp→Prop},Rd B h V L kn hr K H→V.length≤90000→t.dep≤6→isEn t.bot=true→2 * t.dep+16≤n→(∀h3 d,Rd B h3 (V++[d]) L kn hr K H→Q (uniQ t) h3)→Ev (callF tab n 9 [.loc 36,varpD (.tup [seg [80]]) (.tup []),t.d,md.d] h) Q X:=by
 intro t
 induction t with
 |rf b t ih =>
  intro md n h Q X r hl ht hb hn kk
  unfold Ty.dep at hn ht
  refine rd_der (.var _ _) r (by omega) fun m X' hm=>?_
  exact ih r hl (by omega) hb (by omega) kk
 |en t =>
  intro md n h Q X r hl ht hb hn kk
  unfold Ty.dep at hn ht
  exact rd_vP r hl (by omega) (by omega) fun h3 r3=>kk h3 _ r3
 |u8=>intro md n h Q X r hl ht hb;cases hb
 |bool=>intro md n h Q X r hl ht hb;cases hb
 |s=>intro md n h Q X r hl ht hb;cases hb
 |pair t=>intro md n h Q X r hl ht hb;cases hb
end
section
set_option maxRecDepth 100000
variable {B:Nat→Option AO}{h:Hp}{Q:D→Hp→Prop}{X:Nat→Hp→Prop}{n:Nat}{V L:List D}{kn hr:Nat}{K H:List (List Nat×D)}
abbrev bndH (h:Hp)(L:List D)(row:D)(kvs:List (List Nat×D))(hr:Nat)(H':List (List Nat×D)):Hp:=((h.set 34 (.list (L++[row]))).set 35 (.dict kvs)).set hr (.dict H')
theorem Rd.bnd {row:D}{kvs H':List (List Nat×D)}(r:Rd B h V L kn hr K H)(hk:kvs.length≤L.length+1):Rd B (bndH h L row kvs hr H') V (L++[row]) kn hr K H':=by
 have h1:=r.hl
 have h2:=r.kl
 exact ⟨((r.c.set (.inl (by omega))).set (.inl (by omega))).set (.inl (by omega)),set_at (set_at (set_at r.v (by decide)) (by decide)) (by omega),let ⟨N,e,z⟩:=r.num;⟨N,set_at (set_at (set_at e (by decide)) (by decide)) (by omega),z⟩,
  set_at (set_at (set_self r.l) (by decide)) (by omega),let ⟨k,e,z⟩:=r.sc;⟨kvs,set_at (set_self (set_at e (by decide))) (by omega),by simpa using hk⟩,set_at (set_at (set_at r.rd (by decide)) (by decide)) (by omega),
  set_at (set_at (set_at r.k (by omega)) (by omega)) (by have:=r.ne;omega),set_self (set_at (set_at r.hh (by omega)) (by omega)),r.kl,r.hl,r.ne⟩
theorem Rd.setH {H':List (List Nat×D)}(r:Rd B h V L kn hr K H):Rd B (h.set hr (.dict H')) V L kn hr K H':=by
 have h1:=r.hl
 have h2:=r.kl
 exact ⟨r.c.set (.inl (by omega)),set_at r.v (by omega),let ⟨N,e,z⟩:=r.num;⟨N,set_at e (by omega),z⟩,set_at r.l (by omega),let ⟨k,e,z⟩:=r.sc;⟨k,set_at e (by omega),z⟩,set_at r.rd (by omega),
  set_at r.k (by have:=r.ne;omega),set_self r.hh,r.kl,r.hl,r.ne⟩
theorem putK_len' (kvs:List (List Nat×D))(x:List Nat)(d:D):(putK kvs x d).length≤kvs.length+1:=by
 induction kvs with
 |nil=>simp [putK]
 |cons p r ih =>
  obtain ⟨k,v⟩:=p
  unfold putK
  split<;>simp<;>omega
theorem newl_ok {x:List Nat}{td:D}{b:Bool}(r:Rd B h V L kn hr K H)(hL:L.length≤1000)(hn:1≤n)(kk:Q (.int L.length) (h.set 34 (.list (L++[.lst [.str x,td,.bool b]])))):Ev (callF tab n 39 [.loc 30,.str x,td,.bool b] h) Q X:=by
 refine c_run (fi:=Z39) (ρ:=[some (.loc 30),some (.str x),some td,some (.bool b)]) rfl rfl hn fun m hm=>?_
 have c1:Cn B (h.set 34 (.list (L++[.lst [.str x,td,.bool b]]))):=r.c.set (.inl (by omega))
 have e1:(h.set 34 (.list (L++[.lst [.str x,td,.bool b]])))[34]? = some (.list (L++[.lst [.str x,td,.bool b]])):=set_self r.l
 simp! only [Z39,a_attr,at_of r.c.a30,fget,bmK,isK_list r.l,p_app r.l (by simp [most];omega)]
 rw [at_of c1.a30]
 simp! only [fget,sq_loc]
 rw [at_of e1]
 simp! only [List.length_append]
 refine ⟨by omega,?_⟩
 rw [show ((L.length+1:Nat):Int) - 1=(L.length:Int) from by omega]
 exact kk
theorem decl_ok {x:List Nat}{td spot:D}{b:Bool}{kvs:List (List Nat×D)}(r:Rd B h V L kn hr K H)(e35:h[35]? = some (.dict kvs))(hk:kvs.length≤L.length)(hL:L.length≤1000)(hn:2≤n)(kk:Q (.int L.length) ((h.set 34 (.list (L++[.lst [.str x,td,.bool b]]))).set 35 (.dict (putK kvs x (.int L.length))))):Ev (callF tab n 40 [.loc 30,.str x,td,.bool b,spot] h) Q X:=by
 refine c_run (fi:=Z40) (ρ:=[some (.loc 30),some (.str x),some td,some (.bool b),some spot,none]) rfl rfl (by omega) fun m hm=>?_
 simp! only [Z40,m_meth,at_of r.c.a30,cl7,nget]
 refine newl_ok r hL (by omega) ?_
 have c1:Cn B (h.set 34 (.list (L++[.lst [.str x,td,.bool b]]))):=r.c.set (.inl (by omega))
 have e1:(h.set 34 (.list (L++[.lst [.str x,td,.bool b]])))[35]? = some (.dict kvs):=set_at e35 (by decide)
 simp! only [a_attr,at_of c1.a30,fget,st_key e1 (by simp [most];omega)]
 exact kk
theorem bound_A {x:List Nat}{td way spot:D}{b:Bool}{kvs:List (List Nat×D)}(r:Rd B h V L kn hr K H)(e35:h[35]? = some (.dict kvs))(hk:kvs.length≤L.length)(hx:find H x=none)(hx':find K x=none)(hL:L.length≤1000)(hH:H.length≤1000)(hn:3≤n)(kk:Q (.int L.length) (bndH h L (.lst [.str x,td,.bool b]) (putK kvs x (.int L.length)) hr (putK H x (.tup [.int L.length,td,way,.bool b])))):Ev (callF tab n 13 [.loc 36,.str x,td,.bool b,way,spot] h) Q X:=by
 refine c_run (fi:=Z13) (ρ:=[some (.loc 36),some (.str x),some td,some (.bool b),some way,some spot,none,none,none,none]) rfl rfl (by omega) fun m hm=>?_
 simp! only [Z13,a_attr,at_of r.rd,fget,q_ind,at_of r.hh,at_of r.k,hx,hx',Option.isSome_none,m_meth,at_of r.c.a30,cl7,nget]
 refine decl_ok r e35 hk hL (by omega) ?_
 have e1:((h.set 34 (.list (L++[.lst [.str x,td,.bool b]]))).set 35 (.dict (putK kvs x (.int L.length))))[36]? = some (.inst 5 [(4,.loc 30),(5,.loc kn),(6,.loc hr)]):=set_at (set_at r.rd (by decide)) (by decide)
 have e2:((h.set 34 (.list (L++[.lst [.str x,td,.bool b]]))).set 35 (.dict (putK kvs x (.int L.length))))[hr]? = some (.dict H):=by have:=r.hl;exact set_at (set_at r.hh (by omega)) (by omega)
 simp! only [a_attr,at_of e1,fget,st_key e2 (by simp [most];omega)]
 exact kk
theorem bound_B {x:List Nat}{T:Ty}{w:Mo'}{spot:D}{b:Bool}{l:Nat}(r:Rd B h V L kn hr K H)(hT:T.dep≤6)(hx:find H x=none)(hx':find K x=some (.tup [.int l,T.d,w.d,.bool b]))(hH:H.length≤1000)(hn:6≤n)(kk:Q (.int l) ((h++[AO.list []]).set hr (.dict (putK H x (.tup [.int l,T.d,w.d,.bool b]))))):Ev (callF tab n 13 [.loc 36,.str x,T.d,.bool b,w.d,spot] h) Q X:=by
 refine c_run (fi:=Z13) (ρ:=[some (.loc 36),some (.str x),some T.d,some (.bool b),some w.d,some spot,none,none,none,none]) rfl rfl (by omega) fun m hm=>?_
 have hb:∀{Q:D→Hp→Prop} {X:Nat→Hp→Prop},Ev (cmpD .ne (.bool b) (.bool b) h) Q X=Q (.bool false) h:=by
  intro Q X
  rw [q_ne rfl rfl rfl]
  cases b<;>rfl
 have hw:∀{Q:D→Hp→Prop} {X:Nat→Hp→Prop},Ev (cmpD .ne w.d w.d h) Q X=Q (.bool false) h:=by
  intro Q X
  cases w<;>rfl
 simp! only [Z13,a_attr,at_of r.rd,fget,q_ind,at_of r.hh,at_of r.k,hx,hx',Option.isSome_none,Option.isSome_some,m_meth,at_of r.c.a30,cl7,nget,i_key,hw,hb]
 refine cunify r.c (by omega) fun m2 X2 hm2=>?_
 refine unify_same r.c hT (by omega) ?_
 have r1:=r.app [.list []]
 simp! only [a_attr,at_of r1.rd,fget,st_key r1.hh (by simp [most];omega)]
 exact kk
theorem way_ok {r m:Bool}{md:Mo'}{spot:D}(hr:r=true→md=.mv)(hn:1≤n)(kk:Q (wayOf r m md).d h):Ev (callF tab n 11 [.loc 36,.bool r,.bool m,md.d,spot] h) Q X:=by
 refine c_run (fi:=Z11) (ρ:=[some (.loc 36),some (.bool r),some (.bool m),some md.d,some spot]) rfl rfl hn fun m' hm=>?_
 cases r with
 |true =>
  obtain rfl:=hr rfl
  cases m<;>simp! only [Z11,Mo'.s]<;>exact kk
 |false=>cases m<;>simp! only [Z11]<;>exact kk
theorem told_x {x:List Nat}{t:Ty}{md spot:D}(N:Nm x)(r:Rd B h V L kn hr K H)(hn:12≤n)(kk:Q .none h):Ev (callF tab n 12 [.loc 36,.str x,spot,t.d,md] h) Q X:=by
 refine c_run (fi:=Z12) (ρ:=[some (.loc 36),some (.str x),some spot,some t.d,some md,none]) rfl rfl (by omega) fun m hm=>?_
 simp! only [Z12,a_attr,m_meth,at_of r.rd,fget,at_of r.c.a30,cl7,nget]
 refine value_x r.c N (by omega) ?_
 simp! only [k_some]
 exact kk
theorem told_K {t:Ty}{md:Mo'}(r:Rd B h V L kn hr K H)(hb:t.bot=.u8)(ht:t.dep≤6)(hn:2 * t.dep+20≤n)(kk:Q (litQ 7 t) (h++[.list []])):Ev (callF tab n 12 [.loc 36,.str [75],.int 1,t.d,md.d] h) Q X:=by
 refine c_run (fi:=Z12) (ρ:=[some (.loc 36),some (.str [75]),some (.int 1),some t.d,some md.d,none]) rfl rfl (by omega) fun m hm=>?_
 simp! only [Z12,a_attr,m_meth,at_of r.rd,fget,at_of r.c.a30,cl7,nget]
 refine value_K r.c (by omega) fun wv=>?_
 simp! only [a_attr,m_meth,at_of r.rd,fget,at_of r.c.a30,cl7,nget]
 refine through_ok r.c ht (by omega) ?_
 rw [hb]
 simp_all! only [a_attr,m_meth,at_of r.rd,fget,at_of r.c.a30,cl7,nget]
 refine cunify r.c (by omega) fun m2 X2 hm2=>?_
 refine unify_same (t:=.u8) r.c (by unfold Ty.dep;omega) (by omega) ?_
 have r1:=r.app [.list []]
 simp! only [m_meth,at_of r1.rd,cl5,nget]
 exact rd_litQ r1 hb (by omega) kk
theorem told_P {t:Ty}{md:Mo'}(r:Rd B h V L kn hr K H)(hb:isEn t.bot=true)(hl:V.length≤90000)(ht:t.dep≤6)(hn:2 * t.dep+20≤n)(kk:∀h3 d,Rd B h3 (V++[d]) L kn hr K H→Q (uniQ t) h3):Ev (callF tab n 12 [.loc 36,.str [80],.int 1,t.d,md.d] h) Q X:=by
 refine c_run (fi:=Z12) (ρ:=[some (.loc 36),some (.str [80]),some (.int 1),some t.d,some md.d,none]) rfl rfl (by omega) fun m hm=>?_
 simp! only [Z12,a_attr,m_meth,at_of r.rd,fget,at_of r.c.a30,cl7,nget]
 refine value_P r.c (by omega) ?_
 simp! only [m_meth,at_of r.rd,cl5,nget]
 exact rd_uniQ r hl ht hb (by omega) kk
end
section
set_option maxRecDepth 100000
def nmB (x:List Nat):Bool:=asc x&&decide (x.length≤50)&&decide (x≠[75])&&decide (x≠[80])&&!anyEq (.str x) prel&&decide (x≠[99,114,97,116,101])&&decide (x≠[115,101,108,102])&&decide (x≠[115,117,112,101,114])&&decide (x≠[83,101,108,102])
def tn:List (List Nat):=[[120,48],[120,49],[120,50],[120,51],[120,52],[120,53],[120,54],[120,55],[120,56],[120,57],[120,49,48],[120,49,49],[120,49,50],[120,49,51],[120,49,52],[120,49,53],[120,49,54],[120,49,55],[120,49,56],[120,49,57],[120,50,48],[120,50,49],[120,50,50],[120,50,51],[120,50,52],[120,50,53],[120,50,54],[120,50,55],[120,50,56],[120,50,57],[120,51,48],[120,51,49],[120,51,50],[120,51,51],[120,51,52],[120,51,53],[120,51,54],[120,51,55],[120,51,56],[120,51,57]]
theorem xn_tab:(List.range 40).map xn=tn:=by decide +kernel
theorem xn_at {i:Nat}(hi:i < 40):tn[i]? = some (xn i):=by
 rw [←xn_tab,List.getElem?_map,List.getElem?_range hi]
 rfl
theorem nmB_all:tn.all nmB=true:=by decide +kernel
theorem xn_nm {i:Nat}(hi:i < 40):Nm (xn i):=by
 have h:=List.all_eq_true.mp nmB_all (xn i) (List.mem_of_getElem? (xn_at hi))
 unfold nmB at h
 simp only [Bool.and_eq_true,decide_eq_true_eq,Bool.not_eq_true'] at h
 obtain ⟨⟨⟨⟨⟨⟨⟨⟨a,b⟩,c⟩,d⟩,e⟩,f⟩,g⟩,i⟩,j⟩:=h
 exact ⟨a,b,c,d,e,f,g,i,j⟩
theorem tn_all:(List.range 40).all (fun i=>(List.range 40).all fun j=>i==j||decide (tn[i]? ≠ tn[j]?))=true:=by decide +kernel
theorem xn_inj {i j:Nat}(hi:i < 40)(hj:j < 40)(h:xn i=xn j):i=j:=by
 have h1:=List.all_eq_true.mp (List.all_eq_true.mp tn_all i (List.mem_range.mpr hi)) j (List.mem_range.mpr hj)
 simp only [Bool.or_eq_true,beq_iff_eq,decide_eq_true_eq] at h1
 exact h1.elim id fun z=>absurd (by rw [xn_at hi,xn_at hj,h]) z
variable {B:Nat→Option AO}{h:Hp}{Q:D→Hp→Prop}{X:Nat→Hp→Prop}{n:Nat}{V L:List D}{kn hr:Nat}{K H:List (List Nat×D)}
abbrev entD (n:Nat)(t:Ty)(r m:Bool)(md:Mo'):D:=.tup [.int n,(heldT (wayOf r m md) t).d,(wayOf r m md).d,.bool (m&&!r)]
theorem held_dep (w:Mo')(t:Ty):(heldT w t).dep≤t.dep+1:=by cases w<;>simp [heldT,Ty.dep]
theorem name_any {x:List Nat}{l:Nat}{t:Ty}{r m:Bool}{md:Mo'}{i:D}{g:Hp}(N:Nm x)(R:Rd B h V L kn hr K H)(hr':r=true→md=.mv)(hn:14≤n)
  (hi:i=.none∨∃p,i=.tup p)
  (hb:∀(m':Nat) (spot:D) (Q:D→Hp→Prop) (X:Nat→Hp→Prop),n=m'+1→Q (.int l) g→Ev (callF tab m' 13 [.loc 36,.str x,(heldT (wayOf r m md) t).d,.bool (m&&!r),(wayOf r m md).d,spot] h) Q X)
  (hg:∃fs,g[36]? = some (.inst 5 fs))
  (k0:i=.none→Q (bindD t l (wayOf r m md) .none) g)
  (k1:∀p,i=.tup p→∀m' X',n=m'+1→Ev (callF tab m' 9 [.loc 36,.tup p,t.d,md.d] g) (fun d h1=>Q (bindD t l (wayOf r m md) d) h1) X') :
  Ev (callF tab n 10 [.loc 36,nameD x r m i,t.d,md.d] h) Q X:=by
 refine c_run (fi:=Z10) (ρ:=[some (.loc 36),some (nameD x r m i),some t.d,some md.d,none,none,none,none,none,none,none,none,none,none,none]) rfl rfl (by omega) fun m' hm=>?_
 obtain ⟨fs,hg⟩:=hg
 rcases hi with rfl|⟨p,rfl⟩
 ·have kk:=k0 rfl
  cases r with
  |true =>
   obtain rfl:=hr' rfl
   cases m with
   |true =>
    simp! only [Z10,m_meth,at_of R.rd,cl5,nget]
    refine way_ok (r:=true) (m:=true) (md:=.mv) (fun _=>rfl) (by omega) ?_
    simp! only [wayOf,Mo'.d,Mo'.s,m_meth,at_of R.rd,cl5,nget]
    simp only [wayOf,heldT,Ty.d,Mo'.d,Mo'.s,Bool.not_true,Bool.not_false,Bool.and_true,Bool.and_false,if_true,if_false,Bool.false_eq_true] at hb kk
    refine hb m' _ _ _ hm ?_
    simp_all! only [k_some]
    exact kk
   |false =>
    simp! only [Z10,m_meth,at_of R.rd,cl5,nget]
    refine way_ok (r:=true) (m:=false) (md:=.mv) (fun _=>rfl) (by omega) ?_
    simp! only [wayOf,Mo'.d,Mo'.s,m_meth,at_of R.rd,cl5,nget]
    simp only [wayOf,heldT,Ty.d,Mo'.d,Mo'.s,Bool.not_true,Bool.not_false,Bool.and_true,Bool.and_false,if_true,if_false,Bool.false_eq_true] at hb kk
    refine hb m' _ _ _ hm ?_
    simp_all! only [k_some]
    exact kk
  |false =>
   cases m with
   |true =>
    simp! only [Z10,m_meth,at_of R.rd,cl5,nget]
    refine way_ok (r:=false) (m:=true) (md:=md) hr' (by omega) ?_
    simp! only [wayOf,Mo'.d,Mo'.s,m_meth,at_of R.rd,cl5,nget]
    simp only [wayOf,heldT,Ty.d,Mo'.d,Mo'.s,Bool.not_true,Bool.not_false,Bool.and_true,Bool.and_false,if_true,if_false,Bool.false_eq_true] at hb kk
    refine hb m' _ _ _ hm ?_
    simp_all! only [k_some]
    exact kk
   |false =>
    simp! only [Z10,m_meth,at_of R.rd,cl5,nget]
    refine told_x N R (by omega) ?_
    simp! only [m_meth,at_of R.rd,cl5,nget]
    refine way_ok (r:=false) (m:=false) (md:=md) hr' (by omega) ?_
    cases md <;>
    ·simp! only [wayOf,Mo'.d,Mo'.s,m_meth,at_of R.rd,cl5,nget]
     simp only [wayOf,heldT,Ty.d,Mo'.d,Mo'.s,Bool.not_true,Bool.not_false,Bool.and_true,Bool.and_false,if_true,if_false,Bool.false_eq_true] at hb kk
     refine hb m' _ _ _ hm ?_
     simp_all! only [k_some]
     exact kk
 ·have kk:=k1 p rfl
  cases r with
  |true =>
   obtain rfl:=hr' rfl
   cases m with
   |true =>
    simp! only [Z10,m_meth,at_of R.rd,cl5,nget]
    refine way_ok (r:=true) (m:=true) (md:=.mv) (fun _=>rfl) (by omega) ?_
    simp! only [wayOf,Mo'.d,Mo'.s,m_meth,at_of R.rd,cl5,nget]
    simp only [wayOf,heldT,Ty.d,Mo'.d,Mo'.s,Bool.not_true,Bool.not_false,Bool.and_true,Bool.and_false,if_true,if_false,Bool.false_eq_true] at hb kk
    refine hb m' _ _ _ hm ?_
    simp! only [m_meth,at_of hg,cl5,nget]
    exact kk m' _ hm
   |false =>
    simp! only [Z10,m_meth,at_of R.rd,cl5,nget]
    refine way_ok (r:=true) (m:=false) (md:=.mv) (fun _=>rfl) (by omega) ?_
    simp! only [wayOf,Mo'.d,Mo'.s,m_meth,at_of R.rd,cl5,nget]
    simp only [wayOf,heldT,Ty.d,Mo'.d,Mo'.s,Bool.not_true,Bool.not_false,Bool.and_true,Bool.and_false,if_true,if_false,Bool.false_eq_true] at hb kk
    refine hb m' _ _ _ hm ?_
    simp! only [m_meth,at_of hg,cl5,nget]
    exact kk m' _ hm
  |false =>
   cases m with
   |true =>
    simp! only [Z10,m_meth,at_of R.rd,cl5,nget]
    refine way_ok (r:=false) (m:=true) (md:=md) hr' (by omega) ?_
    simp! only [wayOf,Mo'.d,Mo'.s,m_meth,at_of R.rd,cl5,nget]
    simp only [wayOf,heldT,Ty.d,Mo'.d,Mo'.s,Bool.not_true,Bool.not_false,Bool.and_true,Bool.and_false,if_true,if_false,Bool.false_eq_true] at hb kk
    refine hb m' _ _ _ hm ?_
    simp! only [m_meth,at_of hg,cl5,nget]
    exact kk m' _ hm
   |false =>
    simp! only [Z10,m_meth,at_of R.rd,cl5,nget]
    refine way_ok (r:=false) (m:=false) (md:=md) hr' (by omega) ?_
    cases md <;>
    ·simp! only [wayOf,Mo'.d,Mo'.s,m_meth,at_of R.rd,cl5,nget]
     simp only [wayOf,heldT,Ty.d,Mo'.d,Mo'.s,Bool.not_true,Bool.not_false,Bool.and_true,Bool.and_false,if_true,if_false,Bool.false_eq_true] at hb kk
     refine hb m' _ _ _ hm ?_
     simp! only [m_meth,at_of hg,cl5,nget]
     exact kk m' _ hm
theorem litQ_tup (i:Int)(t:Ty):∃l,litQ i t=.tup l:=by cases t<;>exact ⟨_,rfl⟩
theorem uniQ_tup (t:Ty):∃l,uniQ t=.tup l:=by cases t<;>exact ⟨_,rfl⟩
theorem name_K {t:Ty}{md:Mo'}(R:Rd B h V L kn hr K H)(hb:t.bot=.u8)(ht:t.dep≤6)(hn:2 * t.dep+21≤n)(kk:Q (litQ 7 t) (h++[.list []])):Ev (callF tab n 10 [.loc 36,nameD [75] false false .none,t.d,md.d] h) Q X:=by
 refine c_run (fi:=Z10) (ρ:=[some (.loc 36),some (nameD [75] false false .none),some t.d,some md.d,none,none,none,none,none,none,none,none,none,none,none]) rfl rfl (by omega) fun m' hm=>?_
 obtain ⟨l,e⟩:=litQ_tup 7 t
 simp! only [Z10,m_meth,at_of R.rd,cl5,nget]
 refine told_K R hb ht (by omega) ?_
 rw [e] at kk ⊢
 simp_all! only [k_some]
 exact kk
theorem name_P {t:Ty}{md:Mo'}(R:Rd B h V L kn hr K H)(hb:isEn t.bot=true)(hl:V.length≤90000)(ht:t.dep≤6)(hn:2 * t.dep+21≤n)(kk:∀h3 d,Rd B h3 (V++[d]) L kn hr K H→Q (uniQ t) h3):Ev (callF tab n 10 [.loc 36,nameD [80] false false .none,t.d,md.d] h) Q X:=by
 refine c_run (fi:=Z10) (ρ:=[some (.loc 36),some (nameD [80] false false .none),some t.d,some md.d,none,none,none,none,none,none,none,none,none,none,none]) rfl rfl (by omega) fun m' hm=>?_
 obtain ⟨l,e⟩:=uniQ_tup t
 simp! only [Z10,m_meth,at_of R.rd,cl5,nget]
 refine told_P R hb hl ht (by omega) fun h3 d r3=>?_
 have kk':=kk h3 d r3
 rw [e] at kk' ⊢
 simp_all! only [k_some]
 exact kk'
end
section
set_option maxRecDepth 100000
variable {B:Nat→Option AO}{h:Hp}{Q:D→Hp→Prop}{X:Nat→Hp→Prop}{n:Nat}{V L:List D}{kn hr:Nat}{K H:List (List Nat×D)}
theorem st_attr {l c a:Nat}{fs:List (Nat×D)}{v:D}(e:h[l]? = some (.inst c fs))(hl:fs.length < 900):storeAttr (.loc l) a v h=some (h.set l (.inst c (fput fs a v))):=by
 unfold storeAttr
 simp only [e,hl,if_true]
theorem Rd.setR {kn' hr':Nat}{K' H':List (List Nat×D)}(r:Rd B h V L kn hr K H)(ek:h[kn']? = some (.dict K'))(eh:h[hr']? = some (.dict H'))(hk:37≤kn')(hh:37≤hr')(hne:kn'≠hr'):Rd B (h.set 36 (.inst 5 [(4,.loc 30),(5,.loc kn'),(6,.loc hr')])) V L kn' hr' K' H' :=
 ⟨r.c.set (.inl (by omega)),set_at r.v (by decide),let ⟨N,e,z⟩:=r.num;⟨N,set_at e (by decide),z⟩,set_at r.l (by decide),let ⟨k,e,z⟩:=r.sc;⟨k,set_at e (by decide),z⟩,set_self r.rd,set_at ek (by omega),set_at eh (by omega),hk,hh,hne⟩
theorem Rd.setO {i:Nat}{o:AO}(r:Rd B h V L kn hr K H)(hi:37≤i)(h1:i≠kn)(h2:i≠hr):Rd B (h.set i o) V L kn hr K H :=
 ⟨r.c.set (.inl (by omega)),set_at r.v (by omega),let ⟨N,e,z⟩:=r.num;⟨N,set_at e (by omega),z⟩,set_at r.l (by omega),let ⟨k,e,z⟩:=r.sc;⟨k,set_at e (by omega),z⟩,set_at r.rd (by omega),set_at r.k h1,set_at r.hh h2,r.kl,r.hl,r.ne⟩
theorem lt_of_at {i:Nat}{o:AO}(e:h[i]? = some o):i < h.length:=(List.getElem?_eq_some_iff.mp e).1
theorem p_upd {l l':Nat}{kvs more:List (List Nat×D)}(e:h[l]? = some (.dict kvs))(e':h[l']? = some (.dict more))(hne:l≠l')(hl:kvs.length+more.length≤most):Ev (bmD .update (.loc l) [.loc l'] h) Q X=Q .none (h.set l (.dict (putAll kvs more))):=by
 unfold bmD
 simp only [hne,if_false,e,e',hl,if_true]
 exact propext Iff.rfl
theorem with_ok {a b:Nat}{A B:List (List Nat×D)}(ea:h[a]? = some (.dict A))(eb:h[b]? = some (.dict B))(hl:A.length+B.length≤most)(hn:1≤n)(kk:Q (.loc h.length) (h++[.dict (putAll A B)])):Ev (callF tab n 23 [.loc a,.loc b] h) Q X:=by
 refine c_run (fi:=Z23) (ρ:=[some (.loc a),some (.loc b),none]) rfl rfl hn fun m hm=>?_
 have e1:(h++[AO.dict A])[h.length]? = some (.dict A):=end_at
 have h1:h.length≠b:=(Nat.ne_of_lt (lt_of_at eb)).symm
 have h2:A.length≤most:=by omega
 unfold most at h2
 simp! only [Z23,f_dict,at_of ea,h2,bmK,isK_dict e1,p_upd e1 (app_at eb) h1 hl,set_end]
 exact kk
theorem insS_mem {x y:List Nat}:∀{l:List (List Nat)},y∈insS x l→y=x∨y∈l
 |[],h=>by simp [insS] at h;exact .inl h
 |z::l,h=>by
  unfold insS at h
  split at h
  ·rcases List.mem_cons.mp h with q|q
   ·exact .inr (q▸List.mem_cons_self)
   ·exact (insS_mem q).imp id fun w=>List.mem_cons_of_mem _ w
  ·rcases List.mem_cons.mp h with q|q
   ·exact .inl q
   ·exact .inr q
theorem sortS_mem {y:List Nat}:∀{l:List (List Nat)},y∈sortS l→y∈l
 |x::l,h=>by
  unfold sortS at h
  rcases insS_mem h with q|q
  ·exact q▸List.mem_cons_self
  ·exact List.mem_cons_of_mem _ (sortS_mem q)
theorem strs_plain:∀{l:List (List Nat)},(∀y∈l,asc y=true)→D.plainAll (l.map D.str)=true
 |[],_=>rfl
 |x::l,h=>by
  have h1:=asc_plain (h x List.mem_cons_self)
  have h2:=strs_plain fun y hy=>h y (List.mem_cons_of_mem _ hy)
  show (D.plain (.str x)&&D.plainAll (l.map D.str))=true
  rw [h1,h2]
  rfl
theorem strs_shal (n:Nat):∀{l:List (List Nat)},D.shalAll n (l.map D.str)=true
 |[]=>by simp [D.shalAll]
 |x::l=>by
  have:=strs_shal n (l:=l)
  simp [D.shalAll,D.shal,this]
theorem ne_keys {H:List (List Nat×D)}(hk:∀p∈H,asc p.1=true):Ev (cmpD .ne (.lst ((sortS (H.map (·.1))).map D.str)) (.lst ((sortS (H.map (·.1))).map D.str)) h) Q X=Q (.bool false) h:=by
 have hp:D.plain (.lst ((sortS (H.map (·.1))).map D.str))=true:=by
  unfold D.plain
  refine strs_plain fun y hy=>?_
  obtain ⟨p,hp,rfl⟩:=List.mem_map.mp (sortS_mem hy)
  exact hk p hp
 rw [q_ne rfl rfl (by
  unfold okEq
  rw [hp]
  simp only [Bool.and_self,Bool.true_and,Bool.or_self]
  simp [D.shal,strs_shal]),eqb_refl _ hp]
 rfl
theorem or_ok {t:Ty}{md:Mo'}{pa pb qa qb:D}{L1:List D}{H1:List (List Nat×D)}(R:Rd B h V L kn hr K H)(hk:∀p∈H1,asc p.1=true)(hH:H.length≤100)(hK:K.length≤1000)(hH1:H1.length < 60)(hn:2≤n)
  (r1:∀(m b a:Nat) (g0:Hp) (X':Nat→Hp→Prop) (Q':D→Hp→Prop),n=m+1→Rd B g0 V L b a K H→(∀g1,Rd B g1 V L1 b a K H1→(∀i o,37≤i→i≠a→g0[i]? = some o→g1[i]? = some o)→Q' qa g1)→Ev (callF tab m 9 [.loc 36,pa,t.d,md.d] g0) Q' X')
  (r2:∀(m b a:Nat) (g0:Hp) (X':Nat→Hp→Prop) (Q':D→Hp→Prop),n=m+1→Rd B g0 V L1 b a (putAll K H1) H→(∀g1,Rd B g1 V L1 b a (putAll K H1) H1→(∀i o,37≤i→i≠a→g0[i]? = some o→g1[i]? = some o)→Q' qb g1)→Ev (callF tab m 9 [.loc 36,pb,t.d,md.d] g0) Q' X')
  (kk:∀g c,Rd B g V L1 kn c K H1→Q (orqD t [qa,qb]) g) :
  Ev (callF tab n 14 [.loc 36,orpD [pa,pb],t.d,md.d] h) Q X:=by
 refine c_run (fi:=Z14) (ρ:=[some (.loc 36),some (orpD [pa,pb]),some t.d,some md.d,none,none,none,none,none]) rfl rfl (by omega) fun m hm=>?_
 have hk37:=R.kl
 have hh37:=R.hl
 obtain ⟨lk,lh,l36⟩:=R.len
 -- the parts
 have R0:=R.app [.list []]
 obtain ⟨p,hp⟩:∃p,p=h.length:=⟨_,rfl⟩
 have hp0:(h++[AO.list []])[p]? = some (.list []):=by rw [hp];exact end_at
 have R1:=R0.app [.dict H]
 obtain ⟨a,ha⟩:∃a,a=(h++[AO.list []]).length:=⟨_,rfl⟩
 have ha1:(h++[AO.list []]++[AO.dict H])[a]? = some (.dict H):=by rw [ha];exact end_at
 have pa:p < a:=by rw [ha,hp];simp
 have R2:=R1.setR (kn':=kn) (hr':=a) R1.k ha1 hk37 (by omega) (by omega)
 have hp2:=set_at (j:=36) (o':=.inst 5 [(4,.loc 30),(5,.loc kn),(6,.loc a)]) (app_at (x:=[AO.dict H]) hp0) (by omega)
 have hh2:=set_at (j:=36) (o':=.inst 5 [(4,.loc 30),(5,.loc kn),(6,.loc a)]) R1.hh (by omega)
 have e1:∀v,storeAttr (.loc 36) 6 v (h++[AO.list []]++[AO.dict H])=some ((h++[AO.list []]++[AO.dict H]).set 36 (.inst 5 [(4,.loc 30),(5,.loc kn),(6,v)])):=fun v=>by
  rw [st_attr R1.rd (by simp)]
  simp [fput]
 generalize hg2:(h++[AO.list []]++[AO.dict H]).set 36 (.inst 5 [(4,.loc 30),(5,.loc kn),(6,.loc a)])=g2 at *
 have R3:=R2.app [.dict K]
 obtain ⟨b,hb⟩:∃b,b=g2.length:=⟨_,rfl⟩
 have hb3:(g2++[AO.dict K])[b]? = some (.dict K):=by rw [hb];exact end_at
 have ab:a < b:=by rw [hb];exact lt_of_at R2.hh
 have R4:=R3.setR (kn':=b) (hr':=a) hb3 R3.hh (by omega) (by omega) (by omega)
 have hp4:=set_at (j:=36) (o':=.inst 5 [(4,.loc 30),(5,.loc b),(6,.loc a)]) (app_at (x:=[AO.dict K]) hp2) (by omega)
 have hh4:=set_at (j:=36) (o':=.inst 5 [(4,.loc 30),(5,.loc b),(6,.loc a)]) (app_at (x:=[AO.dict K]) hh2) (by omega)
 have hk4:=set_at (j:=36) (o':=.inst 5 [(4,.loc 30),(5,.loc b),(6,.loc a)]) R3.k (by omega)
 have e2:∀v,storeAttr (.loc 36) 5 v (g2++[AO.dict K])=some ((g2++[AO.dict K]).set 36 (.inst 5 [(4,.loc 30),(5,v),(6,.loc a)])):=fun v=>by
  rw [st_attr R3.rd (by simp)]
  simp [fput]
 generalize hg4:(g2++[AO.dict K]).set 36 (.inst 5 [(4,.loc 30),(5,.loc b),(6,.loc a)])=g4 at *
 have hHm:H.length≤100000:=by omega
 have hKm:K.length≤100000:=by omega
 simp! only [Z14,a_attr,at_of R.rd,fget,items,fr_cons,fr_nil,f_dict,at_of R0.hh,hHm,←hp,←ha,e1]
 rw [hg2]
 simp! only [a_attr,fget,items,fr_cons,fr_nil,f_dict,at_of R2.k,hKm,←hb,e2]
 rw [hg4]
 simp! only [bmK,isK_list hp4,m_meth,at_of R4.rd,cl5,nget]
 refine r1 m b a g4 _ _ hm R4 fun g5 R5 f5=>?_
 have hp5:=f5 p _ (by omega) (by omega) hp4
 have hh5:=f5 hr _ (by omega) (by omega) hh4
 have hk5:=f5 kn _ (by omega) (by omega) hk4
 have R6:=R5.setO (i:=p) (o:=.list [qa]) (by omega) (by omega) (by omega)
 have hp6:(g5.set p (.list [qa]))[p]? = some (.list [qa]):=set_self hp5
 have hh6:=set_at (j:=p) (o':=.list [qa]) hh5 (by omega)
 have hk6:=set_at (j:=p) (o':=.list [qa]) hk5 (by omega)
 rw [p_app hp5 (by simp [most]),List.nil_append]
 generalize hg6:g5.set p (.list [qa])=g6 at *
 simp! only [a_attr,at_of R6.rd,fget,items,fr_cons,fr_nil,f_dict,at_of hh6,hHm]
 have R7:=R6.app [.dict H]
 obtain ⟨c,hc⟩:∃c,c=g6.length:=⟨_,rfl⟩
 have hc7:(g6++[AO.dict H])[c]? = some (.dict H):=by rw [hc];exact end_at
 have bc:b < c:=by rw [hc];exact lt_of_at R6.k
 have R8:=R7.setR (kn':=b) (hr':=c) R7.k hc7 (by omega) (by omega) (by omega)
 have hp8:=set_at (j:=36) (o':=.inst 5 [(4,.loc 30),(5,.loc b),(6,.loc c)]) (app_at (x:=[AO.dict H]) hp6) (by omega)
 have hk8:=set_at (j:=36) (o':=.inst 5 [(4,.loc 30),(5,.loc b),(6,.loc c)]) (app_at (x:=[AO.dict H]) hk6) (by omega)
 have ha8:=set_at (j:=36) (o':=.inst 5 [(4,.loc 30),(5,.loc b),(6,.loc c)]) R7.hh (by omega)
 have e3:∀v,storeAttr (.loc 36) 6 v (g6++[AO.dict H])=some ((g6++[AO.dict H]).set 36 (.inst 5 [(4,.loc 30),(5,.loc b),(6,v)])):=fun v=>by
  rw [st_attr R7.rd (by simp)]
  simp [fput]
 simp! only [←hc,e3]
 generalize hg8:(g6++[AO.dict H]).set 36 (.inst 5 [(4,.loc 30),(5,.loc b),(6,.loc c)])=g8 at *
 refine with_ok hk8 ha8 (by simp [most];omega) (by omega) ?_
 have R9:=R8.app [.dict (putAll K H1)]
 obtain ⟨d,hd⟩:∃d,d=g8.length:=⟨_,rfl⟩
 have hd9:(g8++[AO.dict (putAll K H1)])[d]? = some (.dict (putAll K H1)):=by rw [hd];exact end_at
 have cd:c < d:=by rw [hd];exact lt_of_at R8.hh
 have R10:=R9.setR (kn':=d) (hr':=c) hd9 R9.hh (by omega) (by omega) (by omega)
 have hp10:=set_at (j:=36) (o':=.inst 5 [(4,.loc 30),(5,.loc d),(6,.loc c)]) (app_at (x:=[AO.dict (putAll K H1)]) hp8) (by omega)
 have hk10:=set_at (j:=36) (o':=.inst 5 [(4,.loc 30),(5,.loc d),(6,.loc c)]) (app_at (x:=[AO.dict (putAll K H1)]) hk8) (by omega)
 have ha10:=set_at (j:=36) (o':=.inst 5 [(4,.loc 30),(5,.loc d),(6,.loc c)]) (app_at (x:=[AO.dict (putAll K H1)]) ha8) (by omega)
 have e4:∀v,storeAttr (.loc 36) 5 v (g8++[AO.dict (putAll K H1)])=some ((g8++[AO.dict (putAll K H1)]).set 36 (.inst 5 [(4,.loc 30),(5,v),(6,.loc c)])):=fun v=>by
  rw [st_attr R9.rd (by simp)]
  simp [fput]
 simp! only [←hd,e4]
 generalize hg10:(g8++[AO.dict (putAll K H1)]).set 36 (.inst 5 [(4,.loc 30),(5,.loc d),(6,.loc c)])=g10 at *
 simp! only [bmK,isK_list hp10,m_meth,at_of R10.rd,cl5,nget]
 refine r2 m d c g10 _ _ hm R10 fun g11 R11 f11=>?_
 have hp11:=f11 p _ (by omega) (by omega) hp10
 have hk11:=f11 kn _ (by omega) (by omega) hk10
 have ha11:=f11 a _ (by omega) (by omega) ha10
 have R12:=R11.setO (i:=p) (o:=.list [qa,qb]) (by omega) (by omega) (by omega)
 have hp12:(g11.set p (.list [qa,qb]))[p]? = some (.list [qa,qb]):=set_self hp11
 have hk12:=set_at (j:=p) (o':=.list [qa,qb]) hk11 (by omega)
 have ha12:=set_at (j:=p) (o':=.list [qa,qb]) ha11 (by omega)
 rw [p_app hp11 (by simp [most])]
 simp only [List.cons_append,List.nil_append]
 generalize hg12:g11.set p (.list [qa,qb])=g12 at *
 simp! only [f_sorted,at_of ha12,hH1,a_attr,at_of R12.rd,fget,at_of R12.hh,ne_keys hk]
 have R13:=R12.setR (kn':=kn) (hr':=c) hk12 R12.hh (by omega) (by omega) (by omega)
 have hp13:=set_at (j:=36) (o':=.inst 5 [(4,.loc 30),(5,.loc kn),(6,.loc c)]) hp12 (by omega)
 have e5:∀v,storeAttr (.loc 36) 5 v g12=some (g12.set 36 (.inst 5 [(4,.loc 30),(5,v),(6,.loc c)])):=fun v=>by
  rw [st_attr R12.rd (by simp)]
  simp [fput]
 simp! only [e5,sq_loc]
 rw [at_of hp13]
 simp! only [k_some]
 exact kk _ c R13
end
section
set_option maxRecDepth 100000
structure Hok (H:List (List Nat×D))(n:Nat):Prop where
 fr:∀i,n≤i→i < 40→find H (xn i)=none
 asc:∀p∈H,asc p.1=true
 nd:(H.map (·.1)).Nodup
 len:H.length≤n
theorem find_putK {H:List (List Nat×D)}{x y:List Nat}{v:D}:find (putK H x v) y=if x=y then some v else find H y:=by
 induction H with
 |nil=>simp [putK,find]
 |cons p r ih =>
  obtain ⟨k,u⟩:=p
  unfold putK
  by_cases h1:k=x
  ·subst h1
   rw [if_pos rfl]
   unfold find
   by_cases h2:k=y
   ·rw [if_pos h2,if_pos h2]
   ·rw [if_neg h2,if_neg h2]
    rw [if_neg h2]
  ·rw [if_neg h1]
   unfold find
   by_cases h2:k=y
   ·rw [if_pos h2,if_pos h2,if_neg (fun q=>h1 (h2.trans q.symm))]
   ·rw [if_neg h2,if_neg h2,ih]
theorem putK_mem {H:List (List Nat×D)}{x:List Nat}{v:D}{p:List Nat×D}(h:p∈putK H x v):p.1=x∨p∈H:=by
 induction H with
 |nil=>simp [putK] at h;exact .inl (by rw [h])
 |cons q r ih =>
  obtain ⟨k,u⟩:=q
  unfold putK at h
  split at h
  ·rename_i e
   rcases List.mem_cons.mp h with z|z
   ·exact .inl (by rw [z];exact e)
   ·exact .inr (List.mem_cons_of_mem _ z)
  ·rcases List.mem_cons.mp h with z|z
   ·exact .inr (z▸List.mem_cons_self)
   ·exact (ih z).imp id fun w=>List.mem_cons_of_mem _ w
theorem putK_nd {H:List (List Nat×D)}{x:List Nat}{v:D}(h:(H.map (·.1)).Nodup):((putK H x v).map (·.1)).Nodup:=by
 induction H with
 |nil=>simp [putK]
 |cons q r ih =>
  obtain ⟨k,u⟩:=q
  obtain ⟨h1,h2⟩:=List.nodup_cons.mp h
  unfold putK
  split
  ·exact h
  ·rename_i e
   refine List.nodup_cons.mpr ⟨fun z=>?_,ih h2⟩
   obtain ⟨p,hp,hq⟩:=List.mem_map.mp z
   rcases putK_mem hp with w|w
   ·exact e (hq.symm.trans w)
   ·exact h1 (List.mem_map.mpr ⟨p,w,hq⟩)
theorem find_cons {k x:List Nat}{v:D}{r:List (List Nat×D)}:find ((k,v)::r) x=if k=x then some v else find r x:=rfl
theorem find_putAll {x:List Nat}:∀{B A:List (List Nat×D)},(B.map (·.1)).Nodup→find (putAll A B) x=(find B x).or (find A x)
 |[],A,_=>by simp [putAll,find]
 |(k,v)::r,A,h=>by
  obtain ⟨h1,h2⟩:=List.nodup_cons.mp h
  unfold putAll
  rw [find_putAll h2,find_putK,find_cons]
  by_cases e:k=x
  ·rw [if_pos e,if_pos e]
   have:find r x=none:=by
    subst e
    clear h2 h
    induction r with
    |nil=>rfl
    |cons q r ih =>
     obtain ⟨k',u⟩:=q
     rw [find_cons,if_neg (fun z=>h1 (List.mem_map.mpr ⟨(k',u),List.mem_cons_self,z⟩))]
     exact ih fun z=>h1 (by
      obtain ⟨p,hp,hq⟩:=List.mem_map.mp z
      exact List.mem_map.mpr ⟨p,List.mem_cons_of_mem _ hp,hq⟩)
   rw [this]
   rfl
  ·rw [if_neg e,if_neg e]
theorem Hok.put {H:List (List Nat×D)}{n:Nat}{v:D}(h:Hok H n)(hn:n < 40):Hok (putK H (xn n) v) (n+1) where
 fr:=fun i h1 h2=>by
  rw [find_putK,if_neg (fun z=>by have:=xn_inj hn h2 z;omega)]
  exact h.fr i (by omega) h2
 asc:=fun p hp=>by
  rcases putK_mem hp with z|z
  ·rw [z];exact (xn_nm hn).a
  ·exact h.asc p z
 nd:=putK_nd h.nd
 len:=by have:=putK_len' H (xn n) v;have:=h.len;omega
theorem Hok.more {H:List (List Nat×D)}{n m:Nat}(h:Hok H n)(hm:n≤m):Hok H m:=⟨fun i h1 h2=>h.fr i (by omega) h2,h.asc,h.nd,by have:=h.len;omega⟩
theorem Rd.g36 {h:Hp}{V L:List D}{kn hr:Nat}{K H:List (List Nat×D)}(r:Rd B h V L kn hr K H):∃fs,h[36]? = some (.inst 5 fs):=⟨_,r.rd⟩
theorem bnd_frame {h:Hp}{L:List D}{row:D}{kvs H':List (List Nat×D)}{hr i:Nat}{o:AO}(hi:37≤i)(hne:i≠hr)(e:h[i]? = some o):(bndH h L row kvs hr H')[i]? = some o:=set_at (set_at (set_at e (by omega)) (by omega)) (Ne.symm hne)
theorem read_ok {d n0:Nat}{t:Ty}{md:Mo'}{p q:D}{rs:List D}(P:Rp d t md n0 p q rs):∀{h:Hp} {V L:List D} {kn hr:Nat} {K H:List (List Nat×D)} {N:Nat} {Q:D→Hp→Prop} {X:Nat→Hp→Prop},Rd B h V L kn hr K H→L.length=n0→(∀i,n0≤i→i < 40→find K (xn i)=none)→Hok H n0→K.length≤500 →
  n0+rs.length≤39→V.length+t.dep≤80000→t.dep≤5→d+40≤N→(∀h' V' hr' H',Rd B h' V' (L++rs) kn hr' K H'→V'.length≤V.length+t.dep→Hok H' (n0+rs.length)→Q q h')→Ev (callF tab N 9 [.loc 36,p,t.d,md.d] h) Q X:=by
 induction P with
 |wild =>
  intro h V L kn hr K H N Q X R hL fK hH hK hn hV ht hN kk
  refine rd_wild R (by omega) (kk h V hr H (by rwa [List.append_nil]) (by omega) (hH.more (by simp)))
 |@name d t md n0 r m hr' =>
  intro h V L kn hr K H N Q X R hL fK hH hK hn hV ht hN kk
  simp only [List.length_cons,List.length_nil] at hn kk
  have hx:find H (xn n0)=none:=hH.fr n0 (Nat.le_refl _) (by omega)
  have hx':find K (xn n0)=none:=fK n0 (Nat.le_refl _) (by omega)
  obtain ⟨kvs,e35,hk⟩:=R.sc
  have R1:=R.bnd (row:=rowD n0 t r m md) (kvs:=putK kvs (xn n0) (.int L.length)) (H':=putK H (xn n0) (entD n0 t r m md)) (by have:=putK_len' kvs (xn n0) (.int L.length);omega)
  refine rd_name R (by omega) fun m1 hm1=>?_
  refine name_any (l:=n0) (g:=bndH h L (rowD n0 t r m md) (putK kvs (xn n0) (.int L.length)) hr (putK H (xn n0) (entD n0 t r m md))) (xn_nm (by omega)) R hr' (by omega) (.inl rfl) (fun m2 spot Q' X' hm2 hq=>?_) R1.g36 (fun _=>?_) (fun p z=>nomatch z)
  ·refine bound_A R e35 hk hx hx' (by omega) (by have:=hH.len;omega) (by omega) ?_
   rw [hL]
   rw [hL] at hq
   exact hq
  ·exact kk _ V hr _ R1 (by omega) (hH.put (by omega))
 |@nin d e t md n0 p p' q rs r m hr' hd hne P' he ih =>
  intro h V L kn hr K H N Q X R hL fK hH hK hn hV ht hN kk
  simp only [List.length_cons] at hn kk
  subst he
  have hx:find H (xn n0)=none:=hH.fr n0 (Nat.le_refl _) (by omega)
  have hx':find K (xn n0)=none:=fK n0 (Nat.le_refl _) (by omega)
  obtain ⟨kvs,e35,hk⟩:=R.sc
  have R1:=R.bnd (row:=rowD n0 t r m md) (kvs:=putK kvs (xn n0) (.int L.length)) (H':=putK H (xn n0) (entD n0 t r m md)) (by have:=putK_len' kvs (xn n0) (.int L.length);omega)
  refine rd_name R (by omega) fun m1 hm1=>?_
  refine name_any (l:=n0) (g:=bndH h L (rowD n0 t r m md) (putK kvs (xn n0) (.int L.length)) hr (putK H (xn n0) (entD n0 t r m md))) (xn_nm (by omega)) R hr' (by omega) (.inr ⟨p',rfl⟩) (fun m2 spot Q' X' hm2 hq=>?_) R1.g36 (fun z=>nomatch z) (fun p2 z m2 X2 hm2=>?_)
  ·refine bound_A R e35 hk hx hx' (by omega) (by have:=hH.len;omega) (by omega) ?_
   rw [hL]
   rw [hL] at hq
   exact hq
  ·cases z
   refine ih R1 (by simp [hL]) (fun i h1 h2=>fK i (by omega) h2) (hH.put (by omega)) hK (by omega) hV ht (by omega) fun h' V' hr'' H' R2 hV' hH'=>?_
   refine kk h' V' hr'' H' ?_ hV' ?_
   ·rw [List.append_assoc] at R2
    exact R2
   ·rw [show n0+(rs.length+1)=n0+1+rs.length from by omega]
    exact hH'
 |@ref d e b t md n0 p q rs hd P' ih =>
  intro h V L kn hr K H N Q X R hL fK hH hK hn hV ht hN kk
  unfold Ty.dep at hV ht
  refine rd_ref R (by omega) fun m1 hm1=>?_
  refine ref_ok R (by omega) fun m2 X2 hm2=>?_
  refine ih R hL fK hH hK hn (by omega) (by omega) (by omega) fun h' V' hr'' H' R2 hV' hH'=>?_
  exact kk h' V' hr'' H' R2 (by unfold Ty.dep;omega) hH'
 |@der d e b t md n0 p q rs hd cp P' ih =>
  intro h V L kn hr K H N Q X R hL fK hH hK hn hV ht hN kk
  unfold Ty.dep at hV ht
  refine rd_der cp R (by omega) fun m2 X2 hm2=>?_
  refine ih R hL fK hH hK hn (by omega) (by omega) (by omega) fun h' V' hr'' H' R2 hV' hH'=>?_
  exact kk h' V' hr'' H' R2 (by unfold Ty.dep;omega) hH'
 |litb b =>
  intro h V L kn hr K H N Q X R hL fK hH hK hn hV ht hN kk
  refine rd_bool R (by omega) (kk _ V hr H (by rw [List.append_nil];exact R.app _) (by omega) (hH.more (by simp)))
 |liti i =>
  intro h V L kn hr K H N Q X R hL fK hH hK hn hV ht hN kk
  refine rd_int R (by omega) (kk _ V hr H (by rwa [List.append_nil]) (by omega) (hH.more (by simp)))
 |rng =>
  intro h V L kn hr K H N Q X R hL fK hH hK hn hV ht hN kk
  refine rd_rng R (by omega) (kk _ V hr H (by rwa [List.append_nil]) (by omega) (hH.more (by simp)))
 |@tup d e t md n0 p q rs p' q' rs' hd P1 P2 ih1 ih2 =>
  intro h V L kn hr K H N Q X R hL fK hH hK hn hV ht hN kk
  unfold Ty.dep at hV ht
  simp only [List.length_append] at hn kk
  refine rd_tup R (by omega) fun m1 X1 hm1=>?_
  refine ih1 R hL fK hH hK (by omega) (by omega) (by omega) (by omega) fun h1 V1 hr1 H1 R1 hV1 hH1=>?_
  refine R1.mid ?_
  refine ih2 R1 (by simp [hL]) (fun i a b=>fK i (by omega) b) hH1 hK (by omega) (by unfold Ty.dep;omega) (by unfold Ty.dep;omega) (by omega) fun h2 V2 hr2 H2 R2 hV2 hH2=>?_
  unfold Ty.dep at hV2
  refine kk h2 V2 hr2 H2 (by rw [←List.append_assoc];exact R2) (by unfold Ty.dep;omega) (by rw [←Nat.add_assoc];exact hH2)
 |@fs1 d e md n0 p q rs hd P1 ih1 =>
  intro h V L kn hr K H N Q X R hL fK hH hK hn hV ht hN kk
  refine rd_S (p:=p) (p':=wilD) R (by omega) (fun hm kq=>names_1 hm kq) fun m1 X1 h3 hm1 R3=>?_
  refine ih1 R3 hL fK hH hK (by omega) (by unfold Ty.dep;omega) (by unfold Ty.dep;omega) (by omega) fun h1 V1 hr1 H1 R1 hV1 hH1=>?_
  refine R1.mid ?_
  refine rd_wild R1 (by omega) ⟨R1.c,?_⟩
  exact kk h1 V1 hr1 H1 R1 hV1 hH1
 |@fs2 d e md n0 p q rs p' q' rs' hd P1 P2 ih1 ih2 =>
  intro h V L kn hr K H N Q X R hL fK hH hK hn hV ht hN kk
  simp only [List.length_append] at hn kk
  unfold Ty.dep at hV
  refine rd_S (p:=p) (p':=p') R (by omega) (fun hm kq=>names_2 hm kq) fun m1 X1 h3 hm1 R3=>?_
  refine ih1 R3 hL fK hH hK (by omega) (by unfold Ty.dep;omega) (by unfold Ty.dep;omega) (by omega) fun h1 V1 hr1 H1 R1 hV1 hH1=>?_
  unfold Ty.dep at hV1
  refine R1.mid ?_
  refine ih2 R1 (by simp [hL]) (fun i a b=>fK i (by omega) b) hH1 hK (by omega) (by unfold Ty.dep;omega) (by unfold Ty.dep;omega) (by omega) fun h2 V2 hr2 H2 R2 hV2 hH2=>?_
  unfold Ty.dep at hV2
  refine ⟨R2.c,kk h2 V2 hr2 H2 (by rw [←List.append_assoc];exact R2) (by unfold Ty.dep;omega) (by rw [←Nat.add_assoc];exact hH2)⟩
 |@vq d e t md n0 p q rs p' q' rs' hd P1 P2 ih1 ih2 =>
  intro h V L kn hr K H N Q X R hL fK hH hK hn hV ht hN kk
  unfold Ty.dep at hV ht
  simp only [List.length_append] at hn kk
  refine rd_vQ R (by omega) (by omega) (by omega) fun m1 X1 h3 hm1 R3=>?_
  refine ih1 R3 hL fK hH hK (by omega) (by simp;omega) (by omega) (by omega) fun h1 V1 hr1 H1 R1 hV1 hH1=>?_
  simp only [List.length_append,List.length_cons,List.length_nil] at hV1
  refine R1.mid ?_
  refine ih2 R1 (by simp [hL]) (fun i a b=>fK i (by omega) b) hH1 hK (by omega) (by unfold Ty.dep;omega) (by unfold Ty.dep;omega) (by omega) fun h2 V2 hr2 H2 R2 hV2 hH2=>?_
  unfold Ty.dep at hV2
  refine ⟨R2.c,kk h2 V2 hr2 H2 (by rw [←List.append_assoc];exact R2) (by unfold Ty.dep;omega) (by rw [←Nat.add_assoc];exact hH2)⟩
 |@cK d t md n0 hb =>
  intro h V L kn hr K H N Q X R hL fK hH hK hn hV ht hN kk
  refine rd_name R (by omega) fun m1 hm1=>?_
  refine name_K R hb (by omega) (by omega) (kk _ V hr H (by rw [List.append_nil];exact R.app _) (by omega) (hH.more (by simp)))
 |@uP d t md n0 hb =>
  intro h V L kn hr K H N Q X R hL fK hH hK hn hV ht hN kk
  refine rd_name R (by omega) fun m1 hm1=>?_
  refine name_P R hb (by omega) (by omega) (by omega) fun h3 dd R3=>?_
  have h1:1≤t.dep:=by
   clear kk hN hV ht hm1
   induction t with
   |en t=>unfold Ty.dep;omega
   |rf b t=>unfold Ty.dep;omega
   |_=>cases hb
  exact kk h3 _ hr H (by rwa [List.append_nil]) (by simp;omega) (hH.more (by simp))
 |@orl d t md n0 i j hb =>
  intro h V L kn hr K H N Q X R hL fK hH hK hn hV ht hN kk
  have hl:=hH.len
  simp only [List.length_nil] at hn kk
  refine rd_or R (by omega) fun m1 hm1=>?_
  refine or_ok (L1:=L) (H1:=H) (qa:=litQ i t) (qb:=litQ j t) R hH.asc (by omega) (by omega) (by omega) (by omega) (fun m b a g0 X' Q' hm R0 k'=>?_) (fun m b a g0 X' Q' hm R0 k'=>?_) fun g c Rg=>?_
  ·exact rd_litQ R0 hb (by omega) (k' g0 R0 fun _ _ _ _ e=>e)
  ·exact rd_litQ R0 hb (by omega) (k' g0 R0 fun _ _ _ _ e=>e)
  ·exact kk g V c H (by rwa [List.append_nil]) (by omega) hH
 |@orn d t md n0 i j r m hb hr' =>
  intro h V L kn hr K H N Q X R hL fK hH hK hn hV ht hN kk
  have hl:=hH.len
  simp only [List.length_cons,List.length_nil] at hn kk
  have hx:find H (xn n0)=none:=hH.fr n0 (Nat.le_refl _) (by omega)
  have hx':find K (xn n0)=none:=fK n0 (Nat.le_refl _) (by omega)
  have hH1:=hH.put (v:=entD n0 t r m md) (show n0 < 40 by omega)
  have hp:=putK_len' H (xn n0) (entD n0 t r m md)
  refine rd_or R (by omega) fun m1 hm1=>?_
  refine or_ok (L1:=L++[rowD n0 t r m md]) (H1:=putK H (xn n0) (entD n0 t r m md)) (qa:=bindD t n0 (wayOf r m md) (litQ i t)) (qb:=bindD t n0 (wayOf r m md) (litQ j t)) R hH1.asc (by omega) (by omega) (by omega) (by omega) (fun m' b a g0 X' Q' hm R0 k'=>?_) (fun m' b a g0 X' Q' hm R0 k'=>?_) fun g c Rg=>?_
  ·obtain ⟨kvs,e35,hk⟩:=R0.sc
   have R1:=R0.bnd (row:=rowD n0 t r m md) (kvs:=putK kvs (xn n0) (.int L.length)) (H':=putK H (xn n0) (entD n0 t r m md)) (by have:=putK_len' kvs (xn n0) (.int L.length);omega)
   refine rd_name R0 (by omega) fun m1 hm1=>?_
   refine name_any (l:=n0) (g:=bndH g0 L (rowD n0 t r m md) (putK kvs (xn n0) (.int L.length)) a (putK H (xn n0) (entD n0 t r m md))) (xn_nm (by omega)) R0 hr' (by omega) (.inr ⟨_,rfl⟩) (fun m2 spot Q' X' hm2 hq=>?_) R1.g36 (fun z=>nomatch z) (fun p2 z m2 X2 hm2=>?_)
   ·refine bound_A R0 e35 hk hx hx' (by omega) (by omega) (by omega) ?_
    rw [hL]
    rw [hL] at hq
    exact hq
   ·cases z
    exact rd_litQ R1 hb (by omega) (k' _ R1 fun i' o h1 h2 e=>bnd_frame h1 h2 e)
  ·have hxk:find (putAll K (putK H (xn n0) (entD n0 t r m md))) (xn n0)=some (entD n0 t r m md):=by
    rw [find_putAll hH1.nd,find_putK,if_pos rfl]
    rfl
   have R1:=(R0.app [.list []]).setH (H':=putK H (xn n0) (entD n0 t r m md))
   refine rd_name R0 (by omega) fun m1 hm1=>?_
   refine name_any (l:=n0) (g:=(g0++[AO.list []]).set a (.dict (putK H (xn n0) (entD n0 t r m md)))) (xn_nm (by omega)) R0 hr' (by omega) (.inr ⟨_,rfl⟩) (fun m2 spot Q' X' hm2 hq=>?_) R1.g36 (fun z=>nomatch z) (fun p2 z m2 X2 hm2=>?_)
   ·exact bound_B R0 (by have:=held_dep (wayOf r m md) t;omega) hx hxk (by omega) (by omega) hq
   ·cases z
    exact rd_litQ R1 hb (by omega) (k' _ R1 fun i' o h1 h2 e=>set_at (app_at e) (Ne.symm h2))
  ·exact kk g V c _ Rg (by omega) hH1
end
section
set_option maxRecDepth 100000
variable {h:Hp}{Q:D→Hp→Prop}{X:Nat→Hp→Prop}{n:Nat}
theorem b_mul {x y:Int}(hy:y.natAbs < 4294967296):Ev (binD .mul (.int x) (.int y) h) Q X=Q (.int (x * y)) h:=by
 unfold binD
 simp only [hy,if_true]
 exact propext Iff.rfl
theorem b_mod {x y:Int}(hy:y≠0):Ev (binD .mod (.int x) (.int y) h) Q X=Q (.int (Int.fmod x y)) h:=by
 unfold binD
 simp only [hy,if_false]
 exact propext Iff.rfl
theorem b_fdiv {x y:Int}(h1:0 < y)(h2:y≤1000000):Ev (binD .fdiv (.int x) (.int y) h) Q X=Q (.int (Int.fdiv x y)) h:=by
 unfold binD
 have:¬(y≤0∨1000000 < y):=by omega
 simp only [this,if_false]
 exact propext Iff.rfl
structure Src (h:Hp):Prop where
 ex:∃(a b:Int) (c:D),h[4]? = some (.list [.int a,.int b,c])∧0≤b∧b < 2147483647∧(c=.lst []∨(c=.loc 1∧∃ns:List Int,h[1]? = some (.list (ns.map D.int))∧ns.length≤100))
structure Drw (h h':Hp):Prop where
 src:Src h'
 len:h'.length=h.length
 at':∀i,i≠1→i≠4→h'[i]? = h[i]?
theorem Drw.refl (S:Src h):Drw h h:=⟨S,rfl,fun _ _ _=>rfl⟩
theorem Drw.trans {h1 h2 h3:Hp}(a:Drw h1 h2)(b:Drw h2 h3):Drw h1 h3:=⟨b.src,b.len.trans a.len,fun i h1 h2=>(b.at' i h1 h2).trans (a.at' i h1 h2)⟩
theorem fmod_nat {x:Int}{top:Nat}(ht:0 < top):∃j:Nat,j < top∧Int.fmod x top=j:=by
 have h1:0≤Int.fmod x top:=Int.fmod_nonneg_of_pos x (by omega)
 have h2:Int.fmod x top < top:=Int.fmod_lt_of_pos x (by omega)
 exact ⟨(Int.fmod x top).toNat,by omega,by omega⟩
theorem ints_plain:∀ns:List Int,D.plainAll (ns.map D.int)=true
 |[]=>rfl
 |n::r=>by
  show (D.plain (.int n)&&D.plainAll (r.map D.int))=true
  rw [ints_plain r]
  rfl
theorem take_ok {top:Nat}(S:Src h)(ht:0 < top)(ht':top≤1000)(hn:1≤n)(kk:∀(j:Nat) h',j < top→Drw h h'→Q (.int j) h'):Ev (callF tab n 70 [.loc 4,.int top] h) Q X:=by
 refine c_run (fi:=Z70) (ρ:=[some (.loc 4),some (.int top),none]) rfl rfl hn fun m hm=>?_
 obtain ⟨a,b,c,e4,hb0,hb1,hc⟩:=S.ex
 have ht0:(top:Int)≠0:=by omega
 rcases hc with rfl|⟨rfl,ns,e1,hns⟩
 ·have ec:∀{Q:D→Hp→Prop} {X:Nat→Hp→Prop},Ev (cmpD .ne (.lst []) (.lst []) h) Q X=Q (.bool false) h:=propext Iff.rfl
  by_cases ha:0 < a
  ·obtain ⟨j,hj,ej⟩:=fmod_nat (x:=a) ht
   have es:∀v:D,storeItem (.loc 4) (.int 0) v h=some (h.set 4 (.list [v,.int b,.lst []])):=fun v=>by
    have:=st_item (k:=0) (d:=v) e4 (by simp) (by simp [most])
    exact this
   simp! only [Z70,i_loc,at_of e4,ec,ha,b_mod ht0,ej,b_fdiv (x:=a) (y:=top) (by omega) (by omega),es]
   refine kk j _ hj ⟨⟨Int.fdiv a top,b,.lst [],set_self e4,hb0,hb1,.inl rfl⟩,by simp,fun i h1 h2=>?_⟩
   rw [List.getElem?_set_ne (Ne.symm h2)]
  ·obtain ⟨b',hb',eb'⟩:=fmod_nat (x:=b * 39373+7) (top:=2147483647) (by omega)
   have eb2:Int.fmod (b * 39373+7) 2147483647=(b':Int):=eb'
   have es:storeItem (.loc 4) (.int 1) (.int b') h=some (h.set 4 (.list [.int a,.int b',.lst []])):=st_item (k:=1) (d:=.int b') e4 (by simp) (by simp [most])
   have e4':(h.set 4 (.list [.int a,.int b',.lst []]))[4]? = some (.list [.int a,.int b',.lst []]):=set_self e4
   obtain ⟨j,hj,ej⟩:=fmod_nat (x:=Int.fdiv (Int.fmod ((b':Int) * b') 2147483629) 32) ht
   have hnb:(b':Int).natAbs < 4294967296:=by omega
   simp! only [Z70,i_loc,at_of e4,ec,ha,b_mul (x:=b) (y:=39373) (by decide),b_mod (x:=b * 39373+7) (y:=2147483647) (by decide),eb2,es]
   rw [at_of e4']
   simp! only [k_some]
   rw [at_of e4']
   simp! only [b_mul hnb,b_mod (x:=(b':Int) * b') (y:=2147483629) (by decide),b_fdiv (x:=Int.fmod ((b':Int) * b') 2147483629) (y:=32) (by decide) (by decide),b_mod ht0,ej]
   refine kk j _ hj ⟨⟨a,b',.lst [],e4',by omega,by omega,.inl rfl⟩,by simp,fun i h1 h2=>?_⟩
   rw [List.getElem?_set_ne (Ne.symm h2)]
 ·cases ns with
  |nil =>
   have ec:∀{Q:D→Hp→Prop} {X:Nat→Hp→Prop},Ev (cmpD .ne (.loc 1) (.lst []) h) Q X=Q (.bool false) h:=by
    intro Q X
    rw [q_nel e1 (ints_plain [])]
    rfl
   by_cases ha:0 < a
   ·obtain ⟨j,hj,ej⟩:=fmod_nat (x:=a) ht
    have es:∀v:D,storeItem (.loc 4) (.int 0) v h=some (h.set 4 (.list [v,.int b,.loc 1])):=fun v=>by
     have:=st_item (k:=0) (d:=v) e4 (by simp) (by simp [most])
     exact this
    simp! only [Z70,i_loc,at_of e4,ec,ha,b_mod ht0,ej,b_fdiv (x:=a) (y:=top) (by omega) (by omega),es]
    refine kk j _ hj ⟨⟨Int.fdiv a top,b,.loc 1,set_self e4,hb0,hb1,.inr ⟨rfl,[],set_at e1 (by decide),by simp⟩⟩,by simp,fun i h1 h2=>?_⟩
    rw [List.getElem?_set_ne (Ne.symm h2)]
   ·obtain ⟨b',hb',eb'⟩:=fmod_nat (x:=b * 39373+7) (top:=2147483647) (by omega)
    have eb2:Int.fmod (b * 39373+7) 2147483647=(b':Int):=eb'
    have es:storeItem (.loc 4) (.int 1) (.int b') h=some (h.set 4 (.list [.int a,.int b',.loc 1])):=st_item (k:=1) (d:=.int b') e4 (by simp) (by simp [most])
    have e4':(h.set 4 (.list [.int a,.int b',.loc 1]))[4]? = some (.list [.int a,.int b',.loc 1]):=set_self e4
    obtain ⟨j,hj,ej⟩:=fmod_nat (x:=Int.fdiv (Int.fmod ((b':Int) * b') 2147483629) 32) ht
    have hnb:(b':Int).natAbs < 4294967296:=by omega
    simp! only [Z70,i_loc,at_of e4,ec,ha,b_mul (x:=b) (y:=39373) (by decide),b_mod (x:=b * 39373+7) (y:=2147483647) (by decide),eb2,es]
    rw [at_of e4']
    simp! only [k_some]
    rw [at_of e4']
    simp! only [b_mul hnb,b_mod (x:=(b':Int) * b') (y:=2147483629) (by decide),b_fdiv (x:=Int.fmod ((b':Int) * b') 2147483629) (y:=32) (by decide) (by decide),b_mod ht0,ej]
    refine kk j _ hj ⟨⟨a,b',.loc 1,e4',by omega,by omega,.inr ⟨rfl,[],set_at e1 (by decide),by simp⟩⟩,by simp,fun i h1 h2=>?_⟩
    rw [List.getElem?_set_ne (Ne.symm h2)]
  |cons x ns =>
   have ec:∀{Q:D→Hp→Prop} {X:Nat→Hp→Prop},Ev (cmpD .ne (.loc 1) (.lst []) h) Q X=Q (.bool true) h:=by
    intro Q X
    rw [q_nel e1 (ints_plain (x::ns))]
    rfl
   have ep:∀{Q:D→Hp→Prop} {X:Nat→Hp→Prop},Ev (bmD .pop0 (.loc 1) [.int 0] h) Q X=Q (.int x) (h.set 1 (.list (ns.map D.int))):=by
    intro Q X
    unfold bmD
    simp only [e1,List.map_cons]
    rw [if_pos (by simp [most];simp at hns;omega)]
    exact propext Iff.rfl
   obtain ⟨j,hj,ej⟩:=fmod_nat (x:=x) ht
   simp! only [Z70,i_loc,at_of e4,ec,bmK,isK_list e1,ep,b_mod ht0,ej]
   refine kk j _ hj ⟨⟨a,b,.loc 1,set_at e4 (by decide),hb0,hb1,.inr ⟨rfl,ns,set_self e1,by simp at hns;omega⟩⟩,by simp,fun i h1 h2=>?_⟩
   rw [List.getElem?_set_ne (Ne.symm h1)]
theorem one_ok {ds:List D}(S:Src h)(hl:0 < ds.length)(hl':ds.length≤1000)(hn:2≤n)(kk:∀(j:Nat) d h',ds[j]? = some d→Drw h h'→Q d h'):Ev (callF tab n 71 [.loc 4,.lst ds] h) Q X:=by
 refine c_run (fi:=Z71) (ρ:=[some (.loc 4),some (.lst ds)]) rfl rfl (by omega) fun m hm=>?_
 simp! only [Z71]
 refine ⟨by omega,take_ok S hl hl' (by omega) fun j h' hj hd=>?_⟩
 rw [i_lst,idx_nat (by simp [most];omega),List.getElem?_eq_getElem hj,k_some]
 exact kk j _ h' (List.getElem?_eq_getElem hj) hd
theorem type_ok:∀(deep:Nat) {n:Nat} {h:Hp} {Q:D→Hp→Prop} {X:Nat→Hp→Prop},deep≤50→Src h→deep+2≤n→(∀(t:Ty) h',t.dep≤deep→Drw h h'→Q t.d h')→Ev (callF tab n 73 [.loc 4,.int deep] h) Q X:=by
 intro deep
 induction deep with
 |zero =>
  intro n h Q X _ S hn kk
  refine c_run (fi:=Z73) (ρ:=[some (.loc 4),some (.int (0:Nat)),none,none]) rfl rfl (by omega) fun m hm=>?_
  have e0:((0:Nat):Int)=0:=rfl
  simp! only [Z73,e0,Int.lt_irrefl]
  refine take_ok (top:=2) S (by omega) (by omega) (by omega) fun j h' hj hd=>?_
  have:j=0∨j=1:=by omega
  rcases this with rfl|rfl
  ·simp! only [e0]
   exact kk .u8 h' (by simp [Ty.dep]) hd
  ·have e1:((1:Nat):Int)=1:=rfl
   simp! only [e1]
   exact kk .bool h' (by simp [Ty.dep]) hd
 |succ deep ih =>
  intro n h Q X hdp S hn kk
  refine c_run (fi:=Z73) (ρ:=[some (.loc 4),some (.int (deep+1:Nat)),none,none]) rfl rfl (by omega) fun m hm=>?_
  have e0:(0:Int) < ((deep+1:Nat):Int):=by omega
  have e1:((deep+1:Nat):Int) - 1=(deep:Int):=by omega
  simp! only [Z73,e0]
  refine take_ok (top:=7) S (by omega) (by omega) (by omega) fun j h' hj hd=>?_
  have:j=0∨j=1∨j=2∨j=3∨j=4∨j=5∨j=6:=by omega
  rcases this with rfl|rfl|rfl|rfl|rfl|rfl|rfl
  ·simp only [show ((0:Nat):Int)=0 from rfl]
   simp! only [k_some]
   exact kk .u8 h' (by simp [Ty.dep]) hd
  ·simp only [show ((1:Nat):Int)=1 from rfl]
   simp! only [k_some]
   exact kk .bool h' (by simp [Ty.dep]) hd
  ·simp only [show ((2:Nat):Int)=2 from rfl]
   simp! only [Int.reduceEq]
   exact kk .s h' (by simp [Ty.dep]) hd
  ·simp only [show ((3:Nat):Int)=3 from rfl]
   simp! only [e1,Int.reduceEq]
   refine ih (by omega) hd.src (by omega) fun t h2 ht hd2=>?_
   simp_all! only [Int.reduceEq]
   exact kk (.pair t) h2 (by simp [Ty.dep];omega) (hd.trans hd2)
  ·simp only [show ((4:Nat):Int)=4 from rfl]
   simp! only [e1,Int.reduceEq]
   refine ih (by omega) hd.src (by omega) fun t h2 ht hd2=>?_
   simp_all! only [Int.reduceEq]
   exact kk (.en t) h2 (by simp [Ty.dep];omega) (hd.trans hd2)
  ·simp only [show ((5:Nat):Int)=5 from rfl]
   simp! only [e1,Int.reduceEq]
   refine ih (by omega) hd.src (by omega) fun t h2 ht hd2=>?_
   simp_all! only [Int.reduceEq]
   exact kk (.rf false t) h2 (by simp [Ty.dep];omega) (hd.trans hd2)
  ·simp only [show ((6:Nat):Int)=6 from rfl]
   simp! only [e1,Int.reduceEq]
   refine ih (by omega) hd.src (by omega) fun t h2 ht hd2=>?_
   simp_all! only [Int.reduceEq]
   exact kk (.rf true t) h2 (by simp [Ty.dep];omega) (hd.trans hd2)
end
section
set_option maxRecDepth 100000
variable {h:Hp}{Q:D→Hp→Prop}{X:Nat→Hp→Prop}{n:Nat}
structure Dr (h h':Hp):Prop where
 src:Src h'
 len:h'.length=h.length
 at':∀i,i≠1→i≠4→i≠5→h'[i]? = h[i]?
theorem Drw.dr {h h':Hp}(d:Drw h h'):Dr h h':=⟨d.src,d.len,fun i a b _=>d.at' i a b⟩
theorem Dr.refl (S:Src h):Dr h h:=⟨S,rfl,fun _ _ _ _=>rfl⟩
theorem Dr.trans {h1 h2 h3:Hp}(a:Dr h1 h2)(b:Dr h2 h3):Dr h1 h3:=⟨b.src,b.len.trans a.len,fun i h1 h2 h3=>(b.at' i h1 h2 h3).trans (a.at' i h1 h2 h3)⟩
theorem Drw.five {h h':Hp}(d:Drw h h'){o:AO}(e:h[(5:Nat)]? = some o):h'[(5:Nat)]? = some o:=(d.at' 5 (by decide) (by decide)).trans e
theorem Src.set5 {o:AO}(S:Src h):Src (h.set 5 o):=by
 obtain ⟨a,b,c,e4,h0,h1,hc⟩:=S.ex
 refine ⟨a,b,c,set_at e4 (by decide),h0,h1,hc.imp id fun ⟨z,ns,e1,hl⟩=>⟨z,ns,set_at e1 (by decide),hl⟩⟩
theorem set5_dr {o:AO}(S:Src h):Dr h (h.set 5 o):=⟨S.set5,by simp,fun i _ _ h3=>by rw [List.getElem?_set_ne (Ne.symm h3)]⟩
abbrev nam5 (x:List Nat)(r m:Bool):D:=.tup [.str [110,97,109,101],.int 1,.str x,.bool r,.bool m]
theorem lname_end {t:Ty}{md:Mo'}{rs0:List D}{r m:Bool}(S:Src h)(e5:h[(5:Nat)]? = some (.list rs0))(hl:rs0.length < 40){R:D→Hp→Prop}{cf:Nat→List D→M D}{X':Nat→Ve→Hp→Prop}
  (kk:∀h',Dr h h'→h'[(5:Nat)]? = some (.list (rs0++[rowD rs0.length t r m md]))→R (.tup [nam5 (xn rs0.length) r m,.tup [.int rs0.length,(wayOf r m md).d]]) h') :
  Sv (evSs clsT cf (.cons (.asn (.n 7) (.bin .add (.lit (.str [120])) (.bi .str (.cons (.bi .len (.cons (.var 3) .nil)) .nil))))
  (.cons (.ex (.bm .append (.var 3) (.cons (.vlist (.cons (.var 7) (.cons (.ite (.cmp .eq (.var 6) (.lit (.str [109,111,118,101]))) (.var 1) (.tup (.cons (.lit (.str [114,101,102])) (.cons (.lit .none) (.cons (.cmp .eq (.var 6) (.lit (.str [109,117,116]))) (.cons (.var 1) .nil)))))) (.cons (.andor true (.cons (.var 4) (.cons (.not (.var 5)) .nil))) .nil)))) .nil)))
  (.cons (.ret (.tup (.cons (.tup (.cons (.lit (.str [110,97,109,101])) (.cons (.lit (.int 1)) (.cons (.var 7) (.cons (.var 5) (.cons (.var 4) .nil)))))) (.cons (.tup (.cons (.bin .sub (.bi .len (.cons (.var 3) .nil)) (.lit (.int 1))) (.cons (.var 6) .nil))) .nil))))
  .nil))) [some (.loc 4),some t.d,some md.d,some (.loc 5),some (.bool m),some (.bool r),some (wayOf r m md).d,none] h) (fun f _ h1=>retK f fun d=>R d h1) X':=by
 have hx:(strI (rs0.length:Int)).length≤49:=by have:=(xn_nm hl).l;unfold xn at this;simpa using this
 have h1:(0:Int)≤(rs0.length:Int)∧(rs0.length:Int) < 1000:=by omega
 have hlm:rs0.length≤100000:=by omega
 have e5':∀o:AO,(h.set 5 o)[(5:Nat)]? = some o:=fun o=>set_self e5
 have e6:((rs0.length+1:Nat):Int) - 1=(rs0.length:Int):=by omega
 have hlm':rs0.length+1≤100000:=by omega
 have hs:[120].length+(strI (rs0.length:Int)).length≤100000:=by simp;omega
 have hp:∀x:D,Ev (bmD .append (.loc 5) [x] h)=fun Q X=>Q .none (h.set 5 (.list (rs0++[x]))):=fun x=>by
  funext Q X
  exact p_app e5 (by simp [most];omega)
 have fin:R (.tup [nam5 (xn rs0.length) r m,.tup [.int rs0.length,(wayOf r m md).d]]) (h.set 5 (.list (rs0++[rowD rs0.length t r m md]))):=kk _ (set5_dr S) (set_self e5)
 simp only [rowD,nam5,heldT,xn] at fin
 generalize hw:wayOf r m md=w at *
 cases w<;>cases r<;>cases m <;>
 ·simp only [heldT,Ty.d,Mo'.d,Mo'.s,Bool.not_true,Bool.not_false,Bool.and_true,Bool.and_false] at fin
  simp! only [sq_loc,at_of e5,hlm,f_str,h1,b_adds,hs,bmK,isK_list e5,hp,Mo'.d,Mo'.s,at_of (e5' _),List.length_append,hlm',e6]
  exact ⟨by omega,fin⟩
theorem lname_ok {t:Ty}{md:Mo'}{rs0:List D}(S:Src h)(e5:h[(5:Nat)]? = some (.list rs0))(hl:rs0.length < 40)(hn:2≤n)(kk:∀r m h',(r=true→md=.mv)→Dr h h'→h'[(5:Nat)]? = some (.list (rs0++[rowD rs0.length t r m md]))→Q (.tup [nam5 (xn rs0.length) r m,.tup [.int rs0.length,(wayOf r m md).d]]) h') :
  Ev (callF tab n 77 [.loc 4,t.d,md.d,.loc 5] h) Q X:=by
 refine c_run (fi:=Z77) (ρ:=[some (.loc 4),some t.d,some md.d,some (.loc 5),none,none,none,none]) rfl rfl (by omega) fun k hm=>?_
 unfold Z77
 simp only
 rw [ss_cons,s_asn,v_cmp,v_call,v_cons,v_var]
 simp only [List.getElem?_cons_zero,k_some,v_cons,v_lit,v_nil]
 refine take_ok (top:=3) S (by omega) (by omega) (by omega) fun j1 h1 hj1 d1=>?_
 simp only [q_eqi]
 obtain ⟨m,hmm⟩:∃m,m=decide ((j1:Int)=0):=⟨_,rfl⟩
 rw [←hmm]
 simp only [Tg.set,List.set_cons_succ,List.set_cons_zero,k_some,fl_nx]
 rw [ss_cons,s_asn,v_andor,v_ao2]
 have ha:asc md.s=true:=by cases md<;>rfl
 simp only [v_cmp,v_var,v_lit,List.getElem?_cons_zero,List.getElem?_cons_succ,k_some,q_eqs ha (show asc [109,111,118,101]=true from rfl),v_ao1,v_call,v_cons,v_nil]
 cases md with
 |mv =>
  simp only [Mo'.s,decide_true,k_true,if_true]
  refine take_ok (top:=3) d1.src (by omega) (by omega) (by omega) fun j2 h2 hj2 d2=>?_
  simp only [q_eqi]
  obtain ⟨r,hrr⟩:∃r,r=decide ((j2:Int)=0):=⟨_,rfl⟩
  rw [←hrr]
  simp only [Tg.set,List.set_cons_succ,List.set_cons_zero,k_some,fl_nx]
  have go:=fun K=>lname_end (t:=t) (md:=.mv) (r:=r) (m:=m) (R:=Q) (cf:=callF tab k) (X':=fun c _ h=>X c h) d2.src (d2.five (d1.five e5)) hl K
  have go':=go fun h' dr e=>kk r m h' (fun _=>rfl) ((d1.trans d2).dr.trans dr) e
  cases r<;>cases m <;>
  ·rw [ss_cons,s_asn]
   simp only [v_ite,v_var,v_lit,List.getElem?_cons_zero,List.getElem?_cons_succ,k_some,k_true,k_false,Tg.set,List.set_cons_succ,List.set_cons_zero,fl_nx]
   exact go'
 |rf =>
  have go:=lname_end (t:=t) (md:=.rf) (r:=false) (m:=m) (R:=Q) (cf:=callF tab k) (X':=fun c _ h=>X c h) d1.src (d1.five e5) hl fun h' dr e=>kk false m h' (fun z=>nomatch z) (d1.dr.trans dr) e
  cases m <;>
  ·simp (config:={decide:=true}) only [Mo'.s,decide_false,k_false,if_true,Tg.set,List.set_cons_succ,List.set_cons_zero,k_some,fl_nx]
   rw [ss_cons,s_asn]
   simp only [v_ite,v_var,v_lit,List.getElem?_cons_zero,List.getElem?_cons_succ,k_some,k_true,k_false,Tg.set,List.set_cons_succ,List.set_cons_zero,fl_nx]
   exact go
 |mt =>
  have go:=lname_end (t:=t) (md:=.mt) (r:=false) (m:=m) (R:=Q) (cf:=callF tab k) (X':=fun c _ h=>X c h) d1.src (d1.five e5) hl fun h' dr e=>kk false m h' (fun z=>nomatch z) (d1.dr.trans dr) e
  cases m <;>
  ·simp (config:={decide:=true}) only [Mo'.s,decide_false,k_false,if_true,Tg.set,List.set_cons_succ,List.set_cons_zero,k_some,fl_nx]
   rw [ss_cons,s_asn]
   simp only [v_ite,v_var,v_lit,List.getElem?_cons_zero,List.getElem?_cons_succ,k_some,k_true,k_false,Tg.set,List.set_cons_succ,List.set_cons_zero,fl_nx]
   exact go
end
section
set_option maxRecDepth 100000
variable {h:Hp}{Q:D→Hp→Prop}{X:Nat→Hp→Prop}{n:Nat}
theorem thr_lit {v:Int}:∀{t:Ty},t.bot=.u8→t.thr (conD .u8 (.int v))=litQ v t
 |.rf b t,h=>by
  show D.tup [_,_,t.thr _]=_
  rw [thr_lit (t:=t) h]
  rfl
 |.u8,_=>rfl
 |.bool,h=>by cases h
 |.s,h=>by cases h
 |.pair _,h=>by cases h
 |.en _,h=>by cases h
theorem b_addt {a b c d e z:D}:Ev (binD .add (.tup [a,b,c,d,e]) (.tup [z]) h) Q X=Q (.tup [a,b,c,d,e,z]) h:=propext Iff.rfl
theorem llits_ok {t:Ty}{md:Mo'}{rs0:List D}(hb:t.bot=.u8)(S:Src h)(e5:h[(5:Nat)]? = some (.list rs0))(hl:rs0.length < 40)(hn:t.dep+4≤n)
  (kk:∀p q rs h',(∀d,Rp d t md rs0.length p q rs)→rs.length≤1→(∃l,p=.tup l)→Dr h h'→h'[(5:Nat)]? = some (.list (rs0++rs))→Q (.tup [p,q]) h'):Ev (callF tab n 78 [.loc 4,t.d,md.d,.loc 5] h) Q X:=by
 refine c_run (fi:=Z78) (ρ:=[some (.loc 4),some t.d,some md.d,some (.loc 5),none,none,none,none,none,none,none,none,none,none,none]) rfl rfl (by omega) fun k hm=>?_
 simp! only [Z78]
 refine lbot_ok (by omega) ?_
 rw [hb]
 simp_all! only [k_some]
 refine take_ok (top:=2) S (by omega) (by omega) (by omega) fun j1 h1 hj1 d1=>?_
 obtain ⟨v1,v2,hv⟩:∃v1 v2:Int,∀{Q:D→Hp→Prop} {X:Nat→Hp→Prop},Ev (itemOf (.lst [.tup [.int 5,.int 6],.tup [.int 0,.int 255]]) (.int j1) h1) Q X=Q (.tup [.int v1,.int v2]) h1:=by
  have:j1=0∨j1=1:=by omega
  rcases this with rfl|rfl
  ·exact ⟨5,6,fun {Q X}=>propext Iff.rfl⟩
  ·exact ⟨0,255,fun {Q X}=>propext Iff.rfl⟩
 simp! only [hv]
 refine lthr_ok (by omega) ?_
 simp_all! only [k_some]
 refine lthr_ok (by omega) ?_
 rw [thr_lit hb,thr_lit hb]
 simp_all! only [k_some]
 refine take_ok (top:=2) d1.src (by omega) (by omega) (by omega) fun j2 h2 hj2 d2=>?_
 have:j2=0∨j2=1:=by omega
 rcases this with rfl|rfl
 ·simp! only [show ((0:Nat):Int)=0 from rfl]
  refine lname_ok d2.src (d2.five (d1.five e5)) hl (by omega) fun r m h3 hr d3 e3=>?_
  simp! only [b_addt]
  exact kk _ _ _ h3 (fun d=>.orn v1 v2 r m hb hr) (by simp) ⟨_,rfl⟩ ((d1.trans d2).dr.trans d3) e3
 ·simp! only [show ((1:Nat):Int)=1 from rfl,Int.reduceEq]
  exact kk _ _ _ h2 (fun d=>.orl v1 v2 hb) (by simp) ⟨_,rfl⟩ (d1.trans d2).dr (by rw [List.append_nil];exact d2.five (d1.five e5))
def Ty.isU:Ty→Bool
 |.u8=>true
 |_=>false
def Ty.isB:Ty→Bool
 |.bool=>true
 |_=>false
theorem eq_tb {t:Ty}{Q:D→Hp→Prop}:Ev (cmpD .eq t.d (.tup [.str [98,111,111,108]]) h) Q X=Q (.bool t.isB) h:=by
 rw [q_eq (x:=t.d) (y:=.tup [.str [98,111,111,108]]) (by cases t<;>rfl) rfl (by unfold okEq;simp [t.plain,D.plain,D.plainAll,D.shal,D.shalAll])]
 cases t<;>rfl
theorem eq_tu {t:Ty}{Q:D→Hp→Prop}:Ev (cmpD .eq t.d (.tup [.str [105,110,116],.str [117,56]]) h) Q X=Q (.bool t.isU) h:=by
 rw [q_eq (x:=t.d) (y:=.tup [.str [105,110,116],.str [117,56]]) (by cases t<;>rfl) rfl (by unfold okEq;simp [t.plain,D.plain,D.plainAll,D.shal,D.shalAll])]
 cases t<;>rfl
inductive Shp (e:Nat) (t:Ty) (md:Mo') (n:Nat):D→D→List D→Prop
 |core {p q rs}:Core p→Rp e t md n p q rs→Shp e t md n p q rs
 |k:t.bot=.u8→Shp e t md n (nameD [75] false false .none) (litQ 7 t) []
 |p:isEn t.bot=true→Shp e t md n (nameD [80] false false .none) (uniQ t) []
theorem Shp.rp {e:Nat}{t:Ty}{md:Mo'}{n:Nat}{p q:D}{rs:List D}(s:Shp e t md n p q rs):Rp e t md n p q rs:=by
 cases s with
 |core _ r=>exact r
 |k h=>exact .cK h
 |p h=>exact .uP h
theorem Shp.tup {e:Nat}{t:Ty}{md:Mo'}{n:Nat}{p q:D}{rs:List D}(s:Shp e t md n p q rs):∃l,p=.tup l:=by
 cases s with
 |core c _=>cases c<;>exact ⟨_,rfl⟩
 |k h=>exact ⟨_,rfl⟩
 |p h=>exact ⟨_,rfl⟩
theorem Rp.more {d d' n:Nat}{t:Ty}{md:Mo'}{p q:D}{rs:List D}(h:Rp d t md n p q rs)(hd:d≤d'):Rp d' t md n p q rs:=by
 cases h with
 |wild=>exact .wild
 |name r m h=>exact .name r m h
 |nin r m h h1 h2 h3 h4=>exact .nin r m h (by omega) h2 h3 h4
 |ref h1 h2=>exact .ref (by omega) h2
 |der h1 h2 h3=>exact .der (by omega) h2 h3
 |litb b=>exact .litb b
 |liti b=>exact .liti b
 |rng=>exact .rng
 |tup h1 h2 h3=>exact .tup (by omega) h2 h3
 |fs1 h1 h2=>exact .fs1 (by omega) h2
 |fs2 h1 h2 h3=>exact .fs2 (by omega) h2 h3
 |vq h1 h2 h3=>exact .vq (by omega) h2 h3
 |cK h=>exact .cK h
 |uP h=>exact .uP h
 |orl i j h=>exact .orl i j h
 |orn i j r m h h1=>exact .orn i j r m h h1
def DOK (D':Nat):Prop:=∀{t:Ty} {md:Mo'} {h:Hp} {rs0:List D} {n:Nat} {Q:D→Hp→Prop} {X:Nat→Hp→Prop} {dp:Int},dp=(D':Int) - 2→t.dep≤5→Src h→h[(5:Nat)]? = some (.list rs0)→rs0.length+2 ^ (D' - 1)≤39→3 * D'+t.dep+13≤n →
 (∀p q rs h',Rp (3 * t.dep+3 * D') t md rs0.length p q rs→rs.length≤2 ^ (D' - 1)→(∃l,p=.tup l)→Dr h h'→h'[(5:Nat)]? = some (.list (rs0++rs))→Q (.tup [p,q]) h')→Ev (callF tab n 79 [.loc 4,t.d,md.d,.loc 5,.int dp] h) Q X
theorem struct_S {D':Nat}(ih:DOK (D'+1)){md:Mo'}{rs0:List D}{dp:Int}(hdp:dp=((D'+2:Nat):Int) - 2)(S:Src h)(e5:h[(5:Nat)]? = some (.list rs0))(hl:rs0.length+2 ^ (D'+1)≤39)(hn:3 * (D'+2)+11≤n)
  (kk:∀p q rs h',Shp (3 * (D'+2)) .s md rs0.length p q rs→rs.length≤2 ^ (D'+1)→Dr h h'→h'[(5:Nat)]? = some (.list (rs0++rs))→Q (.tup [p,q]) h'):Ev (callF tab n 81 [.loc 4,Ty.s.d,md.d,.loc 5,.int dp] h) Q X:=by
 refine c_run (fi:=Z81) (ρ:=[some (.loc 4),some Ty.s.d,some md.d,some (.loc 5),some (.int dp),none,none,none,none,none,none,none]) rfl rfl (by omega) fun k hm=>?_
 have e:Ty.s.d=.tup [.str [97,100,116],.str [83],.tup [],.tup []]:=rfl
 have hpow:2 ^ (D'+1)=2 ^ D'+2 ^ D':=by rw [Nat.pow_succ];omega
 have hpos:0 < 2 ^ D':=Nat.two_pow_pos D'
 simp! only [Z81,e]
 refine take_ok (top:=2) S (by omega) (by omega) (by omega) fun j1 h1 hj1 d1=>?_
 have:j1=0∨j1=1:=by omega
 rcases this with rfl|rfl
 ·simp! only [show ((0:Nat):Int)=0 from rfl]
  refine ih (t:=.bool) (by omega) (by unfold Ty.dep;omega) d1.src (d1.five e5) (by simp;omega) (by unfold Ty.dep;omega) fun p q rs h2 P hrs hpt d2 e2=>?_
  simp! only [k_some]
  refine kk _ _ rs h2 (.core (.fld _ _ _) (.fs1 (by unfold Ty.dep;omega) P)) (by simp at hrs;omega) (d1.dr.trans d2) e2
 ·simp! only [show ((1:Nat):Int)=1 from rfl,Int.reduceEq]
  refine ih (t:=.bool) (by omega) (by unfold Ty.dep;omega) d1.src (d1.five e5) (by simp;omega) (by unfold Ty.dep;omega) fun p q rs h2 P hrs hpt d2 e2=>?_
  simp only [Nat.add_sub_cancel] at hrs
  simp! only [k_some]
  refine ih (t:=.u8) (by omega) (by unfold Ty.dep;omega) d2.src e2 (by simp;omega) (by unfold Ty.dep;omega) fun p' q' rs' h3 P' hrs' hpt' d3 e3=>?_
  simp only [Nat.add_sub_cancel] at hrs'
  simp only [List.length_append] at P'
  simp! only [k_some]
  refine kk _ _ (rs++rs') h3 (.core (.fld _ _ _) (.fs2 (by unfold Ty.dep;omega) P P')) (by simp;omega) ((d1.dr.trans d2).trans d3) (by rw [←List.append_assoc];exact e3)
theorem struct_E {D':Nat}(ih:DOK (D'+1)){t:Ty}{md:Mo'}{rs0:List D}{dp:Int}(ht:t.dep≤4)(hdp:dp=((D'+2:Nat):Int) - 2)(S:Src h)(e5:h[(5:Nat)]? = some (.list rs0))(hl:rs0.length+2 ^ (D'+1)≤39)(hn:3 * (D'+2)+t.dep+11≤n)
  (kk:∀p q rs h',Shp (3 * (Ty.en t).dep+3 * (D'+2)) (.en t) md rs0.length p q rs→rs.length≤2 ^ (D'+1)→Dr h h'→h'[(5:Nat)]? = some (.list (rs0++rs))→Q (.tup [p,q]) h'):Ev (callF tab n 81 [.loc 4,(Ty.en t).d,md.d,.loc 5,.int dp] h) Q X:=by
 refine c_run (fi:=Z81) (ρ:=[some (.loc 4),some (Ty.en t).d,some md.d,some (.loc 5),some (.int dp),none,none,none,none,none,none,none]) rfl rfl (by omega) fun k hm=>?_
 have e:(Ty.en t).d=.tup [.str [97,100,116],.str [69],.tup [],.tup [t.d]]:=rfl
 have hpow:2 ^ (D'+1)=2 ^ D'+2 ^ D':=by rw [Nat.pow_succ];omega
 have hpos:0 < 2 ^ D':=Nat.two_pow_pos D'
 simp! only [Z81,e]
 refine take_ok (top:=3) S (by omega) (by omega) (by omega) fun j1 h1 hj1 d1=>?_
 by_cases hj:j1=0
 ·subst hj
  simp! only [show ((0:Nat):Int)=0 from rfl]
  refine kk _ _ [] h1 (.p rfl) (by simp) d1.dr (by rw [List.append_nil];exact d1.five e5)
 ·have hj':¬((j1:Int)=0):=by omega
  simp! only [hj']
  refine ih (t:=t) (by omega) (by omega) d1.src (d1.five e5) (by simp;omega) (by omega) fun p q rs h2 P hrs hpt d2 e2=>?_
  simp only [Nat.add_sub_cancel] at hrs
  simp! only [k_some]
  refine ih (t:=.u8) (by omega) (by unfold Ty.dep;omega) d2.src e2 (by simp;omega) (by unfold Ty.dep;omega) fun p' q' rs' h3 P' hrs' hpt' d3 e3=>?_
  simp only [Nat.add_sub_cancel] at hrs'
  simp only [List.length_append] at P'
  simp! only [k_some]
  refine kk _ _ (rs++rs') h3 (.core (.var _ _) (.vq (d:=3 * t.dep+3 * (D'+1)) (by have:(Ty.en t).dep=t.dep+1:=rfl;omega) P (by
   have:3 * Ty.u8.dep+3 * (D'+1)≤3 * t.dep+3 * (D'+1):=by have:Ty.u8.dep=0:=rfl;omega
   exact P'.more this))) (by simp;omega) ((d1.dr.trans d2).trans d3) (by rw [←List.append_assoc];exact e3)
theorem pair_ok {D':Nat}(ih:DOK (D'+1)){t:Ty}{md:Mo'}{rs0:List D}{dp:Int}{k:Nat}(ht:t.dep≤4)(hdp:dp=((D'+2:Nat):Int) - 2)(S:Src h)(e5:h[(5:Nat)]? = some (.list rs0))(hl:rs0.length+2 ^ (D'+1)≤39)(hn:3 * (D'+2)+t.dep+10≤k){Q:D→D→D→D→Hp→Prop}
  (kk:∀p q p' q' rs h',Shp (3 * (Ty.pair t).dep+3 * (D'+2)) (.pair t) md rs0.length (tupD [p,p']) (fldD (.pair t) [q,q']) rs→rs.length≤2 ^ (D'+1)→Dr h h'→h'[(5:Nat)]? = some (.list (rs0++rs))→Q p q p' q' h') :
  Ev (callF tab k 79 [.loc 4,t.d,md.d,.loc 5,.int (dp - 1)] h) (fun x h1=>∃p q,x=.tup [p,q]∧Ev (callF tab k 79 [.loc 4,Ty.u8.d,md.d,.loc 5,.int (dp - 1)] h1) (fun x' h2=>∃p' q',x'=.tup [p',q']∧Q p q p' q' h2) X) X:=by
 have hpow:2 ^ (D'+1)=2 ^ D'+2 ^ D':=by rw [Nat.pow_succ];omega
 have hpos:0 < 2 ^ D':=Nat.two_pow_pos D'
 refine ih (t:=t) (by omega) (by omega) S e5 (by simp;omega) (by omega) fun p q rs h2 P hrs hpt d2 e2=>?_
 simp only [Nat.add_sub_cancel] at hrs
 refine ⟨p,q,rfl,?_⟩
 refine ih (t:=.u8) (by omega) (by unfold Ty.dep;omega) d2.src e2 (by simp;omega) (by unfold Ty.dep;omega) fun p' q' rs' h3 P' hrs' hpt' d3 e3=>?_
 simp only [Nat.add_sub_cancel] at hrs'
 simp only [List.length_append] at P'
 refine ⟨p',q',rfl,kk p q p' q' (rs++rs') h3 (.core (.tup _) (.tup (d:=3 * t.dep+3 * (D'+1)) (by have:(Ty.pair t).dep=t.dep+1:=rfl;omega) P (by
   have:3 * Ty.u8.dep+3 * (D'+1)≤3 * t.dep+3 * (D'+1):=by have:Ty.u8.dep=0:=rfl;omega
   exact P'.more this))) (by simp;omega) (d2.trans d3) (by rw [←List.append_assoc];exact e3)⟩
theorem shaped_ok {D':Nat}(ih:DOK (D'+1)):∀{t:Ty} {md:Mo'} {h:Hp} {rs0:List D} {n:Nat} {Q:D→Hp→Prop} {X:Nat→Hp→Prop} {dp:Int},dp=((D'+2:Nat):Int) - 2→t.dep≤5→Src h→h[(5:Nat)]? = some (.list rs0)→rs0.length+2 ^ (D'+1)≤39→3 * (D'+2)+t.dep+12≤n →
  (∀p q rs h',Shp (3 * t.dep+3 * (D'+2)) t md rs0.length p q rs→rs.length≤2 ^ (D'+1)→Dr h h'→h'[(5:Nat)]? = some (.list (rs0++rs))→Q (.tup [p,q]) h')→Ev (callF tab n 80 [.loc 4,t.d,md.d,.loc 5,.int dp] h) Q X:=by
 intro t
 induction t with
 |rf b t iht =>
  intro md h rs0 n Q X dp hdp ht S e5 hl hn kk
  have hd:(Ty.rf b t).dep=t.dep+1:=rfl
  refine c_run (fi:=Z80) (ρ:=[some (.loc 4),some (Ty.rf b t).d,some md.d,some (.loc 5),some (.int dp),none,none,none,none,none,none,none,none,none]) rfl rfl (by omega) fun k hm=>?_
  have e:(Ty.rf b t).d=.tup [.str [114,101,102],.none,.bool b,t.d]:=rfl
  simp! only [Z80,e]
  refine lbehind_ok (by omega) ?_
  simp_all! only [k_some]
  refine iht hdp (by omega) S e5 hl (by omega) fun p q rs h2 P hrs d2 e2=>?_
  simp! only [k_some]
  rw [←e]
  have go:=fun P'=>kk p (derD (.rf b t) q) rs h2 P' hrs d2 e2
  cases P with
  |core c P=>exact go (.core c (.der (d:=3 * t.dep+3 * (D'+2)) (by omega) c P))
  |k hb=>exact go (.k hb)
  |p hb=>exact go (.p hb)
 |bool =>
  intro md h rs0 n Q X dp hdp ht S e5 hl hn kk
  refine c_run (fi:=Z80) (ρ:=[some (.loc 4),some Ty.bool.d,some md.d,some (.loc 5),some (.int dp),none,none,none,none,none,none,none,none,none]) rfl rfl (by omega) fun k hm=>?_
  simp! only [Z80,i_ty,Ty.kd,eq_tb,Ty.isB]
  refine take_ok (top:=2) S (by omega) (by omega) (by omega) fun j1 h1 hj1 d1=>?_
  simp! only [k_some]
  exact kk _ _ [] h1 (.core (.lit _) (.litb _)) (by simp) d1.dr (by rw [List.append_nil];exact d1.five e5)
 |u8 =>
  intro md h rs0 n Q X dp hdp ht S e5 hl hn kk
  refine c_run (fi:=Z80) (ρ:=[some (.loc 4),some Ty.u8.d,some md.d,some (.loc 5),some (.int dp),none,none,none,none,none,none,none,none,none]) rfl rfl (by omega) fun k hm=>?_
  simp! only [Z80,i_ty,Ty.kd,eq_tb,eq_tu,Ty.isB,Ty.isU]
  refine one_ok S (by simp) (by simp) (by omega) fun j d h1 hj d1=>?_
  have e1:h1[(5:Nat)]? = some (.list (rs0++[])):=by rw [List.append_nil];exact d1.five e5
  match j,hj with
  |0,hj=>cases hj;exact kk _ _ [] h1 (.core (.lit _) (.liti 9)) (by simp) d1.dr e1
  |1,hj=>cases hj;exact kk _ _ [] h1 (.core .rng .rng) (by simp) d1.dr e1
  |2,hj=>cases hj;exact kk _ _ [] h1 (.k rfl) (by simp) d1.dr e1
  |j+3,hj=>simp at hj
 |pair t iht =>
  intro md h rs0 n Q X dp hdp ht S e5 hl hn kk
  have hd:(Ty.pair t).dep=t.dep+1:=rfl
  refine c_run (fi:=Z80) (ρ:=[some (.loc 4),some (Ty.pair t).d,some md.d,some (.loc 5),some (.int dp),none,none,none,none,none,none,none,none,none]) rfl rfl (by omega) fun k hm=>?_
  have e:(Ty.pair t).d=.tup [.str [116,117,112,108,101],.tup [t.d,Ty.u8.d]]:=rfl
  have ei:∀{Q:D→Hp→Prop} {X:Nat→Hp→Prop},Ev (itemOf (Ty.pair t).d (.int 1) h) Q X=Q (.tup [t.d,Ty.u8.d]) h:=propext Iff.rfl
  simp! only [Z80,i_ty,Ty.kd,eq_tb,eq_tu,Ty.isB,Ty.isU,ei]
  refine (pair_ok (Q:=fun p q p' q' h2=>Q (.tup [tupD [p,p'],fldD (.pair t) [q,q']]) h2) ih (by omega) hdp S e5 hl (by omega) fun p q p' q' rs h2 P hrs d2 e2=>kk _ _ rs h2 P hrs d2 e2).mono (fun x h1 z=>?_) fun _ _ z=>z
  obtain ⟨p,q,rfl,z⟩:=z
  refine z.mono (fun x h2 z=>?_) fun _ _ z=>z
  obtain ⟨p',q',rfl,z⟩:=z
  simp! only [k_some]
  exact z
 |s =>
  intro md h rs0 n Q X dp hdp ht S e5 hl hn kk
  refine c_run (fi:=Z80) (ρ:=[some (.loc 4),some Ty.s.d,some md.d,some (.loc 5),some (.int dp),none,none,none,none,none,none,none,none,none]) rfl rfl (by omega) fun k hm=>?_
  simp! only [Z80,i_ty,Ty.kd,eq_tb,eq_tu,Ty.isB,Ty.isU]
  refine struct_S ih hdp S e5 hl (by omega) fun p q rs h2 P hrs d2 e2=>kk p q rs h2 ?_ hrs d2 e2
  have hd:Ty.s.dep=0:=rfl
  rw [hd,Nat.mul_zero,Nat.zero_add]
  exact P
 |en t iht =>
  intro md h rs0 n Q X dp hdp ht S e5 hl hn kk
  have hd:(Ty.en t).dep=t.dep+1:=rfl
  refine c_run (fi:=Z80) (ρ:=[some (.loc 4),some (Ty.en t).d,some md.d,some (.loc 5),some (.int dp),none,none,none,none,none,none,none,none,none]) rfl rfl (by omega) fun k hm=>?_
  simp! only [Z80,i_ty,Ty.kd,eq_tb,eq_tu,Ty.isB,Ty.isU]
  exact struct_E ih (by omega) hdp S e5 hl (by omega) kk
end
section
set_option maxRecDepth 100000
variable {h:Hp}{Q:D→Hp→Prop}{X:Nat→Hp→Prop}{n:Nat}
theorem seven {j:Nat}(h:j < 7):j=0∨j=1∨j=2∨j=3∨j=4∨j=5∨j=6:=by omega
theorem dok1:DOK 1:=by
 intro t md h rs0 n Q X dp hdp ht S e5 hl hn kk
 have hdp':dp=-1:=by omega
 subst hdp'
 refine c_run (fi:=Z79) (ρ:=[some (.loc 4),some t.d,some md.d,some (.loc 5),some (.int (-1)),none,none,none,none,none,none]) rfl rfl (by omega) fun k hm=>?_
 simp! only [Z79]
 refine take_ok (top:=7) S (by omega) (by omega) (by omega) fun j h1 hj d1=>?_
 have fin:∀{Q':D→Hp→Prop} {X':Nat→Hp→Prop},(∀r m h2,(r=true→md=.mv)→Dr h1 h2→h2[(5:Nat)]? = some (.list (rs0++[rowD rs0.length t r m md]))→Q' (.tup [nam5 (xn rs0.length) r m,.tup [.int rs0.length,(wayOf r m md).d]]) h2)→Ev (callF tab k 77 [.loc 4,t.d,md.d,.loc 5] h1) Q' X':=fun K=>lname_ok d1.src (d1.five e5) (by simp at hl;omega) (by omega) K
 rcases seven hj with rfl|rfl|rfl|rfl|rfl|rfl|rfl
 ·simp! only [show ((0:Nat):Int)=0 from rfl]
  exact kk _ _ [] h1 .wild (by simp) ⟨_,rfl⟩ d1.dr (by rw [List.append_nil];exact d1.five e5)
 all_goals
  simp only [show ((1:Nat):Int)=1 from rfl,show ((2:Nat):Int)=2 from rfl,show ((3:Nat):Int)=3 from rfl,show ((4:Nat):Int)=4 from rfl,show ((5:Nat):Int)=5 from rfl,show ((6:Nat):Int)=6 from rfl]
  simp! only [Int.reduceEq]
  refine fin fun r m h2 hr d2 e2=>?_
  simp! only [b_addt,Int.reduceEq]
  exact kk _ _ _ h2 (.name r m hr) (by simp) ⟨_,rfl⟩ (d1.dr.trans d2) e2
theorem dok2:DOK 2:=by
 intro t md h rs0 n Q X dp hdp ht S e5 hl hn kk
 have hdp':dp=0:=by omega
 subst hdp'
 refine c_run (fi:=Z79) (ρ:=[some (.loc 4),some t.d,some md.d,some (.loc 5),some (.int 0),none,none,none,none,none,none]) rfl rfl (by omega) fun k hm=>?_
 simp! only [Z79]
 refine take_ok (top:=7) S (by omega) (by omega) (by omega) fun j h1 hj d1=>?_
 have fin:∀{Q':D→Hp→Prop} {X':Nat→Hp→Prop},(∀r m h2,(r=true→md=.mv)→Dr h1 h2→h2[(5:Nat)]? = some (.list (rs0++[rowD rs0.length t r m md]))→Q' (.tup [nam5 (xn rs0.length) r m,.tup [.int rs0.length,(wayOf r m md).d]]) h2)→Ev (callF tab k 77 [.loc 4,t.d,md.d,.loc 5] h1) Q' X':=fun K=>lname_ok d1.src (d1.five e5) (by simp at hl;omega) (by omega) K
 by_cases hj2:j=2
 ·subst hj2
  simp only [show ((2:Nat):Int)=2 from rfl]
  simp! only [Int.reduceEq]
  refine fin fun r m h2 hr d2 e2=>?_
  simp! only [b_addt,Int.reduceEq]
  refine dok1 (by omega) ht d2.src e2 (by simp at hl ⊢;omega) (by omega) fun p q rs h3 P hrs hpt d3 e3=>?_
  obtain ⟨l,rfl⟩:=hpt
  simp! only [b_addt]
  simp only [List.length_append,List.length_cons,List.length_nil] at P
  refine kk _ _ (rowD rs0.length t r m md::rs) h3 (.nin (d:=3 * t.dep+3 * 1) r m hr (by omega) (fun z=>nomatch z) P rfl) (by simp at hrs ⊢;omega) ⟨_,rfl⟩ ((d1.dr.trans d2).trans d3) (by rw [List.append_cons];exact e3)
 rcases seven hj with rfl|rfl|rfl|rfl|rfl|rfl|rfl
 ·simp! only [show ((0:Nat):Int)=0 from rfl]
  exact kk _ _ [] h1 .wild (by simp) ⟨_,rfl⟩ d1.dr (by rw [List.append_nil];exact d1.five e5)
 ·simp only [show ((1:Nat):Int)=1 from rfl]
  simp! only [Int.reduceEq]
  refine fin fun r m h2 hr d2 e2=>?_
  simp! only [b_addt,Int.reduceEq]
  exact kk _ _ _ h2 (.name r m hr) (by simp) ⟨_,rfl⟩ (d1.dr.trans d2) e2
 ·exact absurd rfl hj2
 all_goals
  simp only [show ((3:Nat):Int)=3 from rfl,show ((4:Nat):Int)=4 from rfl,show ((5:Nat):Int)=5 from rfl,show ((6:Nat):Int)=6 from rfl]
  simp! only [Int.reduceEq]
  refine fin fun r m h2 hr d2 e2=>?_
  simp! only [b_addt,Int.reduceEq]
  exact kk _ _ _ h2 (.name r m hr) (by simp) ⟨_,rfl⟩ (d1.dr.trans d2) e2
theorem bot_u8 {t:Ty}(h:t.bot.isU=true):t.bot=.u8:=by
 cases e:t.bot<;>rw [e] at h<;>first|rfl|cases h
theorem dokS {D':Nat}(ih:DOK (D'+2)):DOK (D'+3):=by
 intro t md h rs0 n Q X dp hdp ht S e5 hl hn kk
 have h1p:¬dp≤0:=by omega
 have h0p:¬dp=0:=by omega
 refine c_run (fi:=Z79) (ρ:=[some (.loc 4),some t.d,some md.d,some (.loc 5),some (.int dp),none,none,none,none,none,none]) rfl rfl (by omega) fun k hm=>?_
 have hpow:2 ^ (D'+2)=2 ^ (D'+1)+2 ^ (D'+1):=by rw [Nat.pow_succ];omega
 have hpos:0 < 2 ^ (D'+1):=Nat.two_pow_pos _
 have hDs:D'+3 - 1=D'+2:=rfl
 have hDs2:D'+2 - 1=D'+1:=rfl
 rw [hDs] at hl kk
 simp! only [Z79]
 refine take_ok (top:=7) S (by omega) (by omega) (by omega) fun j h1 hj d1=>?_
 have e1:=d1.five e5
 -- a shaped pattern
 have shp:∀{Q':D→Hp→Prop} {X':Nat→Hp→Prop},(∀p q h',Q (.tup [p,q]) h'→Q' (.tup [p,q]) h')→Ev (callF tab k 80 [.loc 4,t.d,md.d,.loc 5,.int dp] h1) Q' X':=fun K =>
  shaped_ok (D':=D'+1) ih (by omega) ht d1.src e1 hl (by omega) fun p q rs h2 P hrs d2 e2=>K _ _ _ (kk p q rs h2 P.rp hrs P.tup (d1.dr.trans d2) e2)
 -- a reference told
 have rfp:∀{b:Bool} {t':Ty} {Q':D→Hp→Prop} {X':Nat→Hp→Prop},t=.rf b t'→(∀p q h',Q (.tup [refD b p,derD t q]) h'→Q' (.tup [p,q]) h')→Ev (callF tab k 79 [.loc 4,t'.d,.str [109,111,118,101],.loc 5,.int (dp - 1)] h1) Q' X':=by
  intro b t' Q' X' et K
  subst et
  have hd:(Ty.rf b t').dep=t'.dep+1:=rfl
  refine ih (t:=t') (md:=.mv) (by omega) (by omega) d1.src e1 (by rw [hDs2];omega) (by omega) fun p q rs h2 P hrs hpt d2 e2=>K _ _ _ (kk _ _ rs h2 (.ref (d:=3 * t'.dep+3 * (D'+2)) (by omega) P) (by rw [hDs2] at hrs;omega) ⟨_,rfl⟩ (d1.dr.trans d2) e2)
 have eR:∀{b:Bool} {t':Ty},(Ty.rf b t').d=.tup [.str [114,101,102],.none,.bool b,t'.d]:=rfl
 rcases seven hj with rfl|rfl|rfl|rfl|rfl|rfl|rfl
 ·simp! only [show ((0:Nat):Int)=0 from rfl]
  exact kk _ _ [] h1 .wild (by simp) ⟨_,rfl⟩ d1.dr (by rw [List.append_nil];exact e1)
 ·simp only [show ((1:Nat):Int)=1 from rfl]
  simp! only [Int.reduceEq]
  refine lname_ok d1.src e1 (by omega) (by omega) fun r m h2 hr d2 e2=>?_
  simp! only [b_addt,Int.reduceEq]
  exact kk _ _ _ h2 (.name r m hr) (by simp;omega) ⟨_,rfl⟩ (d1.dr.trans d2) e2
 ·simp only [show ((2:Nat):Int)=2 from rfl]
  simp! only [Int.reduceEq,h1p]
  refine lbot_ok (by omega) ?_
  rw [eq_tu]
  cases hb:t.bot.isU with
  |true =>
   simp_all! only [k_some]
   refine llits_ok (bot_u8 hb) d1.src e1 (by omega) (by omega) fun p q rs h2 P hrs hpt d2 e2=>?_
   simp_all! only [k_some]
   exact kk p q rs h2 (P _) (by omega) hpt (d1.dr.trans d2) e2
  |false =>
   cases t with
   |rf b t' =>
    simp! only [hb,i_ty,kd_ref,Ty.isRef]
    rw [show Ev (itemOf (Ty.rf b t').d (.int 3) h1)=fun Q X=>Q t'.d h1 from by funext Q X;exact propext Iff.rfl]
    simp! only [k_some]
    refine rfp rfl fun p q h' z=>?_
    simp! only [show ∀{Q:D→Hp→Prop} {X:Nat→Hp→Prop},Ev (itemOf (Ty.rf b t').d (.int 2) h') Q X=Q (.bool b) h' from propext Iff.rfl]
    exact z
   |_ =>
    simp! only [hb,i_ty,kd_ref,Ty.isRef]
    exact shp fun p q h' z=>by (simp_all! only [k_some]);exact z
 ·simp only [show ((3:Nat):Int)=3 from rfl]
  cases t with
  |rf b t' =>
   simp! only [Int.reduceEq,h1p,i_ty,kd_ref,Ty.isRef]
   rw [show Ev (itemOf (Ty.rf b t').d (.int 3) h1)=fun Q X=>Q t'.d h1 from by funext Q X;exact propext Iff.rfl]
   simp! only [k_some]
   refine rfp rfl fun p q h' z=>?_
   simp! only [show ∀{Q:D→Hp→Prop} {X:Nat→Hp→Prop},Ev (itemOf (Ty.rf b t').d (.int 2) h') Q X=Q (.bool b) h' from propext Iff.rfl]
   exact z
  |_ =>
   simp! only [Int.reduceEq,h1p,i_ty,kd_ref,Ty.isRef]
   exact shp fun p q h' z=>by (simp_all! only [k_some]);exact z
 all_goals
  simp only [show ((4:Nat):Int)=4 from rfl,show ((5:Nat):Int)=5 from rfl,show ((6:Nat):Int)=6 from rfl]
  cases hr:t.isRef with
  |true =>
   simp! only [Int.reduceEq,h1p,i_ty,kd_ref,hr]
   exact shp fun p q h' z=>by (simp_all! only [k_some]);exact z
  |false =>
   simp! only [Int.reduceEq,h1p,i_ty,kd_ref,hr]
   exact shp fun p q h' z=>by (simp_all! only [k_some]);exact z
theorem dok5:DOK 5:=dokS (dokS (dokS dok2))
end
section
set_option maxRecDepth 100000
mutual
theorem shal_mono:∀(d:D) (n m:Nat),n≤m→D.shal n d=true→D.shal m d=true
 |.tup ds,0,_,_,h=>by simp [D.shal] at h
 |.tup ds,n+1,0,hl,_=>by omega
 |.tup ds,n+1,m+1,hl,h=>by
  simp only [D.shal] at h ⊢
  exact shalAll_mono ds n m (by omega) h
 |.lst ds,0,_,_,h=>by simp [D.shal] at h
 |.lst ds,n+1,0,hl,_=>by omega
 |.lst ds,n+1,m+1,hl,h=>by
  simp only [D.shal] at h ⊢
  exact shalAll_mono ds n m (by omega) h
 |.none,_,_,_,_=>by simp [D.shal]
 |.bool _,_,_,_,_=>by simp [D.shal]
 |.int _,_,_,_,_=>by simp [D.shal]
 |.str _,_,_,_,_=>by simp [D.shal]
 |.loc _,_,_,_,_=>by simp [D.shal]
 |.opq,_,_,_,_=>by simp [D.shal]
theorem shalAll_mono:∀(ds:List D) (n m:Nat),n≤m→D.shalAll n ds=true→D.shalAll m ds=true
 |[],_,_,_,_=>by simp [D.shalAll]
 |d::ds,n,m,hl,h=>by
  simp only [D.shalAll,Bool.and_eq_true] at h ⊢
  exact ⟨shal_mono d n m hl h.1,shalAll_mono ds n m hl h.2⟩
end
structure Fit (N:Nat)(d:D):Prop where
 p:D.plain d=true
 s:D.shal N d=true
theorem Fit.mono {N M:Nat}{d:D}(f:Fit N d)(h:N≤M):Fit M d:=⟨f.p,shal_mono d N M h f.s⟩
theorem fit_ty {t:Ty}{N:Nat}(h:2 * t.dep+2≤N):Fit N t.d:=⟨t.plain,t.shal N h⟩
theorem fit_tup {N:Nat}{ds:List D}(h:∀d∈ds,Fit N d):Fit (N+1) (.tup ds):=by
 have:D.plainAll ds=true∧D.shalAll N ds=true:=by
  induction ds with
  |nil=>exact ⟨rfl,by simp [D.shalAll]⟩
  |cons d r ih =>
   obtain ⟨a,b⟩:=ih fun x hx=>h x (List.mem_cons_of_mem _ hx)
   have f:=h d List.mem_cons_self
   exact ⟨by simp [D.plainAll,f.p,a],by simp [D.shalAll,f.s,b]⟩
 exact ⟨by simp only [D.plain];exact this.1,by simp only [D.shal];exact this.2⟩
theorem fit_lst {N:Nat}{ds:List D}(h:∀d∈ds,Fit N d):Fit (N+1) (.lst ds):=by
 have:=fit_tup h
 exact ⟨by have:=this.p;simp only [D.plain] at this ⊢;exact this,by have:=this.s;simp only [D.shal] at this ⊢;exact this⟩
theorem fit_str {N:Nat}{x:List Nat}(h:asc x=true):Fit N (.str x):=⟨asc_plain h,by simp [D.shal]⟩
theorem fit_int {N:Nat}{x:Int}:Fit N (.int x):=⟨rfl,by simp [D.shal]⟩
theorem fit_bool {N:Nat}{x:Bool}:Fit N (.bool x):=⟨rfl,by simp [D.shal]⟩
theorem fit_none {N:Nat}:Fit N .none:=⟨rfl,by simp [D.shal]⟩
theorem fit_md {N:Nat}{m:Mo'}:Fit N m.d:=by cases m<;>exact fit_str rfl
theorem fit3 {N:Nat}{a b c:D}(ha:Fit N a)(hb:Fit N b)(hc:Fit N c):Fit (N+1) (.tup [a,b,c]):=fit_tup fun d hd=>by
 simp only [List.mem_cons,List.not_mem_nil,or_false] at hd
 rcases hd with rfl|rfl|rfl<;>assumption
theorem fit2 {N:Nat}{a b:D}(ha:Fit N a)(hb:Fit N b):Fit (N+1) (.tup [a,b]):=fit_tup fun d hd=>by
 simp only [List.mem_cons,List.not_mem_nil,or_false] at hd
 rcases hd with rfl|rfl<;>assumption
theorem fit4 {N:Nat}{a b c e:D}(ha:Fit N a)(hb:Fit N b)(hc:Fit N c)(he:Fit N e):Fit (N+1) (.tup [a,b,c,e]):=fit_tup fun d hd=>by
 simp only [List.mem_cons,List.not_mem_nil,or_false] at hd
 rcases hd with rfl|rfl|rfl|rfl<;>assumption
theorem fit5 {N:Nat}{a b c e f:D}(ha:Fit N a)(hb:Fit N b)(hc:Fit N c)(he:Fit N e)(hf:Fit N f):Fit (N+1) (.tup [a,b,c,e,f]):=fit_tup fun d hd=>by
 simp only [List.mem_cons,List.not_mem_nil,or_false] at hd
 rcases hd with rfl|rfl|rfl|rfl|rfl<;>assumption
theorem fit_litQ {v:Int}:∀{t:Ty} {N:Nat},2 * t.dep+3≤N→Fit N (litQ v t):=by
 intro t
 induction t with
 |rf b t ih =>
  intro N h
  have hd:(Ty.rf b t).dep=t.dep+1:=rfl
  obtain ⟨N,rfl⟩:∃M,N=M+1:=⟨N - 1,by omega⟩
  exact fit3 (fit_str rfl) (fit_ty (by omega)) (ih (by omega))
 |_ =>
  intro N h
  obtain ⟨N,rfl⟩:∃M,N=M+1:=⟨N - 1,by omega⟩
  exact fit3 (fit_str rfl) (fit_ty (by omega)) fit_int
theorem fit_uniQ:∀{t:Ty} {N:Nat},2 * t.dep+3≤N→Fit N (uniQ t):=by
 intro t
 induction t with
 |rf b t ih =>
  intro N h
  have hd:(Ty.rf b t).dep=t.dep+1:=rfl
  obtain ⟨N,rfl⟩:∃M,N=M+1:=⟨N - 1,by omega⟩
  exact fit3 (fit_str rfl) (fit_ty (by omega)) (ih (by omega))
 |_ =>
  intro N h
  obtain ⟨N,rfl⟩:∃M,N=M+1:=⟨N - 1,by omega⟩
  exact fit4 (fit_str rfl) (fit_ty (by omega)) fit_int (by
   obtain ⟨N,rfl⟩:∃M,N=M+1:=⟨N - 1,by omega⟩
   exact fit_tup fun d hd=>by cases hd)
def RowOK (r:D):Prop:=∃l,r=.lst l∧l.length≤most∧Fit 30 r
theorem rowOK {n:Nat}{t:Ty}{r m:Bool}{md:Mo'}(hn:n < 40)(ht:t.dep≤5):RowOK (rowD n t r m md):=by
 refine ⟨_,rfl,by simp [most],fit_lst fun d hd=>?_⟩
 simp only [List.mem_cons,List.not_mem_nil,or_false] at hd
 rcases hd with rfl|rfl|rfl
 ·exact fit_str (xn_nm hn).a
 ·exact fit_ty (by have:=held_dep (wayOf r m md) t;omega)
 ·exact fit_bool
theorem Rp.fit {d n:Nat}{t:Ty}{md:Mo'}{p q:D}{rs:List D}(P:Rp d t md n p q rs):t.dep≤5→n+rs.length≤39→Fit (d+20) q∧∀r∈rs,RowOK r:=by
 induction P with
 |wild=>exact fun ht hn=>⟨fit2 (fit_str rfl) (fit_ty (by omega)),fun r h=>nomatch h⟩
 |name r m _ =>
  intro ht hn
  simp only [List.length_cons,List.length_nil] at hn
  exact ⟨fit5 (fit_str rfl) (fit_ty (by omega)) fit_int fit_md fit_none,fun x hx=>by rw [List.mem_singleton.mp hx];exact rowOK (by omega) ht⟩
 |@nin d e t md n p p' q rs r m _ hd _ _ _ ih =>
  intro ht hn
  simp only [List.length_cons] at hn
  obtain ⟨a,b⟩:=ih ht (by omega)
  refine ⟨fit5 (fit_str rfl) (fit_ty (by omega)) fit_int fit_md (a.mono (by omega)),fun x hx=>?_⟩
  rcases List.mem_cons.mp hx with rfl|hx
  ·exact rowOK (by omega) ht
  ·exact b x hx
 |@ref d e b t md n p q rs hd _ ih =>
  intro ht hn
  have h1:(Ty.rf b t).dep=t.dep+1:=rfl
  obtain ⟨a,c⟩:=ih (by omega) hn
  exact ⟨fit3 (fit_str rfl) (fit_ty (by omega)) (a.mono (by omega)),c⟩
 |@der d e b t md n p q rs hd _ _ ih =>
  intro ht hn
  have h1:(Ty.rf b t).dep=t.dep+1:=rfl
  obtain ⟨a,c⟩:=ih (by omega) hn
  exact ⟨fit3 (fit_str rfl) (fit_ty (by omega)) (a.mono (by omega)),c⟩
 |litb b=>exact fun ht hn=>⟨fit3 (fit_str rfl) (fit_ty (by omega)) fit_bool,fun r h=>nomatch h⟩
 |liti i=>exact fun ht hn=>⟨fit3 (fit_str rfl) (fit_ty (by omega)) fit_int,fun r h=>nomatch h⟩
 |rng=>exact fun ht hn=>⟨fit4 (fit_str rfl) (fit_ty (by omega)) fit_int fit_int,fun r h=>nomatch h⟩
 |@tup d e t md n p q rs p' q' rs' hd _ _ ih1 ih2 =>
  intro ht hn
  have h1:(Ty.pair t).dep=t.dep+1:=rfl
  simp only [List.length_append] at hn
  obtain ⟨a,c⟩:=ih1 (by omega) (by omega)
  obtain ⟨a',c'⟩:=ih2 (by unfold Ty.dep;omega) (by omega)
  obtain ⟨N,hN⟩:∃N,e+20=N+1+1:=⟨e+18,by omega⟩
  rw [hN]
  exact ⟨fit3 (fit_str rfl) (fit_ty (by omega)) (fit2 (a.mono (by omega)) (a'.mono (by omega))),fun r h=>(List.mem_append.mp h).elim (c r) (c' r)⟩
 |@fs1 d e md n p q rs hd _ ih1 =>
  intro ht hn
  have h1:Ty.s.dep=0:=rfl
  have h2:Ty.u8.dep=0:=rfl
  obtain ⟨a,c⟩:=ih1 (by unfold Ty.dep;omega) (by omega)
  obtain ⟨N,hN⟩:∃N,e+20=N+1+1:=⟨e+18,by omega⟩
  rw [hN]
  refine ⟨fit3 (fit_str rfl) (fit_ty (by omega)) (fit2 (a.mono (by omega)) ?_),c⟩
  obtain ⟨M,rfl⟩:∃M,N=M+1:=⟨N - 1,by omega⟩
  exact fit2 (fit_str rfl) (fit_ty (by omega))
 |@fs2 d e md n p q rs p' q' rs' hd _ _ ih1 ih2 =>
  intro ht hn
  have h1:Ty.s.dep=0:=rfl
  simp only [List.length_append] at hn
  obtain ⟨a,c⟩:=ih1 (by unfold Ty.dep;omega) (by omega)
  obtain ⟨a',c'⟩:=ih2 (by unfold Ty.dep;omega) (by omega)
  obtain ⟨N,hN⟩:∃N,e+20=N+1+1:=⟨e+18,by omega⟩
  rw [hN]
  exact ⟨fit3 (fit_str rfl) (fit_ty (by omega)) (fit2 (a.mono (by omega)) (a'.mono (by omega))),fun r h=>(List.mem_append.mp h).elim (c r) (c' r)⟩
 |@vq d e t md n p q rs p' q' rs' hd _ _ ih1 ih2 =>
  intro ht hn
  have h1:(Ty.en t).dep=t.dep+1:=rfl
  simp only [List.length_append] at hn
  obtain ⟨a,c⟩:=ih1 (by omega) (by omega)
  obtain ⟨a',c'⟩:=ih2 (by unfold Ty.dep;omega) (by omega)
  obtain ⟨N,hN⟩:∃N,e+20=N+1+1:=⟨e+18,by omega⟩
  rw [hN]
  exact ⟨fit4 (fit_str rfl) (fit_ty (by omega)) fit_int (fit2 (a.mono (by omega)) (a'.mono (by omega))),fun r h=>(List.mem_append.mp h).elim (c r) (c' r)⟩
 |cK _=>exact fun ht hn=>⟨fit_litQ (by omega),fun r h=>nomatch h⟩
 |uP _=>exact fun ht hn=>⟨fit_uniQ (by omega),fun r h=>nomatch h⟩
 |@orl d t md n i j _=>exact fun ht hn=>⟨fit3 (N:=d+19) (fit_str rfl) (fit_ty (by omega)) (fit2 (N:=d+18) (fit_litQ (by omega)) (fit_litQ (by omega))),fun r h=>nomatch h⟩
 |@orn d t md n i j r m _ _ =>
  intro ht hn
  simp only [List.length_cons,List.length_nil] at hn
  exact ⟨fit3 (N:=d+19) (fit_str rfl) (fit_ty (by omega)) (fit2 (N:=d+18) (fit5 (N:=d+17) (fit_str rfl) (fit_ty (by omega)) fit_int fit_md (fit_litQ (by omega))) (fit5 (N:=d+17) (fit_str rfl) (fit_ty (by omega)) fit_int fit_md (fit_litQ (by omega)))),fun x hx=>by rw [List.mem_singleton.mp hx];exact rowOK (by omega) ht⟩
variable {B:Nat→Option AO}{h:Hp}{Q:D→Hp→Prop}{X:Nat→Hp→Prop}{n:Nat}
theorem ne_self {d:D}(f:Fit 60 d):Ev (cmpD .ne d d h) Q X=Q (.bool false) h:=by
 have hl:opnd h d=some d:=by have:=f.p;cases d<;>first|rfl|(simp [D.plain] at this;done)
 rw [q_ne hl hl (by unfold okEq;simp [f.p,f.s]),eqb_refl d f.p]
 rfl
theorem ne_loc {ds:List D}{l:Nat}(f:Fit 60 (.lst ds))(e:h[l]? = some (.list ds)):Ev (cmpD .ne (.lst ds) (.loc l) h) Q X=Q (.bool false) h:=by
 rw [q_ne (x:=.lst ds) (y:=.lst ds) rfl (by unfold opnd;simp only [e]) (by unfold okEq;simp [f.p,f.s]),eqb_refl _ f.p]
 rfl
end
section
set_option maxRecDepth 100000
variable {B:Nat→Option AO}{h:Hp}{Q:D→Hp→Prop}{X:Nat→Hp→Prop}{n:Nat}
theorem f_max {a c:Int}:Ev (biD .max [.int a,.int c] h) Q X=Q (.int (if a < c then c else a)) h:=propext Iff.rfl
theorem f_int {c:Bool}:Ev (biD .int [.bool c] h) Q X=Q (.int (if c then 1 else 0)) h:=propext Iff.rfl
theorem b_pow:Ev (binD .pow (.int 10) (.int 18) h) Q X=Q (.int 1000000000000000000) h:=propext Iff.rfl
theorem eqb_nil {ns:List Int}:D.eqb (.lst (ns.map D.int)) (.lst [])=ns.isEmpty:=by
 cases ns<;>simp [D.eqb,D.eqbAll]
theorem pool_ok {ns:List Int}{row:AO}(hl:ns.length≤1000)(hn:1≤n)(kk:∀(a b:Int) (c:D),0≤b→b < 2147483647→(c=.lst []∨c=.loc 1)→Q (.loc 4) [.tab,row,.list [],.list [],.list [.int a,.int b,c]]) :
  Ev (callF tab n 69 [.lst (ns.map D.int),.loc 1] [.tab,row]) Q X:=by
 refine c_run (fi:=Z69) (ρ:=[some (.lst (ns.map D.int)),some (.loc 1),none,none,none]) rfl rfl (by omega) fun k hm=>?_
 have okE:okEq (.lst (ns.map D.int)) (.lst [])=true:=by
  unfold okEq
  rw [show D.plain (.lst (ns.map D.int))=true from by unfold D.plain;exact ints_plain ns]
  rfl
 have q1:∀{g:Hp} {l:Nat} {Q:D→Hp→Prop} {X:Nat→Hp→Prop},g[l]? = some (.list [])→Ev (cmpD .ne (.lst (ns.map D.int)) (.loc l) g) Q X=Q (.bool (!ns.isEmpty)) g:=by
  intro g l Q X e
  rw [q_ne (x:=.lst (ns.map D.int)) (y:=.lst []) rfl (by unfold opnd;simp only [e]) okE,eqb_nil]
 have q2:∀{g:Hp} {l:Nat} {Q:D→Hp→Prop} {X:Nat→Hp→Prop},g[l]? = some (.list [])→Ev (cmpD .eq (.lst (ns.map D.int)) (.loc l) g) Q X=Q (.bool ns.isEmpty) g:=by
  intro g l Q X e
  rw [q_eq (x:=.lst (ns.map D.int)) (y:=.lst []) rfl (by unfold opnd;simp only [e]) okE,eqb_nil]
 have e2:([AO.tab,row,.list []]:Hp)[(2:Nat)]? = some (.list []):=rfl
 have e3:([AO.tab,row,.list [],.list []]:Hp)[(3:Nat)]? = some (.list []):=rfl
 have fin:∀(cell:Int),
   Sv (evSs clsT (callF tab k) (.cons (.asn (.n 3) (.bi .max (.cons (.var 2) (.cons (.bin .sub (.neg 1) (.var 2)) .nil))))
  (.cons (.asn (.n 4) (.bin .mod (.bin .mul (.bin .add (.bin .mod (.var 3) (.lit (.int 2147483629))) (.lit (.int 17))) (.lit (.int 48271))) (.lit (.int 2147483647))))
  (.cons (.ret (.mlist (.cons (.bin .mul (.var 3) (.bi .int (.cons (.cmp .ge (.var 3) (.bin .pow (.lit (.int 10)) (.lit (.int 18)))) .nil))) (.cons (.var 4) (.cons (.ite (.cmp .eq (.var 0) (.mlist .nil)) (.var 1) (.vlist .nil)) .nil)))))
  .nil))) [some (.lst (ns.map D.int)),some (.loc 1),some (.int cell),none,none] [.tab,row,.list []]) (fun f _ h1=>retK f fun d=>Q d h1) (fun c _ h1=>X c h1):=by
  intro cell
  simp! only [f_max]
  generalize (if cell < -((1:Nat):Int) - cell then -((1:Nat):Int) - cell else cell)=big
  obtain ⟨mx,hmx,emx⟩:=fmod_nat (x:=(Int.fmod big 2147483629+17) * 48271) (top:=2147483647) (by omega)
  have emx':Int.fmod ((Int.fmod big 2147483629+17) * 48271) 2147483647=(mx:Int):=emx
  simp! only [b_mod (x:=big) (y:=2147483629) (by decide),b_mul (x:=Int.fmod big 2147483629+17) (y:=48271) (by decide),b_mod (x:=(Int.fmod big 2147483629+17) * 48271) (y:=2147483647) (by decide),emx',b_pow,f_int]
  generalize decide ((1000000000000000000:Int)≤big)=c1
  have hnat:(if c1=true then (1:Int) else 0).natAbs < 4294967296:=by cases c1<;>decide
  have g1:=fun c hc=>kk (big * (if c1=true then (1:Int) else 0)) mx c (by omega) (by omega) hc
  rw [b_mul hnat]
  generalize big * (if c1=true then (1:Int) else 0)=bb at g1 ⊢
  have hlen:([AO.tab,row,.list []]:Hp).length=3:=rfl
  simp! only [hlen,q2 e3]
  cases ns.isEmpty
  ·simp! only [k_some]
   exact g1 _ (.inl rfl)
  ·simp! only [k_some]
   exact g1 _ (.inr rfl)
 unfold Z69
 simp only
 rw [ss_cons]
 simp! only [q1 e2]
 cases ns with
 |nil =>
  have f:=fin 0
  simp (config:={decide:=true}) only [k_some,k_none,k_true,k_false,k_list,k_dict,k_inst,ss_cons,ss_nil,fl_nx,fl_rt,fl_ct,lp_nx,lp_ct,lp_rt,s_asn,s_ret,s_iff,s_ex,s_sattr,s_sitem,s_for,s_cont,s_raise,v_item,v_var,v_lit,v_neg,v_tup,v_vlist,v_mlist,v_cons,v_nil,v_cmp,v_andor,v_ao1,v_ao2,v_not,v_ite,v_bin,v_bi,v_bm,v_call,v_meth,v_attr,v_lpick,v_rev,revK,List.reverse_cons,List.reverse_nil,v_compz,v_mdict,v_new,v_fresh,v_comp,compK,v_compnil,v_compcons,rt_rt,rt_nx,i_tup,i_lst,x10,x20,x21,x30,x31,x32,x40,x41,x42,x43,x50,x51,x52,x53,x54,x60,x61,x62,x63,x64,x65,x70,x71,x72,x73,x74,x75,x76,y11,y21,y22,q_eqs,q_nes,q_eqi,q_nei,q_isN_none,q_isN_str,q_isN_tup,q_isN_int,q_isN_loc,q_isnN_none,q_isnN_str,q_isnN_tup,q_isnN_loc,q_lt,q_gt,q_le,q_ge,b_add,b_sub,f_len,f_tuple,f_list,f_isb,f_isi,sq_tup,sq_lst,Tg.set,setAll,List.set_cons_zero,List.set_cons_succ,List.length_cons,List.length_nil,List.map_cons,List.map_nil,List.getElem?_cons_zero,List.getElem?_cons_succ,List.append_nil,List.cons_append,List.nil_append,if_true,if_false,Nat.reduceAdd,Nat.reduceSub,Nat.reduceLeDiff,Nat.reduceEqDiff,Int.reduceAdd,Int.reduceSub,Int.reduceLT,Int.reduceLE,Int.reduceNeg,List.cons.injEq,and_true,true_and,and_false,false_and,decide_true,decide_false,Bool.not_true,Bool.not_false,Bool.false_eq_true,most] at f
  simp! only [List.isEmpty_nil]
  exact f
 |cons x ns =>
  have ex:idx (.int x::List.map D.int ns) 0=some (.int x):=by
   unfold idx
   rw [if_pos (by simp [most];simp at hl;omega)]
   rfl
  have f:=fin x
  simp (config:={decide:=true}) only [k_some,k_none,k_true,k_false,k_list,k_dict,k_inst,ss_cons,ss_nil,fl_nx,fl_rt,fl_ct,lp_nx,lp_ct,lp_rt,s_asn,s_ret,s_iff,s_ex,s_sattr,s_sitem,s_for,s_cont,s_raise,v_item,v_var,v_lit,v_neg,v_tup,v_vlist,v_mlist,v_cons,v_nil,v_cmp,v_andor,v_ao1,v_ao2,v_not,v_ite,v_bin,v_bi,v_bm,v_call,v_meth,v_attr,v_lpick,v_rev,revK,List.reverse_cons,List.reverse_nil,v_compz,v_mdict,v_new,v_fresh,v_comp,compK,v_compnil,v_compcons,rt_rt,rt_nx,i_tup,i_lst,x10,x20,x21,x30,x31,x32,x40,x41,x42,x43,x50,x51,x52,x53,x54,x60,x61,x62,x63,x64,x65,x70,x71,x72,x73,x74,x75,x76,y11,y21,y22,q_eqs,q_nes,q_eqi,q_nei,q_isN_none,q_isN_str,q_isN_tup,q_isN_int,q_isN_loc,q_isnN_none,q_isnN_str,q_isnN_tup,q_isnN_loc,q_lt,q_gt,q_le,q_ge,b_add,b_sub,f_len,f_tuple,f_list,f_isb,f_isi,sq_tup,sq_lst,Tg.set,setAll,List.set_cons_zero,List.set_cons_succ,List.length_cons,List.length_nil,List.map_cons,List.map_nil,List.getElem?_cons_zero,List.getElem?_cons_succ,List.append_nil,List.cons_append,List.nil_append,if_true,if_false,Nat.reduceAdd,Nat.reduceSub,Nat.reduceLeDiff,Nat.reduceEqDiff,Int.reduceAdd,Int.reduceSub,Int.reduceLT,Int.reduceLE,Int.reduceNeg,List.cons.injEq,and_true,true_and,and_false,false_and,decide_true,decide_false,Bool.not_true,Bool.not_false,Bool.false_eq_true,most] at f
  simp! only [List.isEmpty_cons]
  rw [ex,k_some]
  exact f
theorem chk_at (x1 x2 x3 x4 x5:AO):callF tab 78 72 [] [.tab,x1,x2,x3,x4,x5]=.ok (.loc 30) ([.tab,x1,x2,x3,x4,x5]++b36.drop 6):=by kernel_rfl
def fz (r:R D):Option D:=match r with
 |.ok d h'=>if isTab h' then freeze h' d else none
 |_=>none
theorem thaw_fz {r:R D}{d:D}(ht:h[(0:Nat)]? = some .tab)(e:fz r=some d):thaw h r=.ok d h:=by
 have hi:isTab h=true:=by unfold isTab;rw [ht]
 unfold thaw
 rw [hi]
 unfold fz at e
 cases r with
 |ok a h' =>
  simp only at e
  cases q:isTab h' with
  |false=>rw [q] at e;cases e
  |true =>
   rw [q] at e
   simp only [if_true] at e ⊢
   rw [q,e]
   rfl
 |ex c h'=>cases e
 |no=>cases e
def odds:List D:=match fz (callF tab 78 82 [] [.tab]) with
 |some (.lst ds)=>ds
 |_=>[]
def oddOK (d:D):Bool:=match d with
 |.tup [a,b]=>D.plainAll [a,b]&&(match fz (callF tab 78 83 [a,b] [.tab]) with
  |some (.bool true)=>true
  |_=>false)
 |_=>false
theorem odds_at:fz (callF tab 78 82 [] [.tab])=some (.lst odds):=by kernel_rfl
theorem odds_len:odds.length=10:=by kernel_rfl
theorem odds_ok:odds.all oddOK=true:=by kernel_rfl
end
section
set_option maxRecDepth 100000
set_option maxHeartbeats 1000000
variable {B:Nat→Option AO}{h:Hp}{Q:D→Hp→Prop}{X:Nat→Hp→Prop}{n:Nat}{V L:List D}{kn hr:Nat}{K H:List (List Nat×D)}
theorem e_atG {a:AO}{r:Hp}:(h++a::r)[h.length]? = some a:=by simp
theorem e_setG {a a':AO}{r:Hp}:(h++a::r).set h.length a'=h++a'::r:=by rw [List.set_append];simp
theorem rinit_ok (hn:1≤n)(kk:Q .none (h++[.inst 5 [(4,.loc 30),(5,.loc (h.length+1)),(6,.loc (h.length+2))],.dict [],.dict []])):Ev (callF tab n 7 [.loc h.length,.loc 30] (h++[.inst 5 []])) Q X:=by
 refine c_run (fi:=Z7) (ρ:=[some (.loc h.length),some (.loc 30)]) rfl rfl (by omega) fun m hm=>?_
 have s1:storeAttr (.loc h.length) 4 (.loc 30) (h++[.inst 5 []])=some (h++[.inst 5 [(4,.loc 30)]]):=by
  rw [st_attr e_atG (by simp),e_setG]
  rfl
 have s2:storeAttr (.loc h.length) 5 (.loc (h.length+1)) (h++[.inst 5 [(4,.loc 30)],.dict []])=some (h++[.inst 5 [(4,.loc 30),(5,.loc (h.length+1))],.dict []]):=by
  rw [st_attr e_atG (by simp),e_setG]
  rfl
 have s3:storeAttr (.loc h.length) 6 (.loc (h.length+2)) (h++[.inst 5 [(4,.loc 30),(5,.loc (h.length+1))],.dict [],.dict []])=some (h++[.inst 5 [(4,.loc 30),(5,.loc (h.length+1)),(6,.loc (h.length+2))],.dict [],.dict []]):=by
  rw [st_attr e_atG (by simp),e_setG]
  rfl
 simp! only [Z7,s1,List.zip_nil_left,putAll,List.length_append,List.append_assoc,s2,s3]
 exact kk
theorem rd_start (c:Cn B h)(hl:h.length=36)(v:h[(32:Nat)]? = some (.list []))(nu:h[(33:Nat)]? = some (.list []))(l:h[(34:Nat)]? = some (.list []))(sc:h[(35:Nat)]? = some (.dict [])):Rd B (h++[.inst 5 [(4,.loc 30),(5,.loc (h.length+1)),(6,.loc (h.length+2))],.dict [],.dict []]) [] [] 37 38 [] []:=by
 refine ⟨c.app _,app_at v,⟨[],app_at nu,rfl⟩,app_at l,⟨[],app_at sc,Nat.le_refl _⟩,?_,?_,?_,by omega,by omega,by omega⟩
 ·rw [List.getElem?_append_right (by omega),hl];rfl
 ·rw [List.getElem?_append_right (by omega),hl];rfl
 ·rw [List.getElem?_append_right (by omega),hl];rfl
theorem typed_ok {t:Ty}{p q:D}{rs:List D}{d:Nat}(P:Rp d t .mv 0 p q rs)(c:Cn B h)(hl:h.length=36)(v:h[(32:Nat)]? = some (.list []))(nu:h[(33:Nat)]? = some (.list []))(l:h[(34:Nat)]? = some (.list []))(sc:h[(35:Nat)]? = some (.dict []))(ht:t.dep≤5)(hrs:rs.length≤39)(hn:d+42≤n)
  (kk:∀h' V' kn hr' H',Rd B h' V' rs kn hr' [] H'→Q q h'):Ev (callF tab n 26 [.loc 30,p,t.d,.str [109,111,118,101]] h) Q X:=by
 refine c_run (fi:=Z26) (ρ:=[some (.loc 30),some p,some t.d,some (.str [109,111,118,101])]) rfl rfl (by omega) fun m hm=>?_
 simp! only [Z26,cl5]
 refine rinit_ok (by omega) ?_
 have R:=rd_start c hl v nu l sc
 rw [hl] at R ⊢
 simp! only [newK,m_meth,at_of R.rd,cl5,nget]
 have hk:Hok [] 0:=⟨fun _ _ _=>rfl,fun _ h=>(nomatch h),List.nodup_nil,Nat.le_refl _⟩
 exact read_ok (md:=.mv) P R rfl (fun _ _ _=>rfl) hk (by simp) (by omega) (by simp;omega) ht (by omega) fun h' V' hr' H' R' _ _=>kk h' V' 37 hr' H' R'
theorem rows_loop {cf:Nat→List D→M D}{ρ:Ve}{rs:List D}(e:h[(34:Nat)]? = some (.list rs))(hρ:9 < ρ.length)(hr:∀r∈rs,RowOK r):∀(k i:Nat) (Q:List D→Hp→Prop),i+k=rs.length→Q (rs.drop i) h→Ev (compAt (evE clsT cf (.bi .list (.cons (.var 9) .nil))) (.n 9) ρ 34 (k+1) i h) Q X:=by
 intro k
 induction k with
 |zero =>
  intro i Q hi q
  unfold compAt
  rw [e]
  simp only
  rw [List.getElem?_eq_none (by omega)]
  simp only [ev_ok]
  rw [List.drop_of_length_le (by omega)] at q
  exact q
 |succ k ih =>
  intro i Q hi q
  have hlt:i < rs.length:=by omega
  unfold compAt
  rw [e]
  simp only
  rw [List.getElem?_eq_getElem hlt]
  simp only [Tg.set]
  obtain ⟨l,hl,hlen,_⟩:=hr rs[i] (List.getElem_mem hlt)
  rw [ev_bind,v_bi,v_cons,v_var,List.getElem?_set_self hρ,k_some,k_some,v_nil,hl,f_list,sq_lst]
  refine ⟨hlen,?_⟩
  rw [ev_bind]
  refine ih (i+1) _ (by omega) ?_
  rw [ev_ret,←hl]
  rw [List.drop_eq_getElem_cons hlt] at q
  exact q
theorem Src.of {g:Hp}(S:Src h)(h1:g[(1:Nat)]? = h[(1:Nat)]?)(h4:g[(4:Nat)]? = h[(4:Nat)]?):Src g:=by
 obtain ⟨a,b,c,e4,h0,h1',hc⟩:=S.ex
 exact ⟨a,b,c,h4.trans e4,h0,h1',hc.imp id fun ⟨z,ns,e1,hl⟩=>⟨z,ns,h1.trans e1,hl⟩⟩
theorem five_of {h:Hp}(hl:h.length=5):∃a b c d e,h=[a,b,c,d,e]:=by
 match h,hl with
 |[a,b,c,d,e],_=>exact ⟨a,b,c,d,e,rfl⟩
theorem odd_of {d:D}(h:oddOK d=true):∃a b,d=.tup [a,b]∧D.plainAll [a,b]=true∧fz (callF tab 78 83 [a,b] [.tab])=some (.bool true):=by
 unfold oddOK at h
 split at h
 ·rename_i a b
  simp only [Bool.and_eq_true] at h
  refine ⟨a,b,rfl,h.1,?_⟩
  have h2:=h.2
  split at h2
  ·rename_i e;exact e
  ·cases h2
 ·cases h
def lawQ (f:Fl)(_:Ve)(h:Hp):Prop:=f=.rt (.bool true)∧h[(0:Nat)]? = some .tab
theorem law_sv {N:Nat}(hN:N=78)(hchk:∀x1 x2 x3 x4 x5:AO,callF tab N 72 [] [.tab,x1,x2,x3,x4,x5]=.ok (.loc 30) ([.tab,x1,x2,x3,x4,x5]++b36.drop 6))(hod:fz (callF tab N 82 [] [.tab])=some (.lst odds))
  (hrf:∀d∈odds,∃a b,d=.tup [a,b]∧D.plainAll [a,b]=true∧fz (callF tab N 83 [a,b] [.tab])=some (.bool true)) (ns:List Int) (hl:ns.length≤63):Sv (evSs clsT (callF tab N) Z84.body [some (.lst (ns.map D.int)),none,none,none,none,none,none,none,none,none] [.tab]) lawQ (fun _ _ _=>False):=by
 simp! only [Z84]
 refine pool_ok (by omega) (by omega) fun a b c hb0 hb1 hc=>?_
 have S0:Src [.tab,.list [.int 5,.int 6,.int 3,.int 0,.int 5,.int 1,.int 2,.int 1,.int 2,.int 0],.list [],.list [],.list [.int a,.int b,c]]:=⟨a,b,c,rfl,hb0,hb1,hc.imp id fun z=>⟨z,[5,6,3,0,5,1,2,1,2,0],rfl,by decide⟩⟩
 simp_all! only [k_some]
 refine type_ok 3 (by omega) S0 (by omega) fun t h1 ht d1=>?_
 obtain ⟨y0,y1,y2,y3,y4,rfl⟩:=five_of d1.len
 have hy0:y0=.tab:=by
  have:=d1.at' 0 (by decide) (by decide)
  simpa using this
 subst hy0
 have S1:=d1.src
 simp_all! only [k_some]
 refine Ev.eq (hchk y1 y2 y3 y4 (.list [])) ?_
 have hb:∀i,7≤i→i < 36→([AO.tab,y1,y2,y3,y4,.list []]++b36.drop 6)[i]? = b36[i]? := fun i h1 h2=>by
  rw [List.getElem?_append_right (by simp;omega),List.getElem?_drop]
  congr 1
  simp
  omega
 have hlen:([AO.tab,y1,y2,y3,y4,.list []]++b36.drop 6).length=36:=rfl
 have h50:([AO.tab,y1,y2,y3,y4,.list []]++b36.drop 6)[(5:Nat)]? = some (.list []):=rfl
 have h00:([AO.tab,y1,y2,y3,y4,.list []]++b36.drop 6)[(0:Nat)]? = some .tab:=rfl
 have S2:Src ([AO.tab,y1,y2,y3,y4,.list []]++b36.drop 6):=S1.of rfl rfl
 generalize ([AO.tab,y1,y2,y3,y4,.list []]++b36.drop 6)=h2 at *
 simp_all! only [k_some]
 refine dok5 (md:=.mv) (rs0:=[]) (by omega) (by omega) S2 h50 (by simp) (by omega) fun p q rs h3 P hrs hpt d3 e3=>?_
 simp only [List.nil_append] at e3
 simp only [List.length_nil] at P
 have hrs':rs.length≤16:=hrs
 have c3:Cn (fun i=>h3[i]?) h3:=fun i hi h6=>by
  split
  ·rfl
  ·rename_i hn
   have:i=0∨7≤i:=by omega
   rcases this with rfl|h7
   ·rw [d3.at' 0 (by decide) (by decide) (by decide),h00]
    rfl
   ·rw [d3.at' i (by omega) (by omega) (by omega)]
    exact hb i h7 (by omega)
 have at3:∀i,32≤i→i < 36→h3[i]? = b36[i]? := fun i h1 h2=>by
  rw [d3.at' i (by omega) (by omega) (by omega)]
  exact hb i (by omega) h2
 obtain ⟨fq,frs⟩:=P.fit (by omega) (by omega)
 simp_all! only [k_some]
 refine typed_ok P c3 (d3.len.trans hlen) (at3 32 (by omega) (by omega)) (at3 33 (by omega) (by omega)) (at3 34 (by omega) (by omega)) (at3 35 (by omega) (by omega)) (by omega) (by omega) (by omega) fun h4 V' kn hr' H' R4=>?_
 have e45:h4[(5:Nat)]? = some (.list rs):=(R4.c.low (by omega) (by omega)).trans e3
 have S4:Src h4:=d3.src.of (R4.c.low (by omega) (by omega)) (R4.c.low (by omega) (by omega))
 have hrm:rs.length≤100000:=by omega
 have frs':Fit 60 (.lst rs):=fit_lst fun r hr=>by
  obtain ⟨l,_,_,f⟩:=frs r hr
  exact f.mono (by omega)
 simp! only [ne_self (fq.mono (by omega)),a_attr,at_of R4.c.a30,fget,at_of R4.l,hrm]
 refine rows_loop R4.l (by simp) frs rs.length 0 _ (by omega) ?_
 rw [List.drop_zero]
 simp! only [ne_loc frs' e45]
 rw [thaw_fz R4.c.a0 hod,ev_ok]
 refine one_ok S4 (by rw [odds_len];omega) (by rw [odds_len];omega) (by omega) fun j d h5 hj d5=>?_
 obtain ⟨x,y,rfl,hpl,hz⟩:=hrf d (List.mem_of_getElem? hj)
 have h50':h5[(0:Nat)]? = some .tab:=(d5.at' 0 (by decide) (by decide)).trans R4.c.a0
 simp_all! only [k_some]
 refine ⟨hpl,?_⟩
 rw [thaw_fz h50' hz,ev_ok]
 exact ⟨rfl,h50'⟩
theorem law_true (ns:List Int)(hl:ns.length≤63):∃ρ' σ',evSs clsT (callF tab 78) Z84.body (some (.lst (ns.map D.int))::List.replicate 9 none) [.tab]=.ok (.rt (.bool true)) ρ' σ'∧σ'[0]? = some .tab:=by
 have h:=law_sv rfl chk_at odds_at (fun d hd=>odd_of (List.all_eq_true.mp odds_ok d hd)) ns hl
 have e:(some (D.lst (ns.map D.int))::List.replicate 9 none:Ve)=[some (.lst (ns.map D.int)),none,none,none,none,none,none,none,none,none]:=rfl
 rw [e]
 generalize evSs clsT (callF tab 78) Z84.body [some (.lst (ns.map D.int)),none,none,none,none,none,none,none,none,none] [.tab]=r at h
 cases r with
 |ok f ρ' σ' =>
  obtain ⟨rfl,h0⟩:=h
  exact ⟨ρ',σ',rfl,h0⟩
 |ex c ρ' σ'=>exact h.elim
 |no=>exact h.elim
end
end Mine
section
set_option maxRecDepth 100000
set_option maxHeartbeats 8000000
open PySem PySem.W PySem.Spec PySem.Calls PyProof.Rows
namespace Mine
noncomputable def chkAll (K:Frag):Bool:=clsT.all (goodC K)&&fnT.all (fun fi=>keepIn K (.ref fi.addr))&&((List.range 85).all fun i=>match fnT[i]?,varN[i]? with|some fi,some nm=>chkF K fi nm&&chkP K fi nm|_,_=>false)&&chkIni K&&chkP K iniF iniN
theorem tabOK_of {K:Frag}(h:chkAll K=true):TabOK K:=by
 unfold chkAll at h
 simp only [Bool.and_eq_true] at h
 obtain ⟨⟨⟨⟨h1,h2⟩,h3⟩,h4⟩,h5⟩:=h
 refine ⟨h1,h2,fun f fi e=>?_,h4,h5⟩
 have hl:f < 85:=by
  have:=(List.getElem?_eq_some_iff.mp e).1
  exact this
 have:=List.all_eq_true.mp h3 f (List.mem_range.mpr hl)
 rw [e] at this
 split at this
 ·rename_i fi' nm e1 e2
  cases e1
  simp only [Bool.and_eq_true] at this
  exact ⟨nm,this.1,this.2⟩
 ·cases this
theorem builtinsAt_of {p:Program}{loose:List Str}{mean:ExcName→Option Value}{mg mb:Str→Option Value}{h:Heap}(T:Top p loose mean mg mb h)(hn:h.get? 151=none):h.BuiltinsAt mg tabA:=by
 obtain ⟨bm,ob,h1,h2,h3,h4,h5,h6⟩:=T.bmain
 refine ⟨bm,ob,h1,h2,fun q=>?_,fun q=>?_,h3,h4,h5,h6⟩
 ·obtain ⟨o,es,ep,e,d,_⟩:=T.g
  rw [q,e] at h3
  cases h3
  rw [h6] at d
  cases d
 ·rw [q] at h3
  have:h.get? 151=some ob:=h3
  rw [hn] at this
  cases this
end Mine
end
section
open PySem PySem.W PyProof.Rows
set_option maxRecDepth 100000
set_option maxHeartbeats 8000000
namespace Mine.fin
def tw9703995961882730528:=()
def tw12740692763255036000:=()
def tw18105285910621931680:=()
def tw5634151482396758240:=()
def tw6435670951450185984:=()
def tw10599938827571368224:=()
def tw2070271336192807200:=()
def tw4209717502836232480:=()
def tw5959876418071484736:=()
def tw1544503264643628384:=()
def tw3506512066687448480:=()
def tw3767311804947220896:=()
def tw828056024939588000:=()
def tw4640724917100965312:=()
def tw17801579834951734752:=()
def tw16722612574783549952:=()
def tw14109310954907245088:=()
def tw2523478847598653984:=()
def tw10728385900330055232:=()
def tw13119895379190043232:=()
def tw15913912297419572864:=()
def tw12534922522094339712:=()
def tw3853475060279184000:=()
def tw17701328389417463424:=()
def tw18203403984663443072:=()
def tw6515953530934532768:=()
def tw799341379326975648:=()
def tw16326573535979396768:=()
def tw9757074474933493440:=()
def tw2516017022742817472:=()
def tw8656503046869711584:=()
def tw11923680722139196160:=()
def tw17748852888720816928:=()
def tw13718649260633737024:=()
def tw11325060847842403200:=()
def tw8058895272353334144:=()
def tw17681516322279627680:=()
def tw7558420492911801248:=()
def tw11156769864338437024:=()
def tw11298980531735778240:=()
def tw9883050511414546368:=()
def tw11192643925408225281:=()
def tw2204852077615127585:=()
def tw7522001649326652513:=()
def tw174019566453475457:=()
def tw6220327705178566785:=()
def tw10704335966402640001:=()
def tw11293339424137598113:=()
def tw11575174756993882273:=()
def tw2885147992704089249:=()
def tw12487371901255815361:=()
def tw15153159077126877473:=()
def tw8654399550266618177:=()
def tw7249652514872940865:=()
def tw6471637959255122241:=()
def tw4704930585520482657:=()
def tw15566928917628492161:=()
def tw8446749797226024353:=()
def tw15815952407149668801:=()
def tw13582292425324344769:=()
def tw4443050520305737185:=()
def tw14838103818555229697:=()
def tw1545086475593560577:=()
def tw452842511749404161:=()
def tw9508293364712189505:=()
def tw6352828451902743105:=()
def tw10850621001676330593:=()
def tw945457799607111265:=()
def tw9509447333196811905:=()
def tw11772964195913830049:=()
def tw1519764728837627585:=()
def tw1050772042951663329:=()
def tw11414119711712004833:=()
def tw3794220679723124481:=()
def tw9562887932049252097:=()
def tw7072277547680571169:=()
def tw15205425988870721313:=()
def tw8408514402456403777:=()
def tw4440197508161821537:=()
def tw18105942590061964161:=()
def tw4928979718650693569:=()
def tw8119881530291889089:=()
def tw10478924771774928865:=()
def tw5678346346211369953:=()
def tw14921402304766138370:=()
def tw5486226609284752418:=()
def tw17717364068325071970:=()
def tw4533668543753331810:=()
def tw5106123347721008290:=()
def tw8775384921122389154:=()
def tw9357874355931990178:=()
def tw15675102808854859970:=()
def tw12448240930570709186:=()
def tw5689665320540551426:=()
def tw3373110491918621954:=()
def tw8018989035897545986:=()
def tw6815667921103612162:=()
def tw11067033192786714914:=()
def tw17407121136558984578:=()
def tw10699407837109476802:=()
def tw7995428538843987458:=()
def tw12454092890298587682:=()
def tw3510506673179690562:=()
def tw265940963699897922:=()
def tw16503470079419688546:=()
def tw2824846461999071874:=()
def tw10696652717036330658:=()
def tw10194128795564708546:=()
def tw3246839028233683650:=()
def tw11869342324683393730:=()
def tw14721709283769024194:=()
def tw4910921440188858082:=()
def tw8324475765796731650:=()
def tw9038226972742754082:=()
def tw9777358683055682370:=()
def tw17311274769643918242:=()
def tw13469397999491448738:=()
def tw4769821431679368130:=()
def tw14850281960500911042:=()
def tw12962497063298326498:=()
def tw11627564742378439650:=()
def tw4424551920762525699:=()
def tw18082680734076937219:=()
def tw13574545013463194659:=()
def tw18011332887955570755:=()
def tw670465573061467203:=()
def tw13467322939085005891:=()
def tw8590288500278120515:=()
def tw2185935427153128515:=()
def tw17314879045244329059:=()
def tw17149882997012438147:=()
def tw4186671074074167459:=()
def tw17881394067367492771:=()
def tw18203776172705718467:=()
def tw6827196828439936291:=()
def tw4992356995671143779:=()
def tw17344510285554748771:=()
def tw8151358987872166243:=()
def tw4170516301191304579:=()
def tw4574527179188669827:=()
def tw3023385222666876323:=()
def tw584112131590315491:=()
def tw9113340658982188547:=()
def tw17465016565071970851:=()
def tw638937937634476611:=()
def tw9436355067682764387:=()
def tw14939693663707051619:=()
def tw13066358836101814915:=()
def tw16115155874713506467:=()
def tw5402249366112354979:=()
def tw11454252539852477091:=()
def tw3762306804915933987:=()
def tw9246303508379850531:=()
def tw4124276233288881987:=()
def tw15989303212955285315:=()
def tw11147117730913898307:=()
def tw2896703901015224195:=()
def tw12135189313929291683:=()
def tw16892666456041662371:=()
def tw1903126291601959907:=()
def tw11707752901727499235:=()
def tw11151619158091525091:=()
def tw15191739723255019524:=()
def tw5788617169152180260:=()
def tw9073057256386726948:=()
def tw16117218838092406820:=()
def tw8511326990415419460:=()
def tw6667815254911646788:=()
def tw15130973080138329188:=()
def tw8088732932480780420:=()
def tw7786677914034681988:=()
def tw5812312609449684100:=()
def tw11462241541112437924:=()
def tw9825859731914700964:=()
def tw17132207802985990308:=()
def tw7070076370878917828:=()
def tw9428015183855846628:=()
def tw14345562132136545540:=()
def tw3733651895302910212:=()
def tw11900726367713137988:=()
def tw6388184931127306564:=()
def tw9559820642381380932:=()
def tw15846704840505152836:=()
def tw17662344363894024548:=()
def tw17036620345825979748:=()
def tw12979919090201106820:=()
def tw8629152706101051812:=()
def tw16912196016219973028:=()
def tw17670266018552243620:=()
def tw6245052726248493572:=()
def tw8607229883538334244:=()
def tw11355490997034717764:=()
def tw10708223146118651492:=()
def tw11309971608317499012:=()
def tw15367214624046358148:=()
def tw18345640342736445060:=()
def tw16991462679434999460:=()
def tw2775396313129547428:=()
def tw2995622967998787300:=()
def tw3865292505339112164:=()
def tw6620434350048004:=()
def tw14819470525377895172:=()
def tw15434440284735832900:=()
def tw3302319216010004292:=()
def tw848606289541702500:=()
def tw11395320378806372228:=()
def tw7334248845499685764:=()
def tw17963964198891936676:=()
def tw14257018576560825284:=()
def tw18099640592841667524:=()
def tw15720169278158731236:=()
def tw12389367852926655493:=()
def tw9260378047223084069:=()
def tw4696956992080197669:=()
def tw3717791156732904485:=()
def tw1560641971993327685:=()
def tw882229546687200357:=()
def tw4775051631455894629:=()
def tw6202570286863721605:=()
def tw5197314502515736709:=()
def tw2367325634123391141:=()
def tw7163653591271443685:=()
def tw11205304004016384229:=()
def tw2394721887258651877:=()
def tw7929640520542984453:=()
def tw15488412567658976549:=()
def tw6361463693118634277:=()
def tw10818889477481085253:=()
def tw5585719645790517573:=()
def tw13496708705503635781:=()
def tw15476544859757588837:=()
def tw8053913732961167717:=()
def tw18029292227714294213:=()
def tw3523348777828740581:=()
def tw8269367382603917829:=()
def tw612862322836996645:=()
def tw9052857236999984677:=()
def tw6956187926921108005:=()
def tw14578271805448956485:=()
def tw4713690678409872965:=()
def tw13501502787908985413:=()
def tw14979938633740849765:=()
def tw3906754673857718949:=()
def tw11497045990708751045:=()
def tw6765885160407392965:=()
def tw6474043946942992101:=()
def tw5102460946473063141:=()
def tw10007411396671696613:=()
def tw2305881189932309285:=()
def tw3410196128995246917:=()
def tw8603500279265290053:=()
def tw13689246381084688261:=()
def tw17610481187121035141:=()
def tw13925877587632400325:=()
def tw14428884847818488773:=()
def tw7613945582906998725:=()
def tw13814004702073501669:=()
def tw11273041486466551846:=()
def tw10901649546591821862:=()
def tw6389813905438556230:=()
def tw9524105066518557862:=()
def tw12071558147654375590:=()
def tw12833947400113492166:=()
def tw10895054467252067526:=()
def tw16275787546110486726:=()
def tw819001938494946534:=()
def tw14336544582882092262:=()
def tw11583151060123660582:=()
def tw3788772014149755174:=()
def tw8282812270067184934:=()
def tw16448914465934546278:=()
def tw12669758225909598566:=()
def tw10678765320413552006:=()
def tw17356987340757268870:=()
def tw3863403702602939814:=()
def tw1951045429614898598:=()
def tw11116067473893591494:=()
def tw3936071799763621318:=()
def tw7033882931294258662:=()
def tw13558135923588603398:=()
def tw5991891943723376134:=()
def tw2441168790927817222:=()
def tw15523922138108190246:=()
def tw7717632546995137062:=()
def tw3199103547748192838:=()
def tw17130245016438642246:=()
def tw769983615490850566:=()
def tw4924110625330727750:=()
def tw5978438607452443526:=()
def tw1209720653154232198:=()
def tw10807920368746810246:=()
def tw15459455144867644326:=()
def tw5407232425735434182:=()
def tw6872408275531757542:=()
def tw13295704053362595847:=()
def tw8059700687775931431:=()
def tw10888490241844629607:=()
def tw4201165798948173927:=()
def tw12741526300851653767:=()
def tw1736138319177078919:=()
def tw15019234207855213703:=()
def tw12556456511402129575:=()
def tw11338875618241718471:=()
def tw7563514974416257223:=()
def tw273201369580953799:=()
def tw8577089030196625639:=()
def tw17303276941060079847:=()
def tw5725524221116865799:=()
def tw11277597615667878183:=()
def tw18176387895596863783:=()
def tw12696600883282566439:=()
def tw8330952907988395303:=()
def tw14458313979923949895:=()
def tw12118000046449163591:=()
def tw10043950574865488231:=()
def tw15243534294739168615:=()
def tw2565351972500760935:=()
def tw416177051242630535:=()
def tw9218923581257491847:=()
def tw10770419977021028743:=()
def tw15238337123492228519:=()
def tw17123178472405020103:=()
def tw14297971457927632359:=()
def tw12409915417874342407:=()
def tw3112429581023547943:=()
def tw10383673109516279431:=()
def tw2103456241558337223:=()
def tw10350682745594973927:=()
def tw6921073858925291239:=()
def tw12403690455625630471:=()
def tw2257193571878035239:=()
def tw13360279666012451719:=()
def tw2687768774938457991:=()
def tw1035503724928835527:=()
def tw14856888987745899463:=()
def tw1976505206021243879:=()
def tw14899709244077398024:=()
def tw11851709006616689672:=()
def tw8732412218395851816:=()
def tw14279960228734115912:=()
def tw947276838399291496:=()
def tw12586190556516072552:=()
def tw7380833856163905736:=()
def tw14153841308418656456:=()
def tw14679806638718605512:=()
def tw12494888245299231016:=()
def tw11466478281803324712:=()
def tw2086631506510373192:=()
def tw8622160174418277736:=()
def tw1195193663934043528:=()
def tw6380807493870290408:=()
def tw4040260094072895976:=()
def tw10925335251469727208:=()
def tw6485783843944922600:=()
def tw7383848191655739912:=()
def tw13565238788985558536:=()
def tw12757720458447036936:=()
def tw5984158551500366440:=()
def tw12890721736228548200:=()
def tw2976117146107443816:=()
def tw17484917917373573768:=()
def tw4179367391157097096:=()
def tw14431720936831517352:=()
def tw819006710299763400:=()
def tw1625080806587739848:=()
def tw14923884007163036392:=()
def tw15225332579556243176:=()
def tw6525817661751114472:=()
def tw11897717083992391400:=()
def tw15149952090015108872:=()
def tw17779459042885607208:=()
def tw8919302590299486024:=()
def tw3974152918291533672:=()
def tw428092273266315144:=()
def tw3125960719983571848:=()
def tw1105837973531982728:=()
def tw4124441165874395080:=()
def tw16956781808756083688:=()
def tw999798209818781672:=()
def tw1422313219903470601:=()
def tw2824711377971209:=()
def tw12946824338688289833:=()
def tw9059937348426287209:=()
def tw6061592489118403721:=()
def tw15938515463387723913:=()
def tw3343445320678177929:=()
def tw17220895691602665673:=()
def tw15533503492667675913:=()
def tw5996712805030441225:=()
def tw8587099438709951753:=()
def tw7021976415091001641:=()
def tw1921165311934587177:=()
def tw10671828304227620169:=()
def tw12612204703400128841:=()
def tw14165584387687976329:=()
def tw1921391257341544841:=()
def tw10372454290965829033:=()
def tw9556950149685670313:=()
def tw16867096813858660809:=()
def tw7636574776371312073:=()
def tw10281396178488509929:=()
def tw16656299143469825513:=()
def tw15234240111613058569:=()
def tw11260992270255960585:=()
def tw1195334901915552329:=()
def tw4684940682943077961:=()
def tw9735714214384596553:=()
def tw12868640280835112553:=()
def tw3004984022683251337:=()
def tw17570709534508481193:=()
def tw8352470293576582857:=()
def tw2046393882495617769:=()
def tw9387745189664136937:=()
def tw3432132637015033673:=()
def tw10504543856557348713:=()
def tw7830629276484211593:=()
def tw14855157385224911753:=()
def tw16269368082590959529:=()
def tw4002333041265778665:=()
def tw10831918285883469834:=()
def tw14996743850099388458:=()
def tw8890792774038802474:=()
def tw11953781441336167498:=()
def tw10852849658779182186:=()
def tw4538191230965241994:=()
def tw757079261281740938:=()
def tw16906536467411238026:=()
def tw5713887491374438570:=()
def tw2991292073481677994:=()
def tw884059145510264010:=()
def tw14955290184562816202:=()
def tw7468727024169554154:=()
def tw16570786720924097770:=()
def tw9220288515469044970:=()
def tw8559517257967667466:=()
def tw17918125715009934602:=()
def tw13898374239775968522:=()
def tw6081921254191324426:=()
def tw14637358334870819178:=()
def tw12149302876761508202:=()
def tw12821662553749405066:=()
def tw8092282109911263626:=()
def tw10262537013395359178:=()
def tw7098310284689642954:=()
def tw2478350994414567946:=()
def tw1348009686575996458:=()
def tw5920281757701029450:=()
def tw4329306826757983850:=()
def tw6113989636485653130:=()
def tw2556814553914141322:=()
def tw4868334931027891882:=()
def tw4613182775407389354:=()
def tw4337157586716928682:=()
def tw2866121171748074186:=()
def tw5351017473137806058:=()
def tw3976127234124569322:=()
def tw10790007923984976650:=()
def tw14568449535678555946:=()
def tw17186005699333237546:=()
def tw14139026862911339306:=()
def tw13413733117436355370:=()
def tw17461915456910197578:=()
def tw4588413851689716618:=()
def tw10874316729293906858:=()
def tw14560573928864763818:=()
def tw17433287530729320394:=()
def tw14774052361384061898:=()
def tw2320886540369039338:=()
def tw721199640417726442:=()
def tw13097714293880789003:=()
def tw5986742067250831371:=()
def tw18067472453656292363:=()
def tw14239432107786713131:=()
def tw5593514722818144331:=()
def tw10242451874928486539:=()
def tw13870153662132920491:=()
def tw857469055436470443:=()
def tw8399098705505230059:=()
def tw9713546201632813291:=()
def tw5063945577112930571:=()
def tw373065315874586923:=()
def tw17821466097196317003:=()
def tw18143685660980048203:=()
def tw14210890002308233579:=()
def tw2067723777617599883:=()
def tw944567322932927883:=()
def tw18164189302063226315:=()
def tw11209750170652599755:=()
def tw3600006292299410923:=()
def tw7661832156752021035:=()
def tw1133488854539047467:=()
def tw5246096745964282443:=()
def tw17567850324905474699:=()
def tw16285329926789087883:=()
def tw16068754644101465803:=()
def tw17535827442545306379:=()
def tw146108955859267339:=()
def tw15741700470354863883:=()
def tw15523924160545744683:=()
def tw12809788781938459499:=()
def tw17416127249078093707:=()
def tw6871721634829395883:=()
def tw9161697477995246604:=()
def tw6806541166334345260:=()
def tw2053592712835629100:=()
def tw6838789434069753932:=()
def tw6449190631224713292:=()
def tw8569027658895312972:=()
def tw13566729865485783148:=()
def tw4785737784526614668:=()
def tw33427290768588972:=()
def tw17347454772498655404:=()
def tw9524518906428321964:=()
def tw16522761824813919436:=()
def tw13161798303456468172:=()
def tw16186304066995879148:=()
def tw17136511569032190220:=()
def tw16496857829328116044:=()
def tw2797696144272983404:=()
def tw8776770756819070316:=()
def tw3597285623890379148:=()
def tw6207176494656529804:=()
def tw4217414874291451276:=()
def tw7028063314416541132:=()
def tw9631822210178866636:=()
def tw15273852366172491244:=()
def tw14492276426124471788:=()
def tw16145351769185666540:=()
def tw16237712226934743532:=()
def tw11623398277830307340:=()
def tw1206694682578267724:=()
def tw1103255985313285740:=()
def tw15144710454662140524:=()
def tw5734618986648460908:=()
def tw11280146832396436108:=()
def tw930286699578186380:=()
def tw803859442106103436:=()
def tw10070804522480449196:=()
def tw6846200578177281708:=()
def tw6634307039904815820:=()
def tw1324748791087667916:=()
def tw10091234832980417260:=()
def tw10196768644732416780:=()
def tw12273546716903637868:=()
def tw12356021495744459628:=()
def tw18295790063311454060:=()
def tw1766193274316824492:=()
def tw18404063521330658252:=()
def tw266292477781368812:=()
def tw13278809456085556237:=()
def tw12072802829135307789:=()
def tw17108682257543074861:=()
def tw12629903358213643309:=()
def tw16859985489051350061:=()
def tw10776127142208907341:=()
def tw12876116671307685997:=()
def tw4833179351181384845:=()
def tw7518579229450374285:=()
def tw8289400949097046189:=()
def tw295240868970151085:=()
def tw6848912972918003917:=()
def tw16109372258727991565:=()
def tw16497079637816224013:=()
def tw8953957674483744013:=()
def tw16530489862217454893:=()
def tw9604457797605292365:=()
def tw5916107541561443693:=()
def tw15932523567376311661:=()
def tw14190076187652291949:=()
def tw9229436766338760077:=()
def tw9231918322118259117:=()
def tw13673274986797844941:=()
def tw12686965223737687597:=()
def tw13093503161671486093:=()
def tw13217662176923290317:=()
def tw14021872759519490765:=()
def tw7845872953664198349:=()
def tw8075192146702601997:=()
def tw1202912048536075021:=()
def tw5011121235533021005:=()
def tw5193127060418132845:=()
def tw16229209127682248589:=()
def tw17698704350827878285:=()
def tw6531376189190222733:=()
def tw5141113994777284493:=()
def tw9001875181463519149:=()
def tw12084336645073829805:=()
def tw8940416962707143629:=()
def tw7933630861670307789:=()
def tw3029852977388229646:=()
def tw16921374880739206190:=()
def tw12292906935544458286:=()
def tw10088260576245011566:=()
def tw3216615955080020110:=()
def tw4950403968356008110:=()
def tw12557769604369416430:=()
def tw7022806388564383982:=()
def tw2304379251839397102:=()
def tw9913140749668108558:=()
def tw10877920979083283726:=()
def tw16593498308125037870:=()
def tw8288733244629462318:=()
def tw9436597474664901934:=()
def tw6381419901266130222:=()
def tw3752056022367304142:=()
def tw17830361364027725262:=()
def tw1213908355484861934:=()
def tw8614737586434602478:=()
def tw1982079694162106894:=()
def tw5071919506433949198:=()
def tw17656766251404061198:=()
def tw15219631101029703214:=()
def tw6566618420281934:=()
def tw10939691994893167182:=()
def tw2145012663239829070:=()
def tw7684487725183542926:=()
def tw14166196953294261902:=()
def tw3211687289105081006:=()
def tw17743408960866722510:=()
def tw7319501015663598286:=()
def tw1450881378762983150:=()
def tw14672911461793829614:=()
def tw7675655780812522254:=()
def tw17809232949079649038:=()
def tw6740323729440402254:=()
def tw2512408688544751470:=()
def tw5897612983314593646:=()
def tw14449560505687523246:=()
def tw8651105995357262798:=()
def tw5792265106169080782:=()
def tw5957180451953820622:=()
def tw14728723275428758510:=()
def tw18004827428879835118:=()
def tw17197158672614542318:=()
def tw15083174532876359662:=()
def tw5079576279043364846:=()
def tw13929302177132474383:=()
def tw17571561675222187055:=()
def tw10391319463526535247:=()
def tw3939050589584296047:=()
def tw18045370259859999855:=()
def tw18298288384779628655:=()
def tw1535588207084551279:=()
def tw17495881415371897999:=()
def tw1777069842159760527:=()
def tw11277574374343807151:=()
def tw4716181948101807:=()
def tw429763040754596015:=()
def tw2415902012162501839:=()
def tw11819170096642289871:=()
def tw2603282792292808943:=()
def tw7000300075881102575:=()
def tw10011167713772783887:=()
def tw15942684835789789487:=()
def tw12423952289234860367:=()
def tw16429022384663243119:=()
def tw3268265519342814607:=()
def tw2277568627679802767:=()
def tw6323506392446703087:=()
def tw2671655128345628175:=()
def tw1562932699786603023:=()
def tw17511047464938703439:=()
def tw12283613380358538863:=()
def tw6091149213335829167:=()
def tw10656291684629039791:=()
def tw17234587430967350031:=()
def tw10469515968555745039:=()
def tw14959412447673286447:=()
def tw6347882812451238735:=()
def tw13021059552284102479:=()
def tw4395496475954998127:=()
def tw4145619633490157487:=()
def tw5139589434142006255:=()
def tw14786503066443513839:=()
def tw3059278276029138960:=()
def tw16010895459844773936:=()
def tw2670571373685298256:=()
def tw7336344344812659824:=()
def tw8696399802814041232:=()
def tw6454446336052903152:=()
def tw3185298417894076688:=()
def tw14909718650217641264:=()
def tw16253991525020053840:=()
def tw7844069586390513008:=()
def tw11989984593139433840:=()
def tw2654552327011884432:=()
def tw1281744992317467088:=()
def tw423345284130997744:=()
def tw10235334195030205936:=()
def tw13790858721211988464:=()
def tw12996517811204074000:=()
def tw15120748072543544848:=()
def tw3222278782482380304:=()
def tw9221430085559818832:=()
def tw982560976839675504:=()
def tw13815853411582834384:=()
def tw17737941679453060848:=()
def tw12751662967071866640:=()
def tw10998343915150870288:=()
def tw2321816554428607280:=()
def tw1635022588487117616:=()
def tw500868675978126160:=()
def tw13383306551100868464:=()
def tw3509928780539964272:=()
def tw13162651487661262736:=()
def tw16958243865122950064:=()
def tw5372875611105449904:=()
def tw3885313090954376144:=()
def tw11336253725339858928:=()
def tw5230622158679508976:=()
def tw12971124776947463185:=()
def tw3541825141892303889:=()
def tw12073638493852289073:=()
def tw1252854909445205041:=()
def tw3173534031939492945:=()
def tw4312942655851389009:=()
def tw6370398367566163025:=()
def tw12856649910388040817:=()
def tw15094949803261831281:=()
def tw1709551657539720305:=()
def tw8660049834305141905:=()
def tw9358891041858214033:=()
def tw16584127079891442865:=()
def tw12458955589063782577:=()
def tw124547854259737777:=()
def tw6113892759573084369:=()
def tw2462912638960843985:=()
def tw15396384818603876561:=()
def tw12993229153697758449:=()
def tw9844327171925773585:=()
def tw5098551885099359569:=()
def tw18387650150990424433:=()
def tw16375469754199864689:=()
def tw7363827456180718993:=()
def tw17869975865946814897:=()
def tw480829909506669009:=()
def tw3200212019564660177:=()
def tw15832999045522443761:=()
def tw16934629359412608497:=()
def tw11750646167744613905:=()
def tw220677088936066577:=()
def tw11414674201277728305:=()
def tw16957808320718949937:=()
def tw17911201065640838737:=()
def tw14667941539000003185:=()
def tw3404873503106905745:=()
def tw17446947388961346225:=()
def tw11346557470443003569:=()
def tw5266742908149448401:=()
def tw2218633174628956881:=()
def tw10393886385942881009:=()
def tw14075178694198228753:=()
def tw944135987803093777:=()
def tw9659392335347125073:=()
def tw9508526790633795441:=()
def tw10628475034512898961:=()
def tw5320702786494000081:=()
def tw4652738160404261841:=()
def tw2656788454239962097:=()
def tw13203597883595413489:=()
def tw2666023531980169362:=()
def tw13561466723244134546:=()
def tw11587955951900863698:=()
def tw9722632081671974098:=()
def tw5679570950571409650:=()
def tw15307359549416329458:=()
def tw16464420300316434674:=()
def tw743781803092876562:=()
def tw10907391636593693970:=()
def tw8677802771170823506:=()
def tw12105171945263650130:=()
def tw1887099378405440850:=()
def tw12171577908484138354:=()
def tw5073790198343104882:=()
def tw1327509311449162130:=()
def tw11607805686811502034:=()
def tw14468091648759818802:=()
def tw8643116662766533202:=()
def tw5843104343964092018:=()
def tw9437242357050131058:=()
def tw13235901397817054834:=()
def tw3837020019201816242:=()
def tw16798467561266328274:=()
def tw12847644182280273618:=()
def tw11637346524468614962:=()
def tw5576714124690252594:=()
def tw9363291351745731410:=()
def tw6766580051018981234:=()
def tw11179249921394602866:=()
def tw14060254640080698258:=()
def tw15693171249328670706:=()
def tw17344254963278052338:=()
def tw2527257450557998099:=()
def tw7047351209531925555:=()
def tw5354148072674057331:=()
def tw17283115642960038067:=()
def tw8110510569099292851:=()
def tw9487260019516590291:=()
def tw2724587677208862931:=()
def tw13700621096757390547:=()
def tw2595221338624275699:=()
def tw16448676403291746579:=()
def tw5196160543931855155:=()
def tw8185091604740117843:=()
def tw5911770217454447987:=()
def tw6766378078585498003:=()
def tw3018758056844737939:=()
def tw14134379338385194387:=()
def tw2444273588731816371:=()
def tw9381001406090123731:=()
def tw16502652511500755:=()
def tw11299997306764849619:=()
def tw12202137732620339699:=()
def tw14558545664804480499:=()
def tw13523910257889291827:=()
def tw10012918712295848499:=()
def tw891787732878383699:=()
def tw14503080293383508659:=()
def tw17485583185531914963:=()
def tw11224825812204259059:=()
def tw16644462212089915155:=()
def tw17974384156558142227:=()
def tw3611084566261647123:=()
def tw3399429508193669907:=()
def tw15825511895219661619:=()
def tw17546527683439953779:=()
def tw17933470926392208243:=()
def tw12564304381541211027:=()
def tw4499257904209204147:=()
def tw14574801432027512755:=()
def tw7638955922819175379:=()
def tw3599858809825778643:=()
def tw18274610161616023507:=()
def tw7830602891274557492:=()
def tw3598329298470268980:=()
def tw16478552945605688404:=()
def tw7271575661252642932:=()
def tw562294597585456244:=()
def tw1080700006314346644:=()
def tw15344004072050561172:=()
def tw7282745182861764756:=()
def tw744865244796547220:=()
def tw18373065035072037172:=()
def tw6582743566554038612:=()
def tw138543146574967220:=()
def tw6577878126316647860:=()
def tw17430205856086898164:=()
def tw3236217559460173300:=()
def tw6567050819087999508:=()
def tw12212933522069011988:=()
def tw14814673180317915700:=()
def tw3129228512308937268:=()
def tw888132650186811988:=()
def tw10313180648002132564:=()
def tw7008622114716911220:=()
def tw9329150127792265844:=()
def tw6215407027087421044:=()
def tw16622976982446799508:=()
def tw5227809002895711924:=()
def tw10936777179133785780:=()
def tw11079828417688620724:=()
def tw12464766053444552404:=()
def tw488218634404078324:=()
def tw2436393772889279252:=()
def tw3261639445485040436:=()
def tw16708981103961760564:=()
def tw8472697214298850164:=()
def tw6620296344095940468:=()
def tw9247658263007524724:=()
def tw11678130103378247572:=()
def tw13158425560686309300:=()
def tw3998398428148030388:=()
def tw5660257367854189524:=()
def tw7321584467024264148:=()
def tw6718411051458867188:=()
def tw418608610138435605:=()
def tw7690983457609660469:=()
def tw17719728818120068181:=()
def tw216489041496292469:=()
def tw11040825799340251285:=()
def tw17267618260052754613:=()
def tw8025084765662995669:=()
def tw17684750252590230805:=()
def tw14517287926952318261:=()
def tw4374990076676594005:=()
def tw1727621133314857333:=()
def tw14018533915963200917:=()
def tw1580780407708033493:=()
def tw380778119907437045:=()
def tw11471956102464614933:=()
def tw13303660033021381205:=()
def tw11609251653779473045:=()
def tw2275749259730422485:=()
def tw4303106303303389909:=()
def tw7650283484787511029:=()
def tw16771295499568265973:=()
def tw16754643870311390997:=()
def tw8658185699838806805:=()
def tw6524417157066176309:=()
def tw12347537446847802165:=()
def tw7856420140689306517:=()
def tw13781542876482819989:=()
def tw7057970582943232917:=()
def tw9578429878718019509:=()
def tw4891822661719351221:=()
def tw12076048789873493973:=()
def tw1128348596072947701:=()
def tw6878024787957991413:=()
def tw2537931557510868981:=()
def tw4759752924163587094:=()
def tw6712194924023145494:=()
def tw862447977868951606:=()
def tw13894747593318719542:=()
def tw10411508006071892022:=()
def tw1239743038759826550:=()
def tw3995266172827902102:=()
def tw7665662160710120598:=()
def tw8896352889252549814:=()
def tw9453873691999584502:=()
def tw9806666330580929782:=()
def tw4598667867955821814:=()
def tw4144819383078699286:=()
def tw1044461793932804406:=()
def tw17449020081951674710:=()
def tw7255982825651180886:=()
def tw7439575562449295702:=()
def tw15408508732894643574:=()
def tw11680795503199820150:=()
def tw4162185377826839926:=()
def tw783483362715066742:=()
def tw824797018042769846:=()
def tw9330868436908423606:=()
def tw17611727573569791414:=()
def tw13183061134860383702:=()
def tw6127190174262240918:=()
def tw17512474026176034454:=()
def tw15399907426655090358:=()
def tw7348594602126897846:=()
def tw3263211703599914710:=()
def tw3810570522144960214:=()
def tw2910385600587045654:=()
def tw3839206501371402102:=()
def tw14895270292469626870:=()
def tw9544026089342320630:=()
def tw6498334528663615478:=()
def tw15698005342984667159:=()
def tw187941002565524503:=()
def tw8598692823790989367:=()
def tw16625790000389398615:=()
def tw1397303283331804279:=()
def tw1538076008739104887:=()
def tw8076651003907644567:=()
def tw10416720858127766743:=()
def tw2316539691658765527:=()
def tw14111491100615862519:=()
def tw7267163888087337239:=()
def tw14178952322520976695:=()
def tw3810338749695602999:=()
def tw18195182924450695511:=()
def tw6690978737144721751:=()
def tw8383268338085895543:=()
def tw15619530173980987831:=()
def tw8668149382578428375:=()
def tw3683778510129048087:=()
def tw18087328562809068087:=()
def tw5266942916734154295:=()
def tw2377308710366028375:=()
def tw4306616734650971735:=()
def tw11024638832163780183:=()
def tw3738894495883498167:=()
def tw4302917861877037783:=()
def tw13199158710529813207:=()
def tw12977279227502587607:=()
def tw16192418988078311159:=()
def tw10751089155417173751:=()
def tw6532753360307331927:=()
def tw855585454354188119:=()
def tw14658254696389335927:=()
def tw331587747771337591:=()
def tw5249893051879422871:=()
def tw14920341990273354679:=()
def tw7445452272831510455:=()
def tw11201512880063761335:=()
def tw4490852404376165303:=()
def tw7708874160547798999:=()
def tw2466808103346753527:=()
def tw13838681890673545272:=()
def tw4898026214463823928:=()
def tw16684344177607277624:=()
def tw16955142331783759960:=()
def tw17067295170570645592:=()
def tw491973367168481400:=()
def tw9597861255099599992:=()
def tw5074779506442595448:=()
def tw15590172107835277464:=()
def tw2789213428527533208:=()
def tw12239064139714945176:=()
def tw11821157177794564280:=()
def tw3395650296261689528:=()
def tw17659792820800573624:=()
def tw9917203430921899224:=()
def tw8097654560655122648:=()
def tw347816163483929816:=()
def tw12214134854039867640:=()
def tw7525613125554837784:=()
def tw2186698500278933816:=()
def tw13516622038369049944:=()
def tw1104087735260006872:=()
def tw10329872625359487480:=()
def tw5250828734511838712:=()
def tw15279137341521000952:=()
def tw13177410634674063896:=()
def tw16903924287465469464:=()
def tw13509038323834791480:=()
def tw4788878847521262168:=()
def tw17362494058136835672:=()
def tw15621619335703214680:=()
def tw5776136370200156792:=()
def tw876206183137641144:=()
def tw891448327626169016:=()
def tw8281523328739849912:=()
def tw5285785234609935064:=()
def tw1448885039305934584:=()
def tw9746214513668125432:=()
def tw9026956108355566328:=()
def tw4878226113927451544:=()
def tw11490603987736509336:=()
def tw6335709333293612952:=()
def tw12343934877155477432:=()
def tw11693106759165616088:=()
def tw12932903420030652473:=()
def tw16252508478716706905:=()
def tw15530281825414154361:=()
def tw17802944882907423865:=()
def tw8785817190682134681:=()
def tw17109930996152030393:=()
def tw5741801548637672665:=()
def tw2306873549167696089:=()
def tw4658327283870856409:=()
def tw8272817396058243321:=()
def tw17041991840579044601:=()
def tw3338164360138783001:=()
def tw3335054579961404729:=()
def tw2152167444364839225:=()
def tw5805905742469029177:=()
def tw7116698238491815225:=()
def tw6794536074604225881:=()
def tw18230178534529381785:=()
def tw3028926083550364057:=()
def tw17896612028031085017:=()
def tw6400248389586479577:=()
def tw10279692637995926009:=()
def tw12550770813317053977:=()
def tw3975253019698251321:=()
def tw8731306006301319769:=()
def tw1390109508276135513:=()
def tw5293390819737331289:=()
def tw4879674094562380441:=()
def tw6455845175183424153:=()
def tw1992996095170833049:=()
def tw17502855826952124057:=()
def tw11389583511973518041:=()
def tw14347400895652799225:=()
def tw3277210607324053241:=()
def tw8416529770105884409:=()
def tw17425937995043322649:=()
def tw6557400838089866009:=()
def tw13732859552379440985:=()
def tw8999559765510592377:=()
def tw3269693614287924217:=()
def tw13883070154070340634:=()
def tw15089571124056680474:=()
def tw16205109500356779066:=()
def tw4827270371386293306:=()
def tw13619204772191458394:=()
def tw4043148821406017626:=()
def tw18075230132384515194:=()
def tw1088692219920020602:=()
def tw5029745898896661690:=()
def tw4988848703289810138:=()
def tw2090205506522743130:=()
def tw6214469639950668122:=()
def tw9339408515151402362:=()
def tw14016782137374729594:=()
def tw7803649310394182010:=()
def tw12780881840741157306:=()
def tw5514125408013525434:=()
def tw1412798022092170682:=()
def tw12869217540446652890:=()
def tw7070210977369740762:=()
def tw7605189527823165946:=()
def tw12663102006800830970:=()
def tw12705944875615423002:=()
def tw4026100201820347962:=()
def tw7469950542288936506:=()
def tw15681417991851648634:=()
def tw8331973007464152698:=()
def tw13175226182763708026:=()
def tw12567809125941998234:=()
def tw12876064707754696378:=()
def tw16401934584784274106:=()
def tw7717670044629686970:=()
def tw12738864244801774330:=()
def tw9725021084223525626:=()
def tw15583698165555649274:=()
def tw2660071235253521178:=()
def tw12207761013786371866:=()
def tw15701818922362908474:=()
def tw7245382924358607706:=()
def tw14454571958578411450:=()
def tw13412572060209156058:=()
def tw14491005103267586010:=()
def tw17406136962360114138:=()
def tw6058378993454661626:=()
def tw16103849850496634939:=()
def tw8004206274103572539:=()
def tw4801982433088742459:=()
def tw8614777251421559899:=()
def tw5796354222422608987:=()
def tw1666694428299288667:=()
def tw10511823565363050587:=()
def tw6202768586075735195:=()
def tw81180840481494171:=()
def tw13272504610945704091:=()
def tw6341822008880759003:=()
def tw8081558906472808667:=()
def tw4100293265295638779:=()
def tw10684981021144957211:=()
def tw10553471711426338075:=()
def tw4570111826955561243:=()
def tw807531904560671035:=()
def tw16554438482525722971:=()
def tw4555391131476132251:=()
def tw9231107438714462619:=()
def tw2021336271155450331:=()
def tw8465276812761224699:=()
def tw8924392036579600891:=()
def tw13724452099449386491:=()
def tw3723988518540851739:=()
def tw11039862389202566683:=()
def tw17164383140453370395:=()
def tw15564276425815640635:=()
def tw5087414499874199163:=()
def tw15201286185872193147:=()
def tw9839346839192117915:=()
def tw16908780153626456763:=()
def tw1340732969908501211:=()
def tw7055459427971326715:=()
def tw18208264132641360667:=()
def tw9712136527352899355:=()
def tw3008263204520378139:=()
def tw12541770739351648027:=()
def tw9445451236469955387:=()
def tw14943911441677524827:=()
def tw10234915967203826555:=()
def tw13728267205206896507:=()
def tw9997704412844104603:=()
def tw1713156846745171867:=()
def tw8947099994592609211:=()
def tw5555312102172926907:=()
def tw5074984922658293691:=()
def tw7130589087949165531:=()
def tw6309580289441245147:=()
def tw7692301277026442203:=()
def tw10875463905939285979:=()
def tw13678138593670788059:=()
def tw111200028466390044:=()
def tw14254621764821748828:=()
def tw149832690125348956:=()
def tw7890596953891613788:=()
def tw10682770612549562524:=()
def tw2503846163805864124:=()
def tw3721105441807439036:=()
def tw12909842661862811868:=()
def tw2087981047521295580:=()
def tw13423622936843584764:=()
def tw5663504974038819100:=()
def tw6768527794753136924:=()
def tw3812028171767442716:=()
def tw2366236672687842684:=()
def tw3955986520655104412:=()
def tw15309079848183770524:=()
def tw3314143786362844604:=()
def tw7779959011674639804:=()
def tw7177338460636591580:=()
def tw7976502392129159676:=()
def tw9562769462328344092:=()
def tw7163643146796875292:=()
def tw6289197191216398940:=()
def tw16340655207594038876:=()
def tw12757126508119417436:=()
def tw17861066769153400444:=()
def tw2440955330291467932:=()
def tw11432402860279490204:=()
def tw8370555248988390076:=()
def tw14752907821818930876:=()
def tw4723787954990577340:=()
def tw16237762584071213788:=()
def tw9746901515087519452:=()
def tw10782327089294195420:=()
def tw6232080684201472732:=()
def tw16256441300576474876:=()
def tw5901363791540438844:=()
def tw9747544060827109212:=()
def tw3474304862208310108:=()
def tw12291753297600562012:=()
def tw6340033436541877084:=()
def tw251868834278440796:=()
def tw12355744275394475900:=()
def tw11936995450923721628:=()
def tw6650461044873433052:=()
def tw4777830175859659740:=()
def tw2487034316364812284:=()
def tw6953265346914686045:=()
def tw11615019562542576733:=()
def tw14793013804824869981:=()
def tw16822109747335207037:=()
def tw9048390944144121981:=()
def tw1469139661183043837:=()
def tw544173102793226557:=()
def tw11228628497211110749:=()
def tw6144012678527597917:=()
def tw4803414180949068221:=()
def tw3456623496861543869:=()
def tw3091651249775218141:=()
def tw520194297998822909:=()
def tw11061592194353771069:=()
def tw3680538572021651005:=()
def tw1012361349325877821:=()
def tw5115476493328737885:=()
def tw872479138520865405:=()
def tw4013537778516871869:=()
def tw8126443298418566877:=()
def tw12649782002744950493:=()
def tw17260493314774615805:=()
def tw6068950659093879613:=()
def tw16307707646766795581:=()
def tw8344675336782298973:=()
def tw11720030908404834205:=()
def tw4719063310657182621:=()
def tw11906472874536768445:=()
def tw7451905468542833597:=()
def tw15688172546075569117:=()
def tw3105451386036433885:=()
def tw7193555501269276637:=()
def tw1346022578215293949:=()
def tw12843830743766962206:=()
def tw1613116972386908190:=()
def tw2962455088084156510:=()
def tw13511959964413161566:=()
def tw9610726530385051774:=()
def tw15373703851562958014:=()
def tw1819255440876223710:=()
def tw14245171486683049214:=()
def tw7773504467932542270:=()
def tw17233457631738950974:=()
def tw8166985623705000286:=()
def tw9916796106900827486:=()
def tw14969715616416898430:=()
def tw13326868189938593150:=()
def tw12221555665107904926:=()
def tw5598441983335636414:=()
def tw18362098788967529950:=()
def tw783796507600188894:=()
def tw6385529401280152062:=()
def tw10580198807604790814:=()
def tw3293696948919318046:=()
def tw4326780796455107134:=()
def tw17217429795192226366:=()
def tw8429034201219468894:=()
def tw13294311002278339166:=()
def tw10494351445547321982:=()
def tw2051409578822353534:=()
def tw6447930133964393182:=()
def tw1687847423629159134:=()
def tw1987541392991941342:=()
def tw17570509445847580414:=()
def tw3857263333814641470:=()
def tw10860463890562471742:=()
def tw8239405809661272926:=()
def tw2930532333115074398:=()
def tw2620492485814837118:=()
def tw8049827351057952638:=()
def tw7299242150946776990:=()
def tw846297522682114974:=()
def tw7470013935711676318:=()
def tw2523429984870532094:=()
def tw8439367832339070974:=()
def tw17795422810854671358:=()
def tw1014637456484912126:=()
def tw5292745204252695550:=()
def tw16975150828866795518:=()
def tw11227884535216515135:=()
def tw8896523894292634687:=()
def tw12851234836949525663:=()
def tw8207016077016218815:=()
def tw13411564433711520991:=()
def tw17628183408451194143:=()
def tw11177036383054605599:=()
def tw10812700024781328671:=()
def tw15534823776402612543:=()
def tw4547926851270420831:=()
def tw7547296005191728479:=()
def tw6707113841082798463:=()
def tw4785068964239711615:=()
def tw17698229166291050911:=()
def tw4754365596532378047:=()
def tw2608567993692976607:=()
def tw14541005305830221311:=()
def tw9682595657389325823:=()
def tw17784850919643140607:=()
def tw5169673773032560159:=()
def tw16175276709679454751:=()
def tw15530151957754944063:=()
def tw3558005061807245919:=()
def tw2236755162388048479:=()
def tw2711489104339610207:=()
def tw4265850918314828415:=()
def tw10323461325745473215:=()
def tw1547390860169783007:=()
def tw12829507556594621215:=()
def tw2165888344414945055:=()
def tw6951216239237536575:=()
def tw3459265974087741279:=()
def tw14497727239971306367:=()
def tw9711862698833617823:=()
def tw2888837374417270719:=()
def tw15240623583426463711:=()
def tw16510490156224867327:=()
def tw8727644632167741943:=()
end Mine.fin
set_option Elab.async true
open Mine in
theorem Mine.fin:PySem.Challenge.rw_np0337_01.Holds:=by
 w_on;o_law;k_head;(case hw=>w_witness2)
 k_go0
 rename_i X' T' K' F' N' l0
 have hn:=(N' (151,tabObj #[]) (by simp)).2.2
 refine law_close (sts:=Z84.body) (nm:=(varN.getD 84 []).drop 1) (n:=78) (rest:=9) ⟨X',T'.g,T'.b,T'.nolimit,T'.builtins⟩ (tabOK_of (by kernel_rfl)) codeHd (builtinsAt_of T' hn) K' F' (by rfl) lifted (by assumption) hn (N' (151,tabObj #[]) (by simp)).1 l0 rfl (by decide +kernel) (by decide +kernel) (by kernel_rfl) (by decide) (law_true _ (by omega)) ?_
 intro h' tk' hk ⟨ps,hps⟩
 exact ⟨⟨.inl ⟨.bool true,.bool true,[],rfl,fun _=>rfl,.bool true,by kernel_rfl,fun _=>⟨List.nodup_nil,fun _ q=>nomatch q⟩⟩,hk,rfl,by assumption⟩,⟨ps,hps⟩,trivial⟩
end
theorem PySem.Challenge.cw_np0337_01_holds : PySem.Challenge.rw_np0337_01.Holds :=
 Mine.fin
