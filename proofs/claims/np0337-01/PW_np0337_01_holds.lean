import PyProof.Rows.All
import Wide.All
import OpenK.AllK
import Wide.FinOn
import PySem.Challenge.RW_np0337_01
set_option Elab.async false
set_option linter.all false
set_option genSizeOfSpec false
set_option maxRecDepth 100000
section
namespace Mine
inductive D where
 |none
 |bool (b:Bool)
 |int (i:Int)
 |str (s:List Nat)
 |tup (ds:List D)
 |lst (ds:List D)
 |loc (l:Nat)
 |opq
inductive AO where
 |list (ds:List D)
 |dict (kvs:List (List Nat×D))
 |inst (c:Nat) (fs:List (Nat×D))
 |tab
noncomputable abbrev Hp:=List AO
noncomputable abbrev Ve:=List (Option D)
noncomputable abbrev Rw (α:Type):=(α→Hp→Prop)→(Nat→Hp→Prop)→Prop
noncomputable abbrev M (α:Type):=Hp→Rw α
noncomputable def bT {β:Sort u}(b:Bool)(x y:β):β:=@Bool.casesOn (fun _=>β) b y x
noncomputable def sEq (x:List Nat):List Nat→Bool:=@List.rec _ (fun _=>List Nat→Bool) (fun y=>@List.casesOn _ (fun _=>Bool) y true fun _ _=>false) (fun a _ r y=>@List.casesOn _ (fun _=>Bool) y false fun b t=>(a==b)&&r t) x
noncomputable def ascN (x:List Nat):Bool:=@List.rec _ (fun _=>Bool) true (fun c _ r=>(c - 1114111==0)&&r) x
noncomputable def D.plain (d:D):Bool:=@D.rec (fun _=>Bool) (fun _=>Bool) true (fun _=>true) (fun _=>true) (fun _=>true) (fun _ r=>r) (fun _ r=>r) (fun _=>false) false true (fun _ _ a b=>a&&b) d
noncomputable def D.plainAll (ds:List D):Bool:=@D.rec_1 (fun _=>Bool) (fun _=>Bool) true (fun _=>true) (fun _=>true) (fun _=>true) (fun _ r=>r) (fun _ r=>r) (fun _=>false) false true (fun _ _ a b=>a&&b) ds
noncomputable def shT (r:Nat→Bool)(n:Nat):Bool:=@Nat.rec (fun _=>Bool) false (fun m _=>r m) n
noncomputable def D.shal (n:Nat)(d:D):Bool:=@D.rec (fun _=>Nat→Bool) (fun _=>Nat→Bool) (fun _=>true) (fun _ _=>true) (fun _ _=>true) (fun _ _=>true) (fun _=>shT) (fun _=>shT) (fun _ _=>true) (fun _=>true) (fun _=>true) (fun _ _ a b n=>a n&&b n) d n
noncomputable def D.shalAll (n:Nat)(ds:List D):Bool:=@D.rec_1 (fun _=>Nat→Bool) (fun _=>Nat→Bool) (fun _=>true) (fun _ _=>true) (fun _ _=>true) (fun _ _=>true) (fun _=>shT) (fun _=>shT) (fun _ _=>true) (fun _=>true) (fun _=>true) (fun _ _ a b n=>a n&&b n) ds n
noncomputable def eqNo (d:D):Bool:=@D.casesOn (fun _=>Bool) d true (fun _=>false) (fun _=>false) (fun _=>false) (fun _=>false) (fun _=>false) (fun _=>false) false
noncomputable def eqBo (a:Bool)(d:D):Bool:=@D.casesOn (fun _=>Bool) d false (fun b=>a==b) (fun j=>(if a then 1 else 0)==j) (fun _=>false) (fun _=>false) (fun _=>false) (fun _=>false) false
noncomputable def eqIn (i:Int)(d:D):Bool:=@D.casesOn (fun _=>Bool) d false (fun b=>i==(if b then 1 else 0)) (fun j=>i==j) (fun _=>false) (fun _=>false) (fun _=>false) (fun _=>false) false
noncomputable def eqSt (x:List Nat)(d:D):Bool:=@D.casesOn (fun _=>Bool) d false (fun _=>false) (fun _=>false) (sEq x) (fun _=>false) (fun _=>false) (fun _=>false) false
noncomputable def eqTu (_:List D)(r:List D→Bool)(d:D):Bool:=@D.casesOn (fun _=>Bool) d false (fun _=>false) (fun _=>false) (fun _=>false) r (fun _=>false) (fun _=>false) false
noncomputable def eqLs (_:List D)(r:List D→Bool)(d:D):Bool:=@D.casesOn (fun _=>Bool) d false (fun _=>false) (fun _=>false) (fun _=>false) (fun _=>false) r (fun _=>false) false
noncomputable def eqN (l:List D):Bool:=@List.casesOn D (fun _=>Bool) l true (fun _ _=>false)
noncomputable def eqC (_:D)(_:List D)(a:D→Bool)(b:List D→Bool)(l:List D):Bool:=@List.casesOn D (fun _=>Bool) l false (fun y ys=>a y&&b ys)
noncomputable def D.eqb (d e:D):Bool:=@D.rec (fun _=>D→Bool) (fun _=>List D→Bool) eqNo eqBo eqIn eqSt eqTu eqLs (fun _ _=>false) (fun _=>false) eqN eqC d e
noncomputable def D.eqbAll (d e:List D):Bool:=@D.rec_1 (fun _=>D→Bool) (fun _=>List D→Bool) eqNo eqBo eqIn eqSt eqTu eqLs (fun _ _=>false) (fun _=>false) eqN eqC d e
inductive Bi where
 |len|str|isBool|max|int|tuple|list|sorted|dict|dictzip|listzip
inductive Bm where
 |append|pop|pop0|extend|get1|get2|dpop2|update|join
inductive Cm where
 |eq|ne|lt|le|gt|ge|isN|isnN|isin|nin
inductive Bo where
 |add|sub|mul|fdiv|mod|pow|addm
inductive Tg where
 |n (i:Nat)
 |p (is:List Nat)
 |q (i:Nat) (is:List Nat)
inductive Hn where
 |cont
 |ret (d:D)
 |stuck
mutual
inductive Ex where
 |lit (d:D)
 |neg (k:Nat)
 |var (i:Nat)
 |tup (es:Exs)
 |vlist (es:Exs)
 |mlist (es:Exs)
 |mdict (ks:List (List Nat)) (es:Exs)
 |item (e i:Ex)
 |lpick (es:Exs) (i:Ex)
 |rev (e:Ex)
 |attr (e:Ex) (a:Nat)
 |call (f:Nat) (es:Exs)
 |fresh (f:Nat) (es:Exs)
 |meth (a:Nat) (e:Ex) (es:Exs)
 |new (c:Nat) (es:Exs)
 |bi (b:Bi) (es:Exs)
 |bm (b:Bm) (e:Ex) (es:Exs)
 |andor (isAnd:Bool) (es:Exs)
 |not (e:Ex)
 |cmp (op:Cm) (a b:Ex)
 |bin (op:Bo) (a b:Ex)
 |ite (c a b:Ex)
 |comp (elt:Ex) (t:Tg) (it:Ex)
 |compc (elt:Ex) (t:Tg) (it c:Ex)
 |compz (elt:Ex) (i j:Nat) (a b:Ex)
 |stuck
inductive Exs where
 |nil
 |cons (e:Ex) (es:Exs)
end
mutual
inductive St where
 |asn (t:Tg) (e:Ex)
 |sattr (o:Ex) (a:Nat) (e:Ex)
 |sitem (o i e:Ex)
 |ex (e:Ex)
 |iff (c:Ex) (a b:Sts)
 |whl (c:Ex) (b:Sts)
 |for (t:Tg) (e:Ex) (b:Sts)
 |ret (e:Ex)
 |raise (c:Nat) (es:Exs)
 |try (b:Sts) (c:Nat) (h:Hn)
 |cont
 |deff (i:Nat)
 |stuck
inductive Sts where
 |nil
 |cons (s:St) (ss:Sts)
end
inductive Fl where
 |nx
 |ct
 |rt (d:D)
noncomputable def find (l:List (List Nat×D))(x:List Nat):Option D:=@List.rec _ (fun _=>Option D) none (fun p _ r=>bT (sEq p.1 x) (some p.2) r) l
noncomputable def putK (l:List (List Nat×D))(x:List Nat)(d:D):List (List Nat×D):=@List.rec _ (fun _=>List (List Nat×D)) [(x,d)] (fun p t r=>bT (sEq p.1 x) ((p.1,d)::t) (p::r)) l
noncomputable def Acn (l:List (List Nat×D))(x:List Nat):List (List Nat×D):=@List.rec _ (fun _=>List (List Nat×D)) [] (fun p t r=>bT (sEq p.1 x) t (p::r)) l
noncomputable def Y3 (a b:List (List Nat×D)):List (List Nat×D):=@List.rec _ (fun _=>List (List Nat×D)→List (List Nat×D)) (fun a=>a) (fun p _ r a=>r (putK a p.1 p.2)) b a
noncomputable def fget (l:List (Nat×D))(x:Nat):Option D:=@List.rec _ (fun _=>Option D) none (fun p _ r=>bT (p.1==x) (some p.2) r) l
noncomputable def fput (l:List (Nat×D))(x:Nat)(d:D):List (Nat×D):=@List.rec _ (fun _=>List (Nat×D)) [(x,d)] (fun p t r=>bT (p.1==x) ((p.1,d)::t) (p::r)) l
noncomputable def nget (l:List (Nat×Nat))(x:Nat):Option Nat:=@List.rec _ (fun _=>Option Nat) none (fun p _ r=>bT (p.1==x) (some p.2) r) l
noncomputable def ltS (x:List Nat):List Nat→Bool:=@List.rec _ (fun _=>List Nat→Bool) (fun y=>@List.casesOn Nat (fun _=>Bool) y false fun _ _=>true) (fun a _ r y=>@List.casesOn Nat (fun _=>Bool) y false fun b t=>if a < b then true else if a=b then r t else false) x
noncomputable def insS (x:List Nat)(l:List (List Nat)):List (List Nat):=@List.rec _ (fun _=>List (List Nat)) [x] (fun y t r=>if ltS y x then y::r else x::y::t) l
noncomputable def AcU (l:List (List Nat)):List (List Nat):=@List.rec _ (fun _=>List (List Nat)) [] (fun x _ r=>insS x r) l
noncomputable def AcM (sep:List Nat)(l:List (List Nat)):List Nat:=@List.rec _ (fun _=>List Nat) [] (fun x t r=>@List.casesOn _ (fun _=>List Nat) t x fun _ _=>x++sep++r) l
noncomputable def AbZ (l:List D):Option (List (List Nat)):=@List.rec _ (fun _=>Option (List (List Nat))) (some []) (fun d _ r=>@D.casesOn (fun _=>Option (List (List Nat))) d none (fun _=>none) (fun _=>none) (fun x=>r.map (x::·)) (fun _=>none) (fun _=>none) (fun _=>none) none) l
noncomputable def kvOf {β:Sort u}(no:β)(d:D)(f:List Nat→D→β):β:=@D.casesOn (fun _=>β) d no (fun _=>no) (fun _=>no) (fun _=>no) (fun l=>@List.casesOn _ (fun _=>β) l no fun k l=>@List.casesOn _ (fun _=>β) l no fun v l=>@List.casesOn _ (fun _=>β) l (@D.casesOn (fun _=>β) k no (fun _=>no) (fun _=>no) (fun k=>f k v) (fun _=>no) (fun _=>no) (fun _=>no) no) fun _ _=>no) (fun _=>no) (fun _=>no) no
noncomputable def W5 (l:List D):Option (List (List Nat×D)):=@List.rec _ (fun _=>Option (List (List Nat×D))) (some []) (fun d _ r=>kvOf none d fun k v=>r.map ((k,v)::·)) l
noncomputable def zipD (l:List D):List D→List D:=@List.rec _ (fun _=>List D→List D) (fun _=>[]) (fun a _ r y=>@List.casesOn _ (fun _=>List D) y [] fun b t=>.tup [a,b]::r t) l
noncomputable def strI (i:Int):List Nat:=(PySem.Str.ofString (toString i)).cps.toList
noncomputable def most:Nat:=100000
noncomputable def idx (ds:List D)(i:Int):Option D:=if ds.length≤most then (if 0≤i then ds[i.toNat]? else if -i≤ds.length then ds[(ds.length+i).toNat]? else none) else none
noncomputable def Y7 (is:List Nat):List D→Ve→Option Ve:=@List.rec _ (fun _=>List D→Ve→Option Ve) (fun ds ρ=>@List.casesOn _ (fun _=>Option Ve) ds (some ρ) fun _ _=>none) (fun i _ r ds ρ=>@List.casesOn _ (fun _=>Option Ve) ds none fun d ds=>r ds (ρ.set i (some d))) is
noncomputable def tupO {β:Sort u}(no:β)(d:D)(f:List D→β):β:=@D.casesOn (fun _=>β) d no (fun _=>no) (fun _=>no) (fun _=>no) f (fun _=>no) (fun _=>no) no
noncomputable def l2 {α:Type}{β:Sort u}(no:β)(l:List α)(f:α→α→β):β:=@List.casesOn _ (fun _=>β) l no fun a l=>@List.casesOn _ (fun _=>β) l no fun b l=>@List.casesOn _ (fun _=>β) l (f a b) fun _ _=>no
noncomputable def l1 {α:Type}{β:Sort u}(no:β)(l:List α)(f:α→β):β:=@List.casesOn _ (fun _=>β) l no fun a l=>@List.casesOn _ (fun _=>β) l (f a) fun _ _=>no
noncomputable def Tg.set (t:Tg)(d:D)(ρ:Ve):Option Ve:=@Tg.casesOn (fun _=>Option Ve) t (fun i=>some (ρ.set i (some d))) (fun is=>tupO none d fun ds=>Y7 is ds ρ) (fun i is=>tupO none d fun ds=>l2 none ds fun x y=>tupO none y fun ds=>Y7 is ds (ρ.set i (some x)))
noncomputable def Adz (d:D)(l:List D):Bool:=@List.rec _ (fun _=>Bool) false (fun e _ r=>D.eqb e d||r) l
noncomputable def okEq (x y:D):Bool:=(D.shal 60 y||D.shal 60 x)&&(D.plain x&&D.plain y)
noncomputable def okIn (a:D)(ds:List D):Bool:=(D.shal 60 a||D.shalAll 60 ds)&&(D.plain a&&D.plainAll ds)
noncomputable def V4 (l:List D):Option (List D×D):=@List.rec _ (fun _=>Option (List D×D)) none (fun x t r=>@List.casesOn _ (fun _=>Option (List D×D)) t (some ([],x)) fun _ _=>r.map fun p=>(x::p.1,p.2)) l
inductive Kd where
 |list|dict|str
noncomputable def bmK (b:Bm):Kd:=@Bm.casesOn (fun _=>Kd) b .list .list .list .list .dict .dict .dict .dict .str
structure ClsI where
 addr:Nat
 init:Nat
 meths:List (Nat×Nat)
 isExc:Bool:=false
structure FnI where
 addr:Nat
 np:Nat
 dfl:List D
 nv:Nat
 body:Sts
structure Tab where
 cls:List ClsI
 fns:List FnI
noncomputable def Af2:Nat:=100
noncomputable def under (c k:Nat):Bool:=c==k||k==0
noncomputable def AgF (fi:FnI)(as:List D):Option Ve :=
 if as.length≤fi.np∧fi.np≤as.length+fi.dfl.length∧fi.np≤fi.nv then
  some (((as++fi.dfl.drop (as.length+fi.dfl.length - fi.np)).map some)++List.replicate (fi.nv - fi.np) none) else none
end Mine
end
section
namespace Mine
noncomputable def Agq:FnI:={ addr:=99,np:=1,dfl:=[],nv:=2,body :=
  (.cons (.asn (.n 1) (.item (.var 0) (.lit (.int 0))))
  (.cons (.iff (.cmp .eq (.var 1) (.lit (.str [114,101,102]))) (.cons (.ret (.tup (.cons (.item (.var 0) (.lit (.int 3))) .nil)))
  .nil) .nil)
  (.cons (.iff (.andor false (.cons (.cmp .eq (.var 1) (.lit (.str [98,111,120]))) (.cons (.cmp .eq (.var 1) (.lit (.str [97,114,114,97,121]))) .nil))) (.cons .stuck
  .nil) .nil)
  (.cons (.iff (.cmp .eq (.var 1) (.lit (.str [116,117,112,108,101]))) (.cons (.ret (.item (.var 0) (.lit (.int 1))))
  .nil) .nil)
  (.cons (.ret (.ite (.cmp .eq (.var 1) (.lit (.str [97,100,116]))) (.item (.var 0) (.lit (.int 3))) (.tup .nil)))
  .nil))))) }
noncomputable def AgZ:FnI:={ addr:=106,np:=2,dfl:=[],nv:=3,body :=
  (.cons (.asn (.n 2) (.item (.var 0) (.lit (.int 0))))
  (.cons (.iff (.cmp .eq (.var 2) (.lit (.str [114,101,102]))) (.cons (.ret (.tup (.cons (.lit (.str [114,101,102])) (.cons (.item (.var 0) (.lit (.int 1))) (.cons (.item (.var 0) (.lit (.int 2))) (.cons (.item (.var 1) (.lit (.int 0))) .nil))))))
  .nil) .nil)
  (.cons (.iff (.cmp .eq (.var 2) (.lit (.str [98,111,120]))) (.cons .stuck
  .nil) .nil)
  (.cons (.iff (.cmp .eq (.var 2) (.lit (.str [97,114,114,97,121]))) (.cons .stuck
  .nil) .nil)
  (.cons (.iff (.cmp .eq (.var 2) (.lit (.str [116,117,112,108,101]))) (.cons (.ret (.tup (.cons (.lit (.str [116,117,112,108,101])) (.cons (.bi .tuple (.cons (.var 1) .nil)) .nil))))
  .nil) .nil)
  (.cons (.ret (.ite (.cmp .eq (.var 2) (.lit (.str [97,100,116]))) (.tup (.cons (.lit (.str [97,100,116])) (.cons (.item (.var 0) (.lit (.int 1))) (.cons (.item (.var 0) (.lit (.int 2))) (.cons (.bi .tuple (.cons (.var 1) .nil)) .nil))))) (.var 0)))
  .nil)))))) }
noncomputable def AdL:FnI:={ addr:=111,np:=2,dfl:=[],nv:=3,body :=
  (.cons (.iff (.cmp .eq (.item (.var 0) (.lit (.int 0))) (.lit (.str [112,97,114,97,109]))) (.cons (.ret (.bm .get2 (.var 1) (.cons (.item (.var 0) (.lit (.int 1))) (.cons (.var 0) .nil))))
  .nil) .nil)
  (.cons (.ret (.call 1 (.cons (.var 0) (.cons (.comp (.call 2 (.cons (.var 2) (.cons (.var 1) .nil))) (.n 2) (.call 0 (.cons (.var 0) .nil))) .nil))))
  .nil)) }
noncomputable def AcL:FnI:={ addr:=116,np:=2,dfl:=[],nv:=3,body :=
  (.cons (.iff (.cmp .eq (.item (.var 0) (.lit (.int 0))) (.lit (.str [114,101,102]))) (.cons .stuck
  .nil) (.cons (.iff (.cmp .eq (.item (.var 0) (.lit (.int 0))) (.lit (.str [97,100,116]))) (.cons .stuck
  .nil) .nil)
  .nil))
  (.cons (.ret (.call 1 (.cons (.var 0) (.cons (.comp (.call 3 (.cons (.var 2) (.cons (.var 1) .nil))) (.n 2) (.call 0 (.cons (.var 0) .nil))) .nil))))
  .nil)) }
noncomputable def AjE:FnI:={ addr:=130,np:=1,dfl:=[],nv:=1,body :=
  (.cons (.ret (.call 3 (.cons (.var 0) (.cons (.lit .opq) .nil))))
  .nil) }
noncomputable def Aef:FnI:={ addr:=149,np:=3,dfl:=[],nv:=3,body :=
  (.cons (.ret (.item (.item (.attr (.item (.attr (.var 2) 0) (.item (.var 0) (.lit (.int 1)))) 1) (.var 1)) (.lit (.int 2))))
  .nil) }
noncomputable def Ae1:FnI:={ addr:=154,np:=3,dfl:=[],nv:=9,body :=
  (.cons (.iff (.cmp .eq (.item (.var 0) (.lit (.int 0))) (.lit (.str [116,117,112,108,101]))) (.cons .stuck
  .nil) .nil)
  (.cons (.iff (.cmp .ne (.item (.var 0) (.lit (.int 0))) (.lit (.str [97,100,116]))) (.cons .stuck
  .nil) .nil)
  (.cons (.asn (.n 3) (.item (.attr (.var 2) 0) (.item (.var 0) (.lit (.int 1)))))
  (.cons (.asn (.n 4) (.bi .dictzip (.cons (.attr (.var 3) 2) (.cons (.item (.var 0) (.lit (.int 3))) .nil))))
  (.cons (.asn (.n 5) (.bi .dictzip (.cons (.attr (.var 3) 3) (.cons (.item (.var 0) (.lit (.int 2))) .nil))))
  (.cons (.deff 6)
  (.cons (.ret (.comp (.tup (.cons (.var 7) (.cons (.call 2 (.cons (.call 3 (.cons (.var 8) (.cons (.var 6) .nil))) (.cons (.var 4) .nil))) .nil))) (.p [7,8]) (.call 5 (.cons (.var 0) (.cons (.var 1) (.cons (.var 2) .nil))))))
  .nil))))))) }
noncomputable def Aa0:FnI:={ addr:=168,np:=2,dfl:=[],nv:=2,body :=
  (.cons (.sattr (.var 0) 4 (.var 1))
  (.cons (.sattr (.var 0) 5 (.mdict [] .nil))
  (.cons (.sattr (.var 0) 6 (.mdict [] .nil))
  .nil))) }
noncomputable def AaV:FnI:={ addr:=175,np:=3,dfl:=[],nv:=3,body :=
  (.cons (.raise 4 (.cons (.var 1) (.cons (.var 2) .nil)))
  .nil) }
noncomputable def Aa4:FnI:={ addr:=182,np:=4,dfl:=[],nv:=7,body :=
  (.cons (.asn (.p [4,5]) (.tup (.cons (.item (.var 1) (.lit (.int 0))) (.cons (.item (.var 1) (.lit (.int 1))) .nil))))
  (.cons (.iff (.cmp .eq (.var 4) (.lit (.str [119,105,108,100]))) (.cons (.ret (.tup (.cons (.lit (.str [119,105,108,100])) (.cons (.var 2) .nil))))
  .nil) .nil)
  (.cons (.iff (.cmp .eq (.var 4) (.lit (.str [110,97,109,101]))) (.cons (.ret (.meth 7 (.var 0) (.cons (.var 1) (.cons (.var 2) (.cons (.var 3) .nil)))))
  .nil) .nil)
  (.cons (.iff (.cmp .eq (.var 4) (.lit (.str [111,114]))) (.cons (.ret (.meth 8 (.var 0) (.cons (.var 1) (.cons (.var 2) (.cons (.var 3) .nil)))))
  .nil) .nil)
  (.cons (.iff (.cmp .eq (.var 4) (.lit (.str [114,101,102]))) (.cons (.ret (.meth 9 (.var 0) (.cons (.var 1) (.cons (.var 2) .nil))))
  .nil) .nil)
  (.cons (.asn (.n 6) (.meth 10 (.attr (.var 0) 4) (.cons (.var 2) .nil)))
  (.cons (.iff (.cmp .eq (.item (.var 6) (.lit (.int 0))) (.lit (.str [114,101,102]))) (.cons (.ret (.tup (.cons (.lit (.str [100,101,114,101,102])) (.cons (.var 6) (.cons (.meth 11 (.var 0) (.cons (.var 1) (.cons (.item (.var 6) (.lit (.int 3))) (.cons (.call 24 (.cons (.var 3) (.cons (.item (.var 6) (.lit (.int 2))) .nil))) .nil)))) .nil)))))
  .nil) .nil)
  (.cons (.iff (.cmp .eq (.var 4) (.lit (.str [108,105,116]))) (.cons (.ret (.tup (.cons (.lit (.str [99,111,110,115,116])) (.cons (.meth 12 (.var 0) (.cons (.item (.var 1) (.lit (.int 2))) (.cons (.var 6) (.cons (.var 5) .nil)))) (.cons (.item (.var 1) (.lit (.int 2))) .nil)))))
  .nil) .nil)
  (.cons (.iff (.cmp .eq (.var 4) (.lit (.str [114,97,110,103,101]))) (.cons (.ret (.meth 13 (.var 0) (.cons (.var 1) (.cons (.var 6) .nil))))
  .nil) .nil)
  (.cons (.iff (.cmp .eq (.var 4) (.lit (.str [116,117,112,108,101]))) (.cons (.ret (.meth 14 (.var 0) (.cons (.var 1) (.cons (.var 6) (.cons (.var 3) .nil)))))
  .nil) .nil)
  (.cons (.ret (.meth 15 (.var 0) (.cons (.var 1) (.cons (.var 6) (.cons (.var 3) .nil)))))
  .nil))))))))))) }
noncomputable def Aar:FnI:={ addr:=189,np:=4,dfl:=[],nv:=15,body :=
  (.cons (.asn (.p [4,5,6,7,8,9]) (.var 1))
  (.cons (.iff (.andor true (.cons (.not (.var 7)) (.cons (.not (.var 8)) (.cons (.cmp .isN (.var 9) (.lit .none)) .nil)))) (.cons (.asn (.n 10) (.meth 16 (.var 0) (.cons (.var 6) (.cons (.var 5) (.cons (.var 2) (.cons (.var 3) .nil))))))
  (.cons (.iff (.cmp .isnN (.var 10) (.lit .none)) (.cons (.ret (.var 10))
  .nil) .nil)
  .nil)) .nil)
  (.cons (.asn (.n 11) (.meth 17 (.var 0) (.cons (.var 7) (.cons (.var 8) (.cons (.var 3) (.cons (.var 5) .nil))))))
  (.cons (.asn (.n 12) (.ite (.cmp .eq (.var 11) (.lit (.str [109,111,118,101]))) (.var 2) (.tup (.cons (.lit (.str [114,101,102])) (.cons (.lit .none) (.cons (.cmp .eq (.var 11) (.lit (.str [109,117,116]))) (.cons (.var 2) .nil)))))))
  (.cons (.asn (.n 13) (.meth 18 (.var 0) (.cons (.var 6) (.cons (.var 12) (.cons (.andor true (.cons (.var 8) (.cons (.not (.var 7)) .nil))) (.cons (.var 11) (.cons (.var 5) .nil)))))))
  (.cons (.asn (.n 14) (.ite (.cmp .isN (.var 9) (.lit .none)) (.lit .none) (.meth 11 (.var 0) (.cons (.var 9) (.cons (.var 2) (.cons (.var 3) .nil))))))
  (.cons (.ret (.tup (.cons (.lit (.str [98,105,110,100])) (.cons (.var 2) (.cons (.var 13) (.cons (.var 11) (.cons (.var 14) .nil)))))))
  .nil))))))) }
noncomputable def AaK:FnI:={ addr:=196,np:=5,dfl:=[],nv:=5,body :=
  (.cons (.iff (.var 1) (.cons (.iff (.cmp .ne (.var 3) (.lit (.str [109,111,118,101]))) (.cons (.ex (.meth 19 (.var 0) (.cons (.lit (.str [114,101,102,32,119,105,116,104,105,110,32,97,32,112,97,116,116,101,114,110,32,116,104,97,116,32,103,111,101,115,32,116,104,114,111,117,103,104,32,97,32,114,101,102,101,114,101,110,99,101])) (.cons (.var 4) .nil))))
  .nil) .nil)
  (.cons (.ret (.ite (.var 2) (.lit (.str [109,117,116])) (.lit (.str [114,101,102]))))
  .nil)) .nil)
  (.cons (.ret (.ite (.var 2) (.lit (.str [109,111,118,101])) (.var 3)))
  .nil)) }
noncomputable def Aas:FnI:={ addr:=203,np:=5,dfl:=[],nv:=6,body :=
  (.cons (.asn (.n 5) (.meth 20 (.attr (.var 0) 4) (.cons (.tup (.cons (.tup (.cons (.var 1) (.cons (.tup .nil) (.cons (.tup .nil) .nil)))) .nil)) (.cons (.var 2) .nil))))
  (.cons (.iff (.cmp .isN (.var 5) (.lit .none)) (.cons (.ret (.lit .none))
  .nil) .nil)
  (.cons (.iff (.cmp .eq (.item (.var 5) (.lit (.int 0))) (.lit (.str [99,111,110,115,116]))) (.cons (.ex (.meth 21 (.attr (.var 0) 4) (.cons (.call 25 (.cons (.attr (.var 0) 4) (.cons (.var 3) .nil))) (.cons (.item (.var 5) (.lit (.int 1))) (.cons (.var 2) .nil)))))
  (.cons (.iff (.cmp .isN (.item (.var 5) (.lit (.int 3))) (.lit .none)) (.cons .stuck
  .nil) .nil)
  (.cons (.ret (.meth 11 (.var 0) (.cons (.tup (.cons (.lit (.str [108,105,116])) (.cons (.var 2) (.cons (.item (.var 5) (.lit (.int 3))) .nil)))) (.cons (.var 3) (.cons (.var 4) .nil)))))
  .nil))) .nil)
  (.cons (.ret (.meth 11 (.var 0) (.cons (.tup (.cons (.lit (.str [118,97,114,105,97,110,116])) (.cons (.var 2) (.cons (.tup (.cons (.tup (.cons (.var 1) (.cons (.tup .nil) (.cons (.tup .nil) .nil)))) .nil)) (.cons (.tup .nil) .nil))))) (.cons (.var 3) (.cons (.var 4) .nil)))))
  .nil)))) }
noncomputable def X5:FnI:={ addr:=210,np:=6,dfl:=[],nv:=10,body :=
  (.cons (.iff (.cmp .isin (.var 1) (.attr (.var 0) 6)) (.cons (.ex (.meth 19 (.var 0) (.cons (.bin .add (.var 1) (.lit (.str [32,105,115,32,98,111,117,110,100,32,116,119,105,99,101,32,105,110,32,97,32,112,97,116,116,101,114,110]))) (.cons (.var 5) .nil))))
  .nil) .nil)
  (.cons (.iff (.cmp .isin (.var 1) (.attr (.var 0) 5)) (.cons (.asn (.p [6,7,8,9]) (.item (.attr (.var 0) 5) (.var 1)))
  (.cons (.iff (.andor false (.cons (.cmp .ne (.var 8) (.var 4)) (.cons (.cmp .ne (.var 9) (.var 3)) .nil))) (.cons .stuck
  .nil) .nil)
  (.cons (.ex (.meth 21 (.attr (.var 0) 4) (.cons (.var 7) (.cons (.var 2) (.cons (.var 5) .nil)))))
  .nil))) (.cons (.asn (.n 6) (.meth 22 (.attr (.var 0) 4) (.cons (.var 1) (.cons (.var 2) (.cons (.var 3) (.cons (.var 5) .nil))))))
  .nil))
  (.cons (.sitem (.attr (.var 0) 6) (.var 1) (.tup (.cons (.var 6) (.cons (.var 2) (.cons (.var 4) (.cons (.var 3) .nil))))))
  (.cons (.ret (.var 6))
  .nil)))) }
noncomputable def Y4:FnI:={ addr:=217,np:=4,dfl:=[],nv:=9,body :=
  (.cons (.asn (.p [4,5,6,7]) (.tup (.cons (.attr (.var 0) 5) (.cons (.attr (.var 0) 6) (.cons (.mlist .nil) (.cons (.lit .none) .nil))))))
  (.cons (.for (.n 8) (.item (.var 1) (.lit (.int 2))) (.cons (.sattr (.var 0) 6 (.bi .dict (.cons (.var 5) .nil)))
  (.cons (.sattr (.var 0) 5 (.ite (.cmp .isN (.var 7) (.lit .none)) (.bi .dict (.cons (.var 4) .nil)) (.call 23 (.cons (.var 4) (.cons (.var 7) .nil)))))
  (.cons (.ex (.bm .append (.var 6) (.cons (.meth 11 (.var 0) (.cons (.var 8) (.cons (.var 2) (.cons (.var 3) .nil)))) .nil)))
  (.cons (.iff (.cmp .isN (.var 7) (.lit .none)) (.cons (.asn (.n 7) (.attr (.var 0) 6))
  .nil) (.cons (.iff (.cmp .ne (.bi .sorted (.cons (.var 7) .nil)) (.bi .sorted (.cons (.attr (.var 0) 6) .nil))) (.cons (.ex (.meth 19 (.var 0) (.cons (.lit (.str [116,104,101,32,112,97,114,116,115,32,111,102,32,97,32,112,97,116,116,101,114,110,32,98,105,110,100,32,117,110,108,105,107,101,32,110,97,109,101,115])) (.cons (.item (.var 1) (.lit (.int 1))) .nil))))
  .nil) .nil)
  .nil))
  .nil)))))
  (.cons (.sattr (.var 0) 5 (.var 4))
  (.cons (.ret (.tup (.cons (.lit (.str [111,114])) (.cons (.var 2) (.cons (.bi .tuple (.cons (.var 6) .nil)) .nil)))))
  .nil)))) }
noncomputable def Aaz:FnI:={ addr:=224,np:=3,dfl:=[],nv:=8,body :=
  (.cons (.asn (.p [3,4,5,6]) (.var 1))
  (.cons (.asn (.n 7) (.meth 10 (.attr (.var 0) 4) (.cons (.var 2) .nil)))
  (.cons (.iff (.cmp .ne (.item (.var 7) (.lit (.int 0))) (.lit (.str [114,101,102]))) (.cons .stuck
  (.cons .stuck
  .nil)) (.cons (.iff (.cmp .ne (.item (.var 7) (.lit (.int 2))) (.var 5)) (.cons (.ex (.meth 19 (.var 0) (.cons (.lit (.str [97,32,114,101,102,101,114,101,110,99,101,32,111,102,32,116,104,101,32,111,116,104,101,114,32,107,105,110,100])) (.cons (.var 4) .nil))))
  .nil) .nil)
  .nil))
  (.cons (.ret (.tup (.cons (.lit (.str [100,101,114,101,102])) (.cons (.var 7) (.cons (.meth 11 (.var 0) (.cons (.var 6) (.cons (.item (.var 7) (.lit (.int 3))) (.cons (.lit (.str [109,111,118,101])) .nil)))) .nil)))))
  .nil)))) }
noncomputable def U5:FnI:={ addr:=231,np:=4,dfl:=[],nv:=4,body :=
  (.cons (.iff (.bi .isBool (.cons (.var 1) .nil)) (.cons (.ex (.meth 21 (.attr (.var 0) 4) (.cons (.var 2) (.cons (.tup (.cons (.lit (.str [98,111,111,108])) .nil)) (.cons (.var 3) .nil)))))
  .nil) (.cons (.iff (.cmp .ne (.item (.var 2) (.lit (.int 0))) (.lit (.str [105,110,116]))) (.cons .stuck
  .nil) .nil)
  .nil))
  (.cons (.ret (.meth 10 (.attr (.var 0) 4) (.cons (.var 2) .nil)))
  .nil)) }
noncomputable def Aac:FnI:={ addr:=238,np:=3,dfl:=[],nv:=8,body :=
  (.cons (.asn (.p [3,4,5,6]) (.var 1))
  (.cons (.asn (.n 7) (.meth 12 (.var 0) (.cons (.var 5) (.cons (.var 2) (.cons (.var 4) .nil)))))
  (.cons (.iff (.andor false (.cons (.bi .isBool (.cons (.var 5) .nil)) (.cons (.bi .isBool (.cons (.var 6) .nil)) .nil))) (.cons .stuck
  .nil) .nil)
  (.cons (.iff (.cmp .gt (.var 5) (.var 6)) (.cons (.ex (.meth 19 (.var 0) (.cons (.lit (.str [97,32,114,97,110,103,101,32,119,105,116,104,32,110,111,116,104,105,110,103,32,105,110,32,105,116])) (.cons (.var 4) .nil))))
  .nil) .nil)
  (.cons (.ret (.tup (.cons (.lit (.str [114,97,110,103,101])) (.cons (.var 7) (.cons (.var 5) (.cons (.var 6) .nil))))))
  .nil))))) }
noncomputable def Aad:FnI:={ addr:=243,np:=4,dfl:=[],nv:=6,body :=
  (.cons (.asn (.n 4) (.item (.var 1) (.lit (.int 2))))
  (.cons (.iff (.cmp .ne (.item (.var 2) (.lit (.int 0))) (.lit (.str [116,117,112,108,101]))) (.cons .stuck
  (.cons .stuck
  (.cons .stuck
  .nil))) .nil)
  (.cons (.iff (.cmp .ne (.bi .len (.cons (.item (.var 2) (.lit (.int 1))) .nil)) (.bi .len (.cons (.var 4) .nil))) (.cons (.ex (.meth 19 (.var 0) (.cons (.bin .add (.bin .add (.bin .add (.lit (.str [97,32,116,117,112,108,101,32,111,102,32])) (.bi .str (.cons (.bi .len (.cons (.item (.var 2) (.lit (.int 1))) .nil)) .nil))) (.lit (.str [32,112,97,114,116,115,44,32,110,111,116,32,111,102,32]))) (.bi .str (.cons (.bi .len (.cons (.var 4) .nil)) .nil))) (.cons (.item (.var 1) (.lit (.int 1))) .nil))))
  .nil) .nil)
  (.cons (.ret (.tup (.cons (.lit (.str [102,105,101,108,100,115])) (.cons (.var 2) (.cons (.meth 23 (.var 0) (.cons (.var 4) (.cons (.item (.var 2) (.lit (.int 1))) (.cons (.var 3) .nil)))) .nil)))))
  .nil)))) }
noncomputable def Aae:FnI:={ addr:=248,np:=4,dfl:=[],nv:=6,body :=
  (.cons (.ret (.bi .tuple (.cons (.compz (.meth 11 (.var 0) (.cons (.var 4) (.cons (.var 5) (.cons (.var 3) .nil)))) 4 5 (.var 1) (.var 2)) .nil)))
  .nil) }
noncomputable def U7:FnI:={ addr:=253,np:=4,dfl:=[],nv:=17,body :=
  (.cons (.asn (.p [4,5,6]) (.tup (.cons (.item (.var 1) (.lit (.int 0))) (.cons (.item (.var 1) (.lit (.int 1))) (.cons (.item (.var 1) (.lit (.int 2))) .nil)))))
  (.cons (.asn (.p [7,8]) (.meth 24 (.attr (.var 0) 4) (.cons (.var 5) (.cons (.var 6) .nil))))
  (.cons (.ex (.meth 21 (.attr (.var 0) 4) (.cons (.var 2) (.cons (.var 8) (.cons (.var 5) .nil)))))
  (.cons (.asn (.n 8) (.meth 10 (.attr (.var 0) 4) (.cons (.var 8) .nil)))
  (.cons (.asn (.n 9) (.attr (.attr (.var 0) 4) 25))
  (.cons (.asn (.n 10) (.item (.attr (.var 9) 0) (.item (.var 8) (.lit (.int 1)))))
  (.cons (.asn (.p [11,12]) (.tup (.cons (.item (.item (.attr (.var 10) 1) (.var 7)) (.lit (.int 1))) (.cons (.call 6 (.cons (.var 8) (.cons (.var 7) (.cons (.var 9) .nil)))) .nil))))
  (.cons (.asn (.n 13) (.comp (.item (.var 16) (.lit (.int 1))) (.n 16) (.var 12)))
  (.cons (.iff (.cmp .eq (.var 4) (.lit (.str [118,97,114,105,97,110,116]))) (.cons (.asn (.n 14) (.meth 26 (.var 0) (.cons (.var 1) (.cons (.var 11) (.cons (.var 12) .nil)))))
  .nil) (.cons (.asn (.n 14) (.meth 27 (.var 0) (.cons (.var 1) (.cons (.var 12) .nil))))
  .nil))
  (.cons (.asn (.n 15) (.meth 23 (.var 0) (.cons (.var 14) (.cons (.var 13) (.cons (.var 3) .nil)))))
  (.cons (.ret (.ite (.attr (.var 10) 28) (.tup (.cons (.lit (.str [118,97,114,105,97,110,116])) (.cons (.var 8) (.cons (.var 7) (.cons (.var 15) .nil))))) (.tup (.cons (.lit (.str [102,105,101,108,100,115])) (.cons (.var 8) (.cons (.var 15) .nil))))))
  .nil))))))))))) }
noncomputable def Aaq:FnI:={ addr:=260,np:=4,dfl:=[],nv:=4,body :=
  (.cons (.iff (.cmp .eq (.var 2) (.lit (.str [110,97,109,101,100]))) (.cons .stuck
  .nil) .nil)
  (.cons (.iff (.cmp .ne (.bi .len (.cons (.item (.var 1) (.lit (.int 3))) .nil)) (.bi .len (.cons (.var 3) .nil))) (.cons (.ex (.meth 19 (.var 0) (.cons (.bin .add (.bin .add (.bi .str (.cons (.bi .len (.cons (.var 3) .nil)) .nil)) (.lit (.str [32,112,97,114,116,115,32,97,114,101,32,100,117,101,44,32,110,111,116,32]))) (.bi .str (.cons (.bi .len (.cons (.item (.var 1) (.lit (.int 3))) .nil)) .nil))) (.cons (.item (.var 1) (.lit (.int 1))) .nil))))
  .nil) .nil)
  (.cons (.ret (.item (.var 1) (.lit (.int 3))))
  .nil))) }
noncomputable def J5:FnI:={ addr:=267,np:=3,dfl:=[],nv:=13,body :=
  (.cons (.asn (.p [3,4,5,6,7]) (.var 1))
  (.cons (.asn (.n 8) (.mdict [] .nil))
  (.cons (.for (.p [9,10]) (.var 6) (.cons (.iff (.cmp .isin (.var 9) (.var 8)) (.cons (.ex (.meth 19 (.var 0) (.cons (.bin .add (.var 9) (.lit (.str [32,105,115,32,116,111,108,100,32,116,119,105,99,101]))) (.cons (.var 4) .nil))))
  .nil) .nil)
  (.cons (.sitem (.var 8) (.var 9) (.var 10))
  .nil)))
  (.cons (.asn (.n 11) (.mlist .nil))
  (.cons (.for (.p [9,12]) (.var 2) (.cons (.iff (.andor true (.cons (.cmp .nin (.var 9) (.var 8)) (.cons (.not (.var 7)) .nil))) (.cons (.ex (.meth 19 (.var 0) (.cons (.bin .add (.var 9) (.lit (.str [32,105,115,32,108,101,102,116,32,111,117,116]))) (.cons (.var 4) .nil))))
  .nil) .nil)
  (.cons (.ex (.bm .append (.var 11) (.cons (.bm .dpop2 (.var 8) (.cons (.var 9) (.cons (.tup (.cons (.lit (.str [119,105,108,100])) (.cons (.var 4) .nil))) .nil))) .nil)))
  .nil)))
  (.cons (.for (.n 9) (.bi .sorted (.cons (.var 8) .nil)) (.cons (.ex (.meth 19 (.var 0) (.cons (.bin .add (.lit (.str [110,111,32,115,117,99,104,32,102,105,101,108,100,58,32])) (.var 9)) (.cons (.var 4) .nil))))
  .nil))
  (.cons (.ret (.bi .tuple (.cons (.var 11) .nil)))
  .nil))))))) }
noncomputable def AaX:FnI:={ addr:=281,np:=2,dfl:=[],nv:=3,body :=
  (.cons (.asn (.n 2) (.bi .dict (.cons (.var 0) .nil)))
  (.cons (.ex (.bm .update (.var 2) (.cons (.var 1) .nil)))
  (.cons (.ret (.var 2))
  .nil))) }
noncomputable def AdG:FnI:={ addr:=288,np:=2,dfl:=[],nv:=2,body :=
  (.cons (.iff (.andor false (.cons (.cmp .eq (.var 0) (.lit (.str [114,101,102]))) (.cons (.not (.var 1)) .nil))) (.cons (.ret (.lit (.str [114,101,102])))
  .nil) .nil)
  (.cons (.ret (.lit (.str [109,117,116])))
  .nil)) }
noncomputable def Acu:FnI:={ addr:=295,np:=2,dfl:=[],nv:=3,body :=
  (.cons (.asn (.n 2) (.meth 10 (.var 0) (.cons (.var 1) .nil)))
  (.cons (.whl (.cmp .eq (.item (.var 2) (.lit (.int 0))) (.lit (.str [114,101,102]))) (.cons (.asn (.n 2) (.meth 10 (.var 0) (.cons (.item (.var 2) (.lit (.int 3))) .nil)))
  .nil))
  (.cons (.ret (.var 2))
  .nil))) }
noncomputable def Act:FnI:={ addr:=303,np:=4,dfl:=[(.str [109,111,118,101])],nv:=4,body :=
  (.cons (.ret (.meth 11 (.new 5 (.cons (.var 0) .nil)) (.cons (.var 1) (.cons (.var 2) (.cons (.var 3) .nil)))))
  .nil) }
noncomputable def AdT:FnI:={ addr:=317,np:=1,dfl:=[],nv:=1,body :=
  (.cons (.sattr (.var 0) 5 (.mlist .nil))
  (.cons (.sattr (.var 0) 29 (.mlist .nil))
  .nil)) }
noncomputable def Adu:FnI:={ addr:=324,np:=1,dfl:=[],nv:=1,body :=
  (.cons (.ex (.bm .append (.attr (.var 0) 5) (.cons (.lit .none) .nil)))
  (.cons (.ex (.bm .append (.attr (.var 0) 29) (.cons (.lit (.bool false)) .nil)))
  (.cons (.ret (.tup (.cons (.lit (.str [118,97,114])) (.cons (.bin .sub (.bi .len (.cons (.attr (.var 0) 5) .nil)) (.lit (.int 1))) .nil))))
  .nil))) }
noncomputable def Z2:FnI:={ addr:=338,np:=2,dfl:=[],nv:=2,body :=
  (.cons (.whl (.andor true (.cons (.cmp .isin (.item (.var 1) (.lit (.int 0))) (.tup (.cons (.lit (.str [118,97,114])) (.cons (.lit (.str [105,110,116,118,97,114])) .nil)))) (.cons (.cmp .isnN (.item (.attr (.var 0) 5) (.item (.var 1) (.lit (.int 1)))) (.lit .none)) .nil))) (.cons (.asn (.n 1) (.item (.attr (.var 0) 5) (.item (.var 1) (.lit (.int 1)))))
  .nil))
  (.cons (.ret (.var 1))
  .nil)) }
noncomputable def Y5:FnI:={ addr:=343,np:=2,dfl:=[],nv:=3,body :=
  (.cons (.asn (.n 1) (.meth 30 (.var 0) (.cons (.var 1) .nil)))
  (.cons (.ret (.call 1 (.cons (.var 1) (.cons (.comp (.meth 10 (.var 0) (.cons (.var 2) .nil)) (.n 2) (.call 0 (.cons (.var 1) .nil))) .nil))))
  .nil)) }
noncomputable def Aat:FnI:={ addr:=350,np:=3,dfl:=[],nv:=5,body :=
  (.cons (.asn (.n 3) (.mlist (.cons (.var 2) .nil)))
  (.cons (.whl (.cmp .ne (.var 3) (.vlist .nil)) (.cons (.asn (.n 4) (.meth 30 (.var 0) (.cons (.bm .pop (.var 3) .nil) .nil)))
  (.cons (.iff (.cmp .eq (.var 4) (.var 1)) (.cons .stuck
  .nil) .nil)
  (.cons (.ex (.bm .extend (.var 3) (.cons (.call 0 (.cons (.var 4) .nil)) .nil)))
  .nil))))
  (.cons (.ret (.lit (.bool false)))
  .nil))) }
noncomputable def AaU:FnI:={ addr:=357,np:=3,dfl:=[],nv:=3,body :=
  (.cons (.iff (.andor true (.cons (.cmp .eq (.item (.var 1) (.lit (.int 0))) (.lit (.str [105,110,116,118,97,114]))) (.cons (.cmp .nin (.item (.var 2) (.lit (.int 0))) (.tup (.cons (.lit (.str [105,110,116])) (.cons (.lit (.str [105,110,116,118,97,114])) .nil)))) .nil))) (.cons .stuck
  (.cons .stuck
  .nil)) .nil)
  (.cons (.iff (.meth 31 (.var 0) (.cons (.var 1) (.cons (.var 2) .nil))) (.cons .stuck
  .nil) .nil)
  (.cons (.sitem (.attr (.var 0) 5) (.item (.var 1) (.lit (.int 1))) (.var 2))
  .nil))) }
noncomputable def AbV:FnI:={ addr:=364,np:=3,dfl:=[],nv:=3,body :=
  (.cons (.iff (.andor false (.cons (.cmp .ne (.item (.var 1) (.lit (.int 0))) (.item (.var 2) (.lit (.int 0)))) (.cons (.cmp .ne (.bi .len (.cons (.call 0 (.cons (.var 1) .nil)) .nil)) (.bi .len (.cons (.call 0 (.cons (.var 2) .nil)) .nil))) .nil))) (.cons .stuck
  .nil) .nil)
  (.cons (.iff (.cmp .isin (.item (.var 1) (.lit (.int 0))) (.tup (.cons (.lit (.str [105,110,116])) (.cons (.lit (.str [112,97,114,97,109])) (.cons (.lit (.str [97,100,116])) .nil))))) (.cons (.ret (.cmp .eq (.item (.var 1) (.lit (.int 1))) (.item (.var 2) (.lit (.int 1)))))
  .nil) .nil)
  (.cons .stuck
  .nil))) }
noncomputable def W3:FnI:={ addr:=371,np:=3,dfl:=[],nv:=7,body :=
  (.cons (.asn (.n 3) (.mlist (.cons (.tup (.cons (.var 1) (.cons (.var 2) .nil))) .nil)))
  (.cons (.whl (.cmp .ne (.var 3) (.vlist .nil)) (.cons (.asn (.p [4,5]) (.bm .pop (.var 3) .nil))
  (.cons (.asn (.p [4,5]) (.tup (.cons (.meth 30 (.var 0) (.cons (.var 4) .nil)) (.cons (.meth 30 (.var 0) (.cons (.var 5) .nil)) .nil))))
  (.cons (.iff (.cmp .eq (.var 4) (.var 5)) (.cons .cont
  .nil) .nil)
  (.cons (.iff (.cmp .isin (.item (.var 4) (.lit (.int 0))) (.tup (.cons (.lit (.str [118,97,114])) (.cons (.lit (.str [105,110,116,118,97,114])) .nil)))) (.cons .stuck
  .nil) (.cons (.iff (.cmp .isin (.item (.var 5) (.lit (.int 0))) (.tup (.cons (.lit (.str [118,97,114])) (.cons (.lit (.str [105,110,116,118,97,114])) .nil)))) (.cons (.ex (.meth 32 (.var 0) (.cons (.var 5) (.cons (.var 4) .nil))))
  .nil) (.cons (.iff (.meth 33 (.var 0) (.cons (.var 4) (.cons (.var 5) .nil))) (.cons (.ex (.bm .extend (.var 3) (.cons (.rev (.bi .listzip (.cons (.call 0 (.cons (.var 4) .nil)) (.cons (.call 0 (.cons (.var 5) .nil)) .nil)))) .nil)))
  .nil) (.cons .stuck
  (.cons .stuck
  .nil)))
  .nil))
  .nil))
  .nil)))))
  .nil)) }
noncomputable def AcN:FnI:={ addr:=486,np:=6,dfl:=[],nv:=6,body :=
  (.cons (.sattr (.var 0) 25 (.var 1))
  (.cons (.sattr (.var 0) 34 (.var 2))
  (.cons (.sattr (.var 0) 35 (.var 3))
  (.cons (.sattr (.var 0) 36 (.var 4))
  (.cons (.sattr (.var 0) 37 (.var 5))
  (.cons (.sattr (.var 0) 38 (.new 6 .nil))
  (.cons (.sattr (.var 0) 39 (.mlist .nil))
  (.cons (.sattr (.var 0) 40 (.vlist (.cons (.mdict [] .nil) .nil)))
  (.cons (.sattr (.var 0) 41 (.vlist .nil))
  (.cons (.sattr (.var 0) 42 (.lit (.int 0)))
  (.cons (.sattr (.var 0) 43 (.vlist .nil))
  (.cons (.sattr (.var 0) 44 (.lit (.tup [(.str [116,117,112,108,101]),(.tup [])])))
  .nil)))))))))))) }
noncomputable def Aco:FnI:={ addr:=507,np:=1,dfl:=[],nv:=1,body :=
  (.cons (.ret (.meth 45 (.attr (.var 0) 38) .nil))
  .nil) }
noncomputable def Abs:FnI:={ addr:=514,np:=2,dfl:=[],nv:=2,body :=
  (.cons (.ret (.meth 10 (.attr (.var 0) 38) (.cons (.var 1) .nil)))
  .nil) }
noncomputable def Acd:FnI:={ addr:=521,np:=4,dfl:=[],nv:=4,body :=
  (.cons (.try (.cons (.ex (.meth 21 (.attr (.var 0) 38) (.cons (.var 1) (.cons (.var 2) .nil))))
  .nil) 3 .stuck)
  .nil) }
noncomputable def Abb:FnI:={ addr:=549,np:=4,dfl:=[],nv:=4,body :=
  (.cons (.ex (.bm .append (.attr (.var 0) 39) (.cons (.vlist (.cons (.var 1) (.cons (.var 2) (.cons (.var 3) .nil)))) .nil)))
  (.cons (.ret (.bin .sub (.bi .len (.cons (.attr (.var 0) 39) .nil)) (.lit (.int 1))))
  .nil)) }
noncomputable def AbB:FnI:={ addr:=556,np:=5,dfl:=[],nv:=6,body :=
  (.cons (.asn (.n 5) (.meth 46 (.var 0) (.cons (.var 1) (.cons (.var 2) (.cons (.var 3) .nil)))))
  (.cons (.sitem (.item (.attr (.var 0) 40) (.neg 1)) (.var 1) (.var 5))
  (.cons (.ret (.var 5))
  .nil))) }
noncomputable def Abn:FnI:={ addr:=568,np:=3,dfl:=[],nv:=7,body :=
  (.cons (.asn (.n 3) (.item (.attr (.attr (.var 0) 25) 0) (.var 1)))
  (.cons (.iff (.cmp .nin (.bi .len (.cons (.var 2) .nil)) (.tup (.cons (.lit (.int 0)) (.cons (.bi .len (.cons (.attr (.var 3) 2) .nil)) .nil)))) (.cons .stuck
  .nil) .nil)
  (.cons (.asn (.n 4) (.comp (.meth 47 (.var 0) (.cons (.var 5) .nil)) (.n 5) (.var 2)))
  (.cons (.iff (.cmp .eq (.var 4) (.vlist .nil)) (.cons (.asn (.n 4) (.comp (.meth 45 (.var 0) .nil) (.n 6) (.attr (.var 3) 2)))
  .nil) .nil)
  (.cons (.ret (.tup (.cons (.lit (.str [97,100,116])) (.cons (.var 1) (.cons (.bin .mul (.tup (.cons (.lit .none) .nil)) (.bi .len (.cons (.attr (.var 3) 3) .nil))) (.cons (.bi .tuple (.cons (.var 4) .nil)) .nil))))))
  .nil))))) }
noncomputable def Aa1:FnI:={ addr:=575,np:=3,dfl:=[],nv:=6,body :=
  (.cons (.iff (.cmp .eq (.item (.item (.var 2) (.lit (.int 0))) (.lit (.int 0))) (.lit (.str [83,101,108,102]))) (.cons .stuck
  .nil) .nil)
  (.cons (.asn (.n 3) (.meth 48 (.var 0) (.cons (.var 1) (.cons (.call 46 (.cons (.var 2) .nil)) .nil))))
  (.cons (.asn (.p [4,5]) (.item (.attr (.attr (.var 0) 25) 1) (.var 3)))
  (.cons (.ret (.tup (.cons (.var 5) (.cons (.meth 49 (.var 0) (.cons (.var 4) (.cons (.meth 50 (.var 0) (.cons (.var 4) (.cons (.var 2) .nil))) .nil))) .nil))))
  .nil)))) }
noncomputable def Aa2:FnI:={ addr:=582,np:=3,dfl:=[],nv:=4,body :=
  (.cons (.asn (.n 3) (.item (.item (.var 2) (.neg 1)) (.lit (.int 2))))
  (.cons (.iff (.andor true (.cons (.cmp .eq (.var 3) (.tup .nil)) (.cons (.cmp .gt (.bi .len (.cons (.var 2) .nil)) (.lit (.int 1))) (.cons (.attr (.item (.attr (.attr (.var 0) 25) 0) (.var 1)) 28) .nil)))) (.cons (.asn (.n 3) (.item (.item (.var 2) (.neg 2)) (.lit (.int 2))))
  .nil) .nil)
  (.cons (.ret (.var 3))
  .nil))) }
noncomputable def Aa3:FnI:={ addr:=589,np:=3,dfl:=[],nv:=10,body :=
  (.cons (.iff (.cmp .eq (.item (.item (.var 1) (.lit (.int 0))) (.lit (.int 0))) (.lit (.str [83,101,108,102]))) (.cons .stuck
  .nil) .nil)
  (.cons (.try (.cons (.asn (.n 3) (.meth 51 (.attr (.attr (.var 0) 25) 52) (.cons (.attr (.var 0) 34) (.cons (.call 46 (.cons (.var 1) .nil)) (.cons (.lit (.str [118,97,108,117,101])) (.cons (.var 2) .nil))))))
  .nil) 1 (.ret .none))
  (.cons (.iff (.cmp .isin (.var 3) (.attr (.attr (.var 0) 25) 1)) (.cons (.asn (.p [4,5]) (.item (.attr (.attr (.var 0) 25) 1) (.var 3)))
  (.cons (.asn (.n 6) (.ite (.attr (.item (.attr (.attr (.var 0) 25) 0) (.var 4)) 28) (.lit (.str [118,97,114,105,97,110,116])) (.lit (.str [115,116,114,117,99,116]))))
  (.cons (.ret (.tup (.cons (.var 6) (.cons (.var 4) (.cons (.var 5) (.cons (.meth 50 (.var 0) (.cons (.var 4) (.cons (.var 1) .nil))) .nil))))))
  .nil))) .nil)
  (.cons (.iff (.cmp .isin (.var 3) (.attr (.attr (.var 0) 25) 53)) (.cons (.asn (.p [7,8,9]) (.item (.attr (.attr (.var 0) 25) 53) (.var 3)))
  (.cons (.ret (.tup (.cons (.lit (.str [99,111,110,115,116])) (.cons (.call 4 (.cons (.var 7) .nil)) (.cons (.tup (.cons (.lit (.str [119,105,116,104,105,110])) (.cons (.var 2) (.cons (.var 9) (.cons (.var 8) .nil))))) (.cons (.call 47 (.cons (.var 8) .nil)) .nil))))))
  .nil)) .nil)
  (.cons .stuck
  .nil))))) }
noncomputable def AaM:FnI:={ addr:=601,np:=3,dfl:=[],nv:=5,body :=
  (.cons (.for (.n 3) (.tup (.cons (.lit (.str [118,97,108,117,101])) (.cons (.lit (.str [116,121,112,101])) .nil))) (.cons (.try (.cons (.asn (.n 4) (.meth 51 (.attr (.attr (.var 0) 25) 52) (.cons (.attr (.var 0) 34) (.cons (.var 2) (.cons (.var 3) .nil)))))
  (.cons (.iff (.cmp .isin (.var 4) (.attr (.attr (.var 0) 25) 1)) (.cons (.ret (.var 4))
  .nil) .nil)
  .nil)) 1 .cont)
  .nil))
  (.cons .stuck
  .nil)) }
noncomputable def Agf:FnI:={ addr:=646,np:=1,dfl:=[],nv:=4,body :=
  (.cons (.ret (.bi .tuple (.cons (.comp (.var 1) (.p [1,2,3]) (.var 0)) .nil)))
  .nil) }
noncomputable def Adv:FnI:={ addr:=653,np:=1,dfl:=[],nv:=1,body :=
  (.cons (.iff (.cmp .isin (.item (.var 0) (.lit (.int 0))) (.tup (.cons (.lit (.str [105,110,116])) (.cons (.lit (.str [98,111,111,108])) .nil)))) (.cons (.ret (.item (.var 0) (.lit (.int 2))))
  .nil) .nil)
  (.cons .stuck
  (.cons .stuck
  .nil))) }
noncomputable def AjD:FnI:={ addr:=662,np:=2,dfl:=[],nv:=2,body :=
  (.cons (.ret (.ite (.cmp .eq (.var 0) (.lit (.str []))) (.var 1) (.bin .add (.bin .add (.var 0) (.lit (.str [58,58]))) (.var 1))))
  .nil) }
noncomputable def AeG:FnI:={ addr:=676,np:=2,dfl:=[],nv:=2,body :=
  (.cons (.ret (.andor false (.cons (.cmp .eq (.var 1) (.lit (.str []))) (.cons (.cmp .eq (.var 0) (.var 1)) (.cons (.meth 54 (.var 0) (.cons (.bin .add (.var 1) (.lit (.str [58,58]))) .nil)) .nil)))))
  .nil) }
noncomputable def AgH:FnI:={ addr:=690,np:=4,dfl:=[],nv:=4,body :=
  (.cons (.sattr (.var 0) 55 (.var 1))
  (.cons (.sattr (.var 0) 56 (.var 2))
  (.cons (.sattr (.var 0) 57 (.var 3))
  .nil))) }
noncomputable def Aeq:FnI:={ addr:=711,np:=1,dfl:=[],nv:=1,body :=
  (.cons (.sattr (.var 0) 58 (.mdict [] .nil))
  (.cons (.sattr (.var 0) 59 (.mdict [] .nil))
  (.cons (.sattr (.var 0) 60 (.mdict [] .nil))
  .nil))) }
noncomputable def Adk:FnI:={ addr:=718,np:=2,dfl:=[],nv:=2,body :=
  (.cons (.ret (.ite (.cmp .eq (.var 1) (.lit (.str [116,121,112,101]))) (.attr (.var 0) 58) (.attr (.var 0) 59)))
  .nil) }
noncomputable def Ab2:FnI:={ addr:=723,np:=3,dfl:=[],nv:=4,body :=
  (.cons (.ret (.andor false (.cons (.cmp .isin (.var 1) (.attr (.var 0) 60)) (.cons (.cmp .ne (.compc (.var 3) (.n 3) (.var 2) (.cmp .isin (.var 1) (.meth 61 (.var 0) (.cons (.var 3) .nil)))) (.vlist .nil)) .nil))))
  .nil) }
noncomputable def AcW:FnI:={ addr:=744,np:=2,dfl:=[],nv:=6,body :=
  (.cons (.sattr (.var 0) 62 (.mdict [[]] (.cons (.lit (.str [109,111,100])) .nil)))
  (.cons (.sattr (.var 0) 63 (.mdict [[]] (.cons (.lit (.bool true)) .nil)))
  (.cons (.sattr (.var 0) 64 (.mdict [[]] (.cons (.new 9 .nil) .nil)))
  (.cons (.sattr (.var 0) 65 (.mdict [] .nil))
  (.cons (.sattr (.var 0) 66 (.mdict [] .nil))
  (.cons (.asn (.n 2) (.mlist (.cons (.tup (.cons (.lit (.str [])) (.cons (.bi .list (.cons (.var 1) .nil)) .nil))) .nil)))
  (.cons (.whl (.cmp .ne (.var 2) (.vlist .nil)) (.cons (.asn (.p [3,4]) (.bm .pop (.var 2) .nil))
  (.cons (.for (.n 5) (.var 4) (.cons (.iff (.cmp .eq (.item (.var 5) (.lit (.int 0))) (.lit (.str [109,111,100]))) (.cons .stuck
  .nil) .nil)
  (.cons (.ex (.meth 67 (.var 0) (.cons (.var 3) (.cons (.var 5) .nil))))
  .nil)))
  .nil)))
  .nil))))))) }
noncomputable def Acm:FnI:={ addr:=751,np:=3,dfl:=[],nv:=6,body :=
  (.cons (.asn (.p [3,4]) (.tup (.cons (.item (.var 2) (.lit (.int 0))) (.cons (.item (.var 2) (.lit (.int 1))) .nil))))
  (.cons (.iff (.cmp .eq (.var 3) (.lit (.str [117,115,101]))) (.cons (.ex (.meth 68 (.var 0) (.cons (.var 1) (.cons (.var 2) .nil))))
  .nil) (.cons (.iff (.cmp .eq (.var 3) (.lit (.str [109,111,100]))) (.cons .stuck
  (.cons .stuck
  .nil)) (.cons (.iff (.cmp .eq (.var 3) (.lit (.str [115,116,114,117,99,116]))) (.cons (.asn (.n 5) (.ite (.cmp .eq (.item (.var 2) (.lit (.int 4))) (.lit (.str [110,97,109,101,100]))) (.tup (.cons (.lit (.str [116,121,112,101])) .nil)) (.tup (.cons (.lit (.str [116,121,112,101])) (.cons (.lit (.str [118,97,108,117,101])) .nil)))))
  (.cons (.ex (.meth 69 (.var 0) (.cons (.var 1) (.cons (.var 2) (.cons (.var 5) (.cons (.item (.var 2) (.lit (.int 6))) .nil))))))
  .nil)) (.cons (.iff (.cmp .eq (.var 3) (.lit (.str [101,110,117,109]))) (.cons (.ex (.meth 69 (.var 0) (.cons (.var 1) (.cons (.var 2) (.cons (.tup (.cons (.lit (.str [116,121,112,101])) .nil)) (.cons (.item (.var 2) (.lit (.int 5))) .nil))))))
  (.cons (.ex (.meth 70 (.var 0) (.cons (.call 48 (.cons (.var 1) (.cons (.item (.var 2) (.lit (.int 2))) .nil))) (.cons (.var 2) .nil))))
  .nil)) (.cons (.iff (.cmp .eq (.var 3) (.lit (.str [116,114,97,105,116]))) (.cons .stuck
  .nil) (.cons (.iff (.cmp .isin (.var 3) (.tup (.cons (.lit (.str [102,110])) (.cons (.lit (.str [99,111,110,115,116])) .nil)))) (.cons (.ex (.meth 22 (.var 0) (.cons (.var 1) (.cons (.item (.var 2) (.lit (.int 2))) (.cons (.var 3) (.cons (.tup (.cons (.lit (.str [118,97,108,117,101])) .nil)) (.cons (.ite (.cmp .eq (.var 3) (.lit (.str [102,110]))) (.item (.var 2) (.lit (.int 8))) (.item (.var 2) (.lit (.int 5)))) (.cons (.var 4) .nil))))))))
  (.cons (.sitem (.attr (.var 0) 66) (.call 48 (.cons (.var 1) (.cons (.item (.var 2) (.lit (.int 2))) .nil))) (.var 2))
  .nil)) .nil)
  .nil))
  .nil))
  .nil))
  .nil))
  .nil))
  .nil)) }
noncomputable def AbK:FnI:={ addr:=758,np:=7,dfl:=[],nv:=10,body :=
  (.cons (.asn (.p [7,8]) (.tup (.cons (.item (.attr (.var 0) 64) (.var 1)) (.cons (.call 48 (.cons (.var 1) (.cons (.var 2) .nil))) .nil))))
  (.cons (.iff (.andor false (.cons (.meth 71 (.var 7) (.cons (.var 2) (.cons (.var 4) .nil))) (.cons (.cmp .isin (.var 8) (.attr (.var 0) 62)) .nil))) (.cons .stuck
  .nil) .nil)
  (.cons (.for (.n 9) (.var 4) (.cons (.sitem (.meth 61 (.var 7) (.cons (.var 9) .nil)) (.var 2) (.var 8))
  .nil))
  (.cons (.sitem (.attr (.var 0) 62) (.var 8) (.var 3))
  (.cons (.sitem (.attr (.var 0) 63) (.var 8) (.var 5))
  .nil))))) }
noncomputable def AaL:FnI:={ addr:=763,np:=5,dfl:=[],nv:=9,body :=
  (.cons (.ex (.meth 22 (.var 0) (.cons (.var 1) (.cons (.item (.var 2) (.lit (.int 2))) (.cons (.item (.var 2) (.lit (.int 0))) (.cons (.var 3) (.cons (.var 4) (.cons (.item (.var 2) (.lit (.int 1))) .nil))))))))
  (.cons (.asn (.n 5) (.call 48 (.cons (.var 1) (.cons (.item (.var 2) (.lit (.int 2))) .nil))))
  (.cons (.asn (.p [6,7]) (.item (.var 2) (.lit (.int 3))))
  (.cons (.sitem (.attr (.var 0) 65) (.var 5) (.tup (.cons (.bi .tuple (.cons (.var 6) .nil)) (.cons (.bi .tuple (.cons (.comp (.item (.var 8) (.lit (.int 0))) (.n 8) (.var 7)) .nil)) .nil))))
  (.cons (.sitem (.attr (.var 0) 66) (.var 5) (.var 2))
  .nil))))) }
noncomputable def AaF:FnI:={ addr:=770,np:=3,dfl:=[],nv:=4,body :=
  (.cons (.for (.n 3) (.item (.var 2) (.lit (.int 4))) (.cons (.iff (.cmp .isin (.call 48 (.cons (.var 1) (.cons (.item (.var 3) (.lit (.int 0))) .nil))) (.attr (.var 0) 62)) (.cons .stuck
  .nil) .nil)
  (.cons (.sitem (.attr (.var 0) 62) (.call 48 (.cons (.var 1) (.cons (.item (.var 3) (.lit (.int 0))) .nil))) (.lit (.str [118,97,114,105,97,110,116])))
  .nil)))
  .nil) }
noncomputable def Abe:FnI:={ addr:=777,np:=3,dfl:=[],nv:=9,body :=
  (.cons (.asn (.p [3,4,5,6]) (.tup (.cons (.item (.var 2) (.lit (.int 1))) (.cons (.item (.var 2) (.lit (.int 2))) (.cons (.item (.var 2) (.lit (.int 3))) (.cons (.item (.var 2) (.lit (.int 4))) .nil))))))
  (.cons (.asn (.n 7) (.ite (.cmp .isN (.var 5) (.lit .none)) (.item (.var 4) (.neg 1)) (.var 5)))
  (.cons (.asn (.n 8) (.item (.attr (.var 0) 64) (.var 1)))
  (.cons (.iff (.andor false (.cons (.cmp .isin (.var 7) (.lit (.tup [(.str [99,114,97,116,101]),(.str [115,101,108,102]),(.str [115,117,112,101,114])]))) (.cons (.meth 71 (.var 8) (.cons (.var 7) (.cons (.tup (.cons (.lit (.str [116,121,112,101])) (.cons (.lit (.str [118,97,108,117,101])) .nil))) .nil))) .nil))) (.cons .stuck
  .nil) .nil)
  (.cons (.sitem (.attr (.var 8) 60) (.var 7) (.new 8 (.cons (.bi .tuple (.cons (.var 4) .nil)) (.cons (.var 6) (.cons (.var 3) .nil)))))
  .nil))))) }
noncomputable def AbW:FnI:={ addr:=784,np:=4,dfl:=[],nv:=4,body :=
  (.cons (.ret (.andor false (.cons (.var 3) (.cons (.call 49 (.cons (.var 1) (.cons (.var 2) .nil))) .nil))))
  .nil) }
noncomputable def AcJ:FnI:={ addr:=792,np:=5,dfl:=[(.int 0)],nv:=5,body :=
  (.cons (.ret (.meth 72 (.var 0) (.cons (.var 1) (.cons (.bi .tuple (.cons (.var 2) .nil)) (.cons (.var 3) (.cons (.var 4) (.cons (.vlist .nil) .nil)))))))
  .nil) }
noncomputable def AcO:FnI:={ addr:=799,np:=6,dfl:=[],nv:=10,body :=
  (.cons (.asn (.p [6,7]) (.meth 73 (.var 0) (.cons (.var 1) (.cons (.var 2) (.cons (.var 4) .nil)))))
  (.cons (.whl (.cmp .lt (.var 7) (.bi .len (.cons (.var 2) .nil))) (.cons (.asn (.n 8) (.ite (.cmp .eq (.bin .add (.var 7) (.lit (.int 1))) (.bi .len (.cons (.var 2) .nil))) (.var 3) (.lit (.str [116,121,112,101]))))
  (.cons (.asn (.n 9) (.meth 74 (.var 0) (.cons (.var 1) (.cons (.var 6) (.cons (.item (.var 2) (.var 7)) (.cons (.var 8) (.cons (.var 4) (.cons (.var 5) .nil))))))))
  (.cons (.iff (.cmp .isN (.var 9) (.lit .none)) (.cons (.raise 1 (.cons (.bin .add (.lit (.str [110,111,116,104,105,110,103,32,105,115,32,110,97,109,101,100,32])) (.bm .join (.lit (.str [58,58])) (.cons (.var 2) .nil))) (.cons (.var 4) .nil)))
  .nil) .nil)
  (.cons (.asn (.p [6,7]) (.tup (.cons (.var 9) (.cons (.bin .add (.var 7) (.lit (.int 1))) .nil))))
  .nil)))))
  (.cons (.iff (.andor false (.cons (.cmp .isN (.var 6) (.lit .none)) (.cons (.andor true (.cons (.cmp .eq (.var 3) (.lit (.str [118,97,108,117,101]))) (.cons (.cmp .eq (.item (.attr (.var 0) 62) (.var 6)) (.lit (.str [109,111,100]))) .nil))) .nil))) (.cons .stuck
  .nil) .nil)
  (.cons (.ret (.var 6))
  .nil)))) }
noncomputable def AcB:FnI:={ addr:=806,np:=4,dfl:=[],nv:=6,body :=
  (.cons (.iff (.cmp .eq (.var 2) (.tup .nil)) (.cons .stuck
  .nil) .nil)
  (.cons (.iff (.cmp .eq (.item (.var 2) (.lit (.int 0))) (.lit (.str [99,114,97,116,101]))) (.cons .stuck
  .nil) .nil)
  (.cons (.iff (.cmp .nin (.item (.var 2) (.lit (.int 0))) (.lit (.tup [(.str [99,114,97,116,101]),(.str [115,101,108,102]),(.str [115,117,112,101,114])]))) (.cons (.ret (.tup (.cons (.lit .none) (.cons (.lit (.int 0)) .nil))))
  .nil) .nil)
  (.cons .stuck
  (.cons .stuck
  (.cons .stuck
  .nil)))))) }
noncomputable def AcX:FnI:={ addr:=813,np:=7,dfl:=[],nv:=8,body :=
  (.cons (.iff (.cmp .isnN (.var 2) (.lit .none)) (.cons (.ret (.meth 75 (.var 0) (.cons (.var 1) (.cons (.var 2) (.cons (.var 3) (.cons (.var 4) (.cons (.var 5) (.cons (.var 6) .nil))))))))
  .nil) .nil)
  (.cons (.asn (.n 7) (.meth 75 (.var 0) (.cons (.var 1) (.cons (.var 1) (.cons (.var 3) (.cons (.var 4) (.cons (.var 5) (.cons (.var 6) .nil))))))))
  (.cons (.iff (.andor true (.cons (.cmp .isN (.var 7) (.lit .none)) (.cons (.cmp .isin (.var 3) (.lit (.tup [(.str [67,108,111,110,101]),(.str [67,111,112,121]),(.str [68,101,102,97,117,108,116]),(.str [68,114,111,112]),(.str [69,114,114]),(.str [78,111,110,101]),(.str [79,107]),(.str [79,112,116,105,111,110]),(.str [82,97,110,103,101,56]),(.str [82,101,115,117,108,116]),(.str [83,111,109,101]),(.str [86,101,99,56]),(.str [115,119,97,112,112,101,100])]))) .nil))) (.cons .stuck
  .nil) .nil)
  (.cons (.ret (.var 7))
  .nil)))) }
noncomputable def AcT:FnI:={ addr:=820,np:=7,dfl:=[],nv:=10,body :=
  (.cons (.iff (.cmp .eq (.item (.attr (.var 0) 62) (.var 2)) (.lit (.str [101,110,117,109]))) (.cons (.asn (.n 7) (.call 48 (.cons (.var 2) (.cons (.var 3) .nil))))
  (.cons (.ret (.ite (.cmp .eq (.bm .get1 (.attr (.var 0) 62) (.cons (.var 7) .nil)) (.lit (.str [118,97,114,105,97,110,116]))) (.var 7) (.lit .none)))
  .nil)) .nil)
  (.cons (.iff (.cmp .ne (.item (.attr (.var 0) 62) (.var 2)) (.lit (.str [109,111,100]))) (.cons .stuck
  .nil) .nil)
  (.cons (.asn (.n 8) (.item (.attr (.var 0) 64) (.var 2)))
  (.cons (.asn (.n 7) (.bm .get1 (.meth 61 (.var 8) (.cons (.var 4) .nil)) (.cons (.var 3) .nil)))
  (.cons (.iff (.cmp .isnN (.var 7) (.lit .none)) (.cons (.iff (.not (.meth 76 (.var 0) (.cons (.var 1) (.cons (.var 2) (.cons (.item (.attr (.var 0) 63) (.var 7)) .nil))))) (.cons .stuck
  .nil) .nil)
  (.cons (.ret (.var 7))
  .nil)) .nil)
  (.cons (.asn (.n 9) (.bm .get1 (.attr (.var 8) 60) (.cons (.var 3) .nil)))
  (.cons (.iff (.cmp .isN (.var 9) (.lit .none)) (.cons (.ret (.lit .none))
  .nil) .nil)
  (.cons (.iff (.not (.meth 76 (.var 0) (.cons (.var 1) (.cons (.var 2) (.cons (.attr (.var 9) 56) .nil))))) (.cons .stuck
  .nil) .nil)
  (.cons (.ret (.meth 77 (.var 0) (.cons (.var 2) (.cons (.var 3) (.cons (.var 9) (.cons (.var 4) (.cons (.var 6) .nil)))))))
  .nil))))))))) }
noncomputable def Ab3:FnI:={ addr:=827,np:=6,dfl:=[],nv:=6,body :=
  (.cons (.iff (.andor false (.cons (.cmp .isin (.tup (.cons (.var 1) (.cons (.var 2) .nil))) (.var 5)) (.cons (.cmp .ge (.bi .len (.cons (.var 5) .nil)) (.lit (.int 30))) .nil))) (.cons .stuck
  .nil) .nil)
  (.cons (.ret (.meth 72 (.var 0) (.cons (.var 1) (.cons (.attr (.var 3) 55) (.cons (.var 4) (.cons (.attr (.var 3) 57) (.cons (.bin .add (.var 5) (.vlist (.cons (.tup (.cons (.var 1) (.cons (.var 2) .nil))) .nil))) .nil)))))))
  .nil)) }
noncomputable def Agh:FnI:={ addr:=865,np:=8,dfl:=[(.str []),(.tup [])],nv:=8,body :=
  (.cons (.sattr (.var 0) 78 (.var 1))
  (.cons (.sattr (.var 0) 34 (.var 6))
  (.cons (.sattr (.var 0) 3 (.var 2))
  (.cons (.sattr (.var 0) 2 (.var 3))
  (.cons (.sattr (.var 0) 1 (.var 4))
  (.cons (.sattr (.var 0) 63 (.var 7))
  (.cons (.sattr (.var 0) 28 (.var 5))
  .nil))))))) }
noncomputable def Aeg:FnI:={ addr:=887,np:=2,dfl:=[.none],nv:=2,body :=
  (.cons (.sattr (.var 0) 52 (.var 1))
  (.cons (.sattr (.var 0) 0 (.mdict [] .nil))
  (.cons (.sattr (.var 0) 1 (.mdict [] .nil))
  (.cons (.sattr (.var 0) 79 (.mdict [] .nil))
  (.cons (.sattr (.var 0) 80 (.mdict [] .nil))
  (.cons (.sattr (.var 0) 81 (.vlist .nil))
  (.cons (.sattr (.var 0) 53 (.mdict [] .nil))
  (.cons (.sattr (.var 0) 82 (.mdict [] .nil))
  .nil)))))))) }
noncomputable def AbT:FnI:={ addr:=908,np:=2,dfl:=[],nv:=5,body :=
  (.cons (.asn (.n 2) (.ite (.cmp .ne (.var 0) (.mlist .nil)) (.item (.var 0) (.lit (.int 0))) (.lit (.int 0))))
  (.cons (.asn (.n 3) (.bi .max (.cons (.var 2) (.cons (.bin .sub (.neg 1) (.var 2)) .nil))))
  (.cons (.asn (.n 4) (.bin .mod (.bin .mul (.bin .add (.bin .mod (.var 3) (.lit (.int 2147483629))) (.lit (.int 17))) (.lit (.int 48271))) (.lit (.int 2147483647))))
  (.cons (.ret (.mlist (.cons (.bin .mul (.var 3) (.bi .int (.cons (.cmp .ge (.var 3) (.bin .pow (.lit (.int 10)) (.lit (.int 18)))) .nil))) (.cons (.var 4) (.cons (.ite (.cmp .eq (.var 0) (.mlist .nil)) (.var 1) (.vlist .nil)) .nil)))))
  .nil)))) }
noncomputable def AaA:FnI:={ addr:=915,np:=2,dfl:=[],nv:=3,body :=
  (.cons (.iff (.cmp .ne (.item (.var 0) (.lit (.int 2))) (.vlist .nil)) (.cons (.ret (.bin .mod (.bm .pop0 (.item (.var 0) (.lit (.int 2))) (.cons (.lit (.int 0)) .nil)) (.var 1)))
  .nil) .nil)
  (.cons (.iff (.cmp .gt (.item (.var 0) (.lit (.int 0))) (.lit (.int 0))) (.cons (.asn (.n 2) (.bin .mod (.item (.var 0) (.lit (.int 0))) (.var 1)))
  (.cons (.sitem (.var 0) (.lit (.int 0)) (.bin .fdiv (.item (.var 0) (.lit (.int 0))) (.var 1)))
  (.cons (.ret (.var 2))
  .nil))) .nil)
  (.cons (.sitem (.var 0) (.lit (.int 1)) (.bin .mod (.bin .add (.bin .mul (.item (.var 0) (.lit (.int 1))) (.lit (.int 39373))) (.lit (.int 7))) (.lit (.int 2147483647))))
  (.cons (.ret (.bin .mod (.bin .fdiv (.bin .mod (.bin .mul (.item (.var 0) (.lit (.int 1))) (.item (.var 0) (.lit (.int 1)))) (.lit (.int 2147483629))) (.lit (.int 32))) (.var 1)))
  .nil)))) }
noncomputable def AcH:FnI:={ addr:=922,np:=2,dfl:=[],nv:=2,body :=
  (.cons (.ret (.item (.var 1) (.call 70 (.cons (.var 0) (.cons (.bi .len (.cons (.var 1) .nil)) .nil)))))
  .nil) }
noncomputable def AdO:FnI:={ addr:=929,np:=0,dfl:=[],nv:=5,body :=
  (.cons (.asn (.p [0,1]) (.tup (.cons (.tup (.cons (.lit (.str [105,110,116])) (.cons (.lit (.str [117,56])) .nil))) (.cons (.tup (.cons (.tup .nil) (.cons (.tup .nil) .nil))) .nil))))
  (.cons (.asn (.n 2) (.vlist (.cons (.tup (.cons (.lit (.str [80])) (.cons (.lit (.str [117,110,105,116])) (.cons (.vlist .nil) .nil)))) (.cons (.tup (.cons (.lit (.str [81])) (.cons (.lit (.str [116,117,112,108,101])) (.cons (.vlist (.cons (.tup (.cons (.lit (.str [48])) (.cons (.tup (.cons (.lit (.str [112,97,114,97,109])) (.cons (.lit (.str [84])) .nil))) .nil))) (.cons (.tup (.cons (.lit (.str [49])) (.cons (.var 0) .nil))) .nil))) .nil)))) .nil))))
  (.cons (.asn (.n 3) (.mlist (.cons (.tup (.cons (.lit (.str [101,110,117,109])) (.cons (.lit (.int 1)) (.cons (.lit (.str [69])) (.cons (.tup (.cons (.tup .nil) (.cons (.tup (.cons (.tup (.cons (.lit (.str [84])) (.cons (.tup .nil) .nil))) .nil)) .nil))) (.cons (.tup (.cons (.tup (.cons (.lit (.str [80])) (.cons (.lit (.str [117,110,105,116])) (.cons (.tup .nil) .nil)))) (.cons (.tup (.cons (.lit (.str [81])) (.cons (.lit (.str [116,117,112,108,101])) (.cons (.tup .nil) .nil)))) .nil))) (.cons (.lit (.bool false)) .nil))))))) .nil)))
  (.cons (.ex (.bm .append (.var 3) (.cons (.tup (.cons (.lit (.str [115,116,114,117,99,116])) (.cons (.lit (.int 1)) (.cons (.lit (.str [83])) (.cons (.var 1) (.cons (.lit (.str [110,97,109,101,100])) (.cons (.tup .nil) (.cons (.lit (.bool false)) .nil)))))))) .nil)))
  (.cons (.asn (.n 3) (.bin .add (.var 3) (.vlist (.cons (.tup (.cons (.lit (.str [99,111,110,115,116])) (.cons (.lit (.int 1)) (.cons (.lit (.str [75])) (.cons (.lit .none) (.cons (.lit .none) (.cons (.lit (.bool false)) .nil))))))) (.cons (.tup (.cons (.lit (.str [117,115,101])) (.cons (.lit (.int 1)) (.cons (.tup (.cons (.lit (.str [69])) (.cons (.lit (.str [80])) .nil))) (.cons (.lit .none) (.cons (.lit (.bool false)) .nil)))))) .nil)))))
  (.cons (.asn (.n 4) (.new 12 (.cons (.new 10 (.cons (.var 3) .nil)) .nil)))
  (.cons (.sitem (.attr (.var 4) 0) (.lit (.str [69])) (.new 11 (.cons (.lit (.str [69])) (.cons (.tup .nil) (.cons (.tup (.cons (.lit (.str [84])) .nil)) (.cons (.var 2) (.cons (.lit (.bool true)) .nil)))))))
  (.cons (.sitem (.attr (.var 4) 0) (.lit (.str [83])) (.new 11 (.cons (.lit (.str [83])) (.cons (.tup .nil) (.cons (.tup .nil) (.cons (.vlist (.cons (.tup (.cons (.lit (.str [83])) (.cons (.lit (.str [110,97,109,101,100])) (.cons (.vlist (.cons (.tup (.cons (.lit (.str [97])) (.cons (.tup (.cons (.lit (.str [98,111,111,108])) .nil)) .nil))) (.cons (.tup (.cons (.lit (.str [98])) (.cons (.var 0) .nil))) .nil))) .nil)))) .nil)) (.cons (.lit (.bool false)) .nil)))))))
  (.cons (.ex (.bm .update (.attr (.var 4) 1) (.cons (.mdict [[69,58,58,80],[69,58,58,81],[83]] (.cons (.tup (.cons (.lit (.str [69])) (.cons (.lit (.int 0)) .nil))) (.cons (.tup (.cons (.lit (.str [69])) (.cons (.lit (.int 1)) .nil))) (.cons (.tup (.cons (.lit (.str [83])) (.cons (.lit (.int 0)) .nil))) .nil)))) .nil)))
  (.cons (.sitem (.attr (.var 4) 53) (.lit (.str [75])) (.tup (.cons (.var 0) (.cons (.tup (.cons (.lit (.str [105,110,116])) (.cons (.lit (.int 1)) (.cons (.lit (.int 7)) (.cons (.lit .none) .nil))))) (.cons (.lit (.str [])) .nil)))))
  (.cons (.ret (.new 7 (.cons (.var 4) (.cons (.lit (.str [])) (.cons (.lit .none) (.cons (.mdict [] .nil) (.cons (.lit .none) .nil)))))))
  .nil))))))))))) }
noncomputable def AaE:FnI:={ addr:=936,np:=2,dfl:=[],nv:=4,body :=
  (.cons (.asn (.n 2) (.ite (.cmp .gt (.var 1) (.lit (.int 0))) (.call 70 (.cons (.var 0) (.cons (.lit (.int 7)) .nil))) (.call 70 (.cons (.var 0) (.cons (.lit (.int 2)) .nil)))))
  (.cons (.iff (.cmp .lt (.var 2) (.lit (.int 2))) (.cons (.ret (.lpick (.cons (.tup (.cons (.lit (.str [105,110,116])) (.cons (.lit (.str [117,56])) .nil))) (.cons (.tup (.cons (.lit (.str [98,111,111,108])) .nil)) .nil)) (.var 2)))
  .nil) .nil)
  (.cons (.iff (.cmp .eq (.var 2) (.lit (.int 2))) (.cons (.ret (.tup (.cons (.lit (.str [97,100,116])) (.cons (.lit (.str [83])) (.cons (.tup .nil) (.cons (.tup .nil) .nil))))))
  .nil) .nil)
  (.cons (.asn (.n 3) (.call 73 (.cons (.var 0) (.cons (.bin .sub (.var 1) (.lit (.int 1))) .nil))))
  (.cons (.iff (.cmp .eq (.var 2) (.lit (.int 3))) (.cons (.ret (.tup (.cons (.lit (.str [116,117,112,108,101])) (.cons (.tup (.cons (.var 3) (.cons (.tup (.cons (.lit (.str [105,110,116])) (.cons (.lit (.str [117,56])) .nil))) .nil))) .nil))))
  .nil) .nil)
  (.cons (.ret (.ite (.cmp .eq (.var 2) (.lit (.int 4))) (.tup (.cons (.lit (.str [97,100,116])) (.cons (.lit (.str [69])) (.cons (.tup .nil) (.cons (.tup (.cons (.var 3) .nil)) .nil))))) (.tup (.cons (.lit (.str [114,101,102])) (.cons (.lit .none) (.cons (.cmp .eq (.var 2) (.lit (.int 6))) (.cons (.var 3) .nil)))))))
  .nil)))))) }
noncomputable def AdZ:FnI:={ addr:=943,np:=2,dfl:=[],nv:=2,body :=
  (.cons (.ret (.ite (.andor true (.cons (.var 1) (.cons (.cmp .ne (.var 0) (.lit (.str [114,101,102]))) .nil))) (.lit (.str [109,117,116])) (.lit (.str [114,101,102]))))
  .nil) }
noncomputable def Abt:FnI:={ addr:=950,np:=2,dfl:=[],nv:=2,body :=
  (.cons (.ret (.ite (.cmp .eq (.item (.var 0) (.lit (.int 0))) (.lit (.str [114,101,102]))) (.tup (.cons (.lit (.str [100,101,114,101,102])) (.cons (.var 0) (.cons (.call 75 (.cons (.item (.var 0) (.lit (.int 3))) (.cons (.var 1) .nil))) .nil)))) (.var 1)))
  .nil) }
noncomputable def Ab1:FnI:={ addr:=957,np:=1,dfl:=[],nv:=1,body :=
  (.cons (.ret (.ite (.cmp .eq (.item (.var 0) (.lit (.int 0))) (.lit (.str [114,101,102]))) (.call 76 (.cons (.item (.var 0) (.lit (.int 3))) .nil)) (.var 0)))
  .nil) }
noncomputable def AbO:FnI:={ addr:=964,np:=4,dfl:=[],nv:=8,body :=
  (.cons (.asn (.n 4) (.cmp .eq (.call 70 (.cons (.var 0) (.cons (.lit (.int 3)) .nil))) (.lit (.int 0))))
  (.cons (.asn (.n 5) (.andor true (.cons (.cmp .eq (.var 2) (.lit (.str [109,111,118,101]))) (.cons (.cmp .eq (.call 70 (.cons (.var 0) (.cons (.lit (.int 3)) .nil))) (.lit (.int 0))) .nil))))
  (.cons (.asn (.n 6) (.ite (.var 5) (.ite (.var 4) (.lit (.str [109,117,116])) (.lit (.str [114,101,102]))) (.ite (.var 4) (.lit (.str [109,111,118,101])) (.var 2))))
  (.cons (.asn (.n 7) (.bin .add (.lit (.str [120])) (.bi .str (.cons (.bi .len (.cons (.var 3) .nil)) .nil))))
  (.cons (.ex (.bm .append (.var 3) (.cons (.vlist (.cons (.var 7) (.cons (.ite (.cmp .eq (.var 6) (.lit (.str [109,111,118,101]))) (.var 1) (.tup (.cons (.lit (.str [114,101,102])) (.cons (.lit .none) (.cons (.cmp .eq (.var 6) (.lit (.str [109,117,116]))) (.cons (.var 1) .nil)))))) (.cons (.andor true (.cons (.var 4) (.cons (.not (.var 5)) .nil))) .nil)))) .nil)))
  (.cons (.ret (.tup (.cons (.tup (.cons (.lit (.str [110,97,109,101])) (.cons (.lit (.int 1)) (.cons (.var 7) (.cons (.var 5) (.cons (.var 4) .nil)))))) (.cons (.tup (.cons (.bin .sub (.bi .len (.cons (.var 3) .nil)) (.lit (.int 1))) (.cons (.var 6) .nil))) .nil))))
  .nil)))))) }
noncomputable def Aao:FnI:={ addr:=969,np:=4,dfl:=[],nv:=15,body :=
  (.cons (.asn (.p [4,5]) (.tup (.cons (.call 76 (.cons (.var 1) .nil)) (.cons (.lpick (.cons (.tup (.cons (.lit (.int 5)) (.cons (.lit (.int 6)) .nil))) (.cons (.tup (.cons (.lit (.int 0)) (.cons (.lit (.int 255)) .nil))) .nil)) (.call 70 (.cons (.var 0) (.cons (.lit (.int 2)) .nil)))) .nil))))
  (.cons (.asn (.n 6) (.comp (.tup (.cons (.lit (.str [108,105,116])) (.cons (.lit (.int 1)) (.cons (.var 11) .nil)))) (.n 11) (.var 5)))
  (.cons (.asn (.n 7) (.comp (.call 75 (.cons (.var 1) (.cons (.tup (.cons (.lit (.str [99,111,110,115,116])) (.cons (.var 4) (.cons (.var 12) .nil)))) .nil))) (.n 12) (.var 5)))
  (.cons (.iff (.cmp .eq (.call 70 (.cons (.var 0) (.cons (.lit (.int 2)) .nil))) (.lit (.int 0))) (.cons (.asn (.q 8 [9,10]) (.call 77 (.cons (.var 0) (.cons (.var 1) (.cons (.var 2) (.cons (.var 3) .nil))))))
  (.cons (.asn (.n 6) (.comp (.bin .add (.var 8) (.tup (.cons (.var 13) .nil))) (.n 13) (.var 6)))
  (.cons (.asn (.n 7) (.comp (.tup (.cons (.lit (.str [98,105,110,100])) (.cons (.var 1) (.cons (.var 9) (.cons (.var 10) (.cons (.var 14) .nil)))))) (.n 14) (.var 7)))
  .nil))) .nil)
  (.cons (.ret (.tup (.cons (.tup (.cons (.lit (.str [111,114])) (.cons (.lit (.int 1)) (.cons (.bi .tuple (.cons (.var 6) .nil)) .nil)))) (.cons (.tup (.cons (.lit (.str [111,114])) (.cons (.var 1) (.cons (.bi .tuple (.cons (.var 7) .nil)) .nil)))) .nil))))
  .nil))))) }
noncomputable def f_law_drawn:FnI:={ addr:=976,np:=5,dfl:=[],nv:=11,body :=
  (.cons (.asn (.n 5) (.call 70 (.cons (.var 0) (.cons (.lit (.int 7)) .nil))))
  (.cons (.iff (.cmp .eq (.var 5) (.lit (.int 0))) (.cons (.ret (.tup (.cons (.tup (.cons (.lit (.str [119,105,108,100])) (.cons (.lit (.int 1)) .nil))) (.cons (.tup (.cons (.lit (.str [119,105,108,100])) (.cons (.var 1) .nil))) .nil))))
  .nil) .nil)
  (.cons (.iff (.andor false (.cons (.cmp .eq (.var 5) (.lit (.int 1))) (.cons (.cmp .le (.var 4) (.lit (.int 0))) .nil))) (.cons (.asn (.q 6 [7,8]) (.call 77 (.cons (.var 0) (.cons (.var 1) (.cons (.var 2) (.cons (.var 3) .nil))))))
  (.cons (.iff (.andor true (.cons (.cmp .eq (.var 5) (.lit (.int 2))) (.cons (.cmp .eq (.var 4) (.lit (.int 0))) .nil))) (.cons (.asn (.p [9,10]) (.call 79 (.cons (.var 0) (.cons (.var 1) (.cons (.var 2) (.cons (.var 3) (.cons (.neg 1) .nil)))))))
  (.cons (.ret (.tup (.cons (.bin .add (.var 6) (.tup (.cons (.var 9) .nil))) (.cons (.tup (.cons (.lit (.str [98,105,110,100])) (.cons (.var 1) (.cons (.var 7) (.cons (.var 8) (.cons (.var 10) .nil)))))) .nil))))
  .nil)) .nil)
  (.cons (.ret (.tup (.cons (.bin .add (.var 6) (.tup (.cons (.lit .none) .nil))) (.cons (.tup (.cons (.lit (.str [98,105,110,100])) (.cons (.var 1) (.cons (.var 7) (.cons (.var 8) (.cons (.lit .none) .nil)))))) .nil))))
  .nil))) .nil)
  (.cons (.iff (.andor true (.cons (.cmp .eq (.var 5) (.lit (.int 2))) (.cons (.cmp .eq (.call 76 (.cons (.var 1) .nil)) (.tup (.cons (.lit (.str [105,110,116])) (.cons (.lit (.str [117,56])) .nil)))) .nil))) (.cons (.ret (.call 78 (.cons (.var 0) (.cons (.var 1) (.cons (.var 2) (.cons (.var 3) .nil))))))
  .nil) .nil)
  (.cons (.iff (.andor true (.cons (.cmp .eq (.item (.var 1) (.lit (.int 0))) (.lit (.str [114,101,102]))) (.cons (.cmp .lt (.var 5) (.lit (.int 4))) .nil))) (.cons (.asn (.p [9,10]) (.call 79 (.cons (.var 0) (.cons (.item (.var 1) (.lit (.int 3))) (.cons (.lit (.str [109,111,118,101])) (.cons (.var 3) (.cons (.bin .sub (.var 4) (.lit (.int 1))) .nil)))))))
  (.cons (.ret (.tup (.cons (.tup (.cons (.lit (.str [114,101,102])) (.cons (.lit (.int 1)) (.cons (.item (.var 1) (.lit (.int 2))) (.cons (.var 9) .nil))))) (.cons (.tup (.cons (.lit (.str [100,101,114,101,102])) (.cons (.var 1) (.cons (.var 10) .nil)))) .nil))))
  .nil)) .nil)
  (.cons (.ret (.call 80 (.cons (.var 0) (.cons (.var 1) (.cons (.var 2) (.cons (.var 3) (.cons (.var 4) .nil)))))))
  .nil)))))) }
noncomputable def J7:FnI:={ addr:=981,np:=5,dfl:=[],nv:=14,body :=
  (.cons (.iff (.cmp .eq (.item (.var 1) (.lit (.int 0))) (.lit (.str [114,101,102]))) (.cons (.asn (.p [5,6]) (.call 80 (.cons (.var 0) (.cons (.item (.var 1) (.lit (.int 3))) (.cons (.call 74 (.cons (.var 2) (.cons (.item (.var 1) (.lit (.int 2))) .nil))) (.cons (.var 3) (.cons (.var 4) .nil)))))))
  (.cons (.ret (.tup (.cons (.var 5) (.cons (.tup (.cons (.lit (.str [100,101,114,101,102])) (.cons (.var 1) (.cons (.var 6) .nil)))) .nil))))
  .nil)) .nil)
  (.cons (.iff (.cmp .eq (.var 1) (.tup (.cons (.lit (.str [98,111,111,108])) .nil))) (.cons (.asn (.n 7) (.cmp .eq (.call 70 (.cons (.var 0) (.cons (.lit (.int 2)) .nil))) (.lit (.int 0))))
  (.cons (.ret (.tup (.cons (.tup (.cons (.lit (.str [108,105,116])) (.cons (.lit (.int 1)) (.cons (.var 7) .nil)))) (.cons (.tup (.cons (.lit (.str [99,111,110,115,116])) (.cons (.var 1) (.cons (.var 7) .nil)))) .nil))))
  .nil)) .nil)
  (.cons (.iff (.cmp .eq (.var 1) (.tup (.cons (.lit (.str [105,110,116])) (.cons (.lit (.str [117,56])) .nil)))) (.cons (.ret (.call 71 (.cons (.var 0) (.cons (.vlist (.cons (.tup (.cons (.tup (.cons (.lit (.str [108,105,116])) (.cons (.lit (.int 1)) (.cons (.lit (.int 9)) .nil)))) (.cons (.tup (.cons (.lit (.str [99,111,110,115,116])) (.cons (.var 1) (.cons (.lit (.int 9)) .nil)))) .nil))) (.cons (.tup (.cons (.tup (.cons (.lit (.str [114,97,110,103,101])) (.cons (.lit (.int 1)) (.cons (.lit (.int 3)) (.cons (.lit (.int 200)) .nil))))) (.cons (.tup (.cons (.lit (.str [114,97,110,103,101])) (.cons (.var 1) (.cons (.lit (.int 3)) (.cons (.lit (.int 200)) .nil))))) .nil))) (.cons (.tup (.cons (.tup (.cons (.lit (.str [110,97,109,101])) (.cons (.lit (.int 1)) (.cons (.lit (.str [75])) (.cons (.lit (.bool false)) (.cons (.lit (.bool false)) (.cons (.lit .none) .nil))))))) (.cons (.tup (.cons (.lit (.str [99,111,110,115,116])) (.cons (.var 1) (.cons (.lit (.int 7)) .nil)))) .nil))) .nil)))) .nil))))
  .nil) .nil)
  (.cons (.iff (.cmp .eq (.item (.var 1) (.lit (.int 0))) (.lit (.str [116,117,112,108,101]))) (.cons (.asn (.n 8) (.comp (.call 79 (.cons (.var 0) (.cons (.var 9) (.cons (.var 2) (.cons (.var 3) (.cons (.bin .sub (.var 4) (.lit (.int 1))) .nil)))))) (.n 9) (.item (.var 1) (.lit (.int 1)))))
  (.cons (.ret (.tup (.cons (.tup (.cons (.lit (.str [116,117,112,108,101])) (.cons (.lit (.int 1)) (.cons (.bi .tuple (.cons (.comp (.var 10) (.p [10,11]) (.var 8)) .nil)) .nil)))) (.cons (.tup (.cons (.lit (.str [102,105,101,108,100,115])) (.cons (.var 1) (.cons (.bi .tuple (.cons (.comp (.var 13) (.p [12,13]) (.var 8)) .nil)) .nil)))) .nil))))
  .nil)) .nil)
  (.cons (.ret (.call 81 (.cons (.var 0) (.cons (.var 1) (.cons (.var 2) (.cons (.var 3) (.cons (.var 4) .nil)))))))
  .nil))))) }
noncomputable def U0:FnI:={ addr:=988,np:=5,dfl:=[],nv:=12,body :=
  (.cons (.asn (.n 5) (.tup (.cons (.lit (.str [105,110,116])) (.cons (.lit (.str [117,56])) .nil))))
  (.cons (.iff (.cmp .eq (.item (.var 1) (.lit (.int 1))) (.lit (.str [83]))) (.cons (.asn (.p [6,7]) (.tup (.cons (.cmp .eq (.call 70 (.cons (.var 0) (.cons (.lit (.int 2)) .nil))) (.lit (.int 0))) (.cons (.tup (.cons (.tup (.cons (.lit (.str [83])) (.cons (.tup .nil) (.cons (.tup .nil) .nil)))) .nil)) .nil))))
  (.cons (.asn (.p [8,9]) (.call 79 (.cons (.var 0) (.cons (.tup (.cons (.lit (.str [98,111,111,108])) .nil)) (.cons (.var 2) (.cons (.var 3) (.cons (.bin .sub (.var 4) (.lit (.int 1))) .nil)))))))
  (.cons (.iff (.var 6) (.cons (.ret (.tup (.cons (.tup (.cons (.lit (.str [102,105,101,108,100,115])) (.cons (.lit (.int 1)) (.cons (.var 7) (.cons (.tup (.cons (.tup (.cons (.lit (.str [97])) (.cons (.var 8) .nil))) .nil)) (.cons (.lit (.bool true)) .nil)))))) (.cons (.tup (.cons (.lit (.str [102,105,101,108,100,115])) (.cons (.var 1) (.cons (.tup (.cons (.var 9) (.cons (.tup (.cons (.lit (.str [119,105,108,100])) (.cons (.var 5) .nil))) .nil))) .nil)))) .nil))))
  .nil) .nil)
  (.cons (.asn (.p [10,11]) (.call 79 (.cons (.var 0) (.cons (.var 5) (.cons (.var 2) (.cons (.var 3) (.cons (.bin .sub (.var 4) (.lit (.int 1))) .nil)))))))
  (.cons (.ret (.tup (.cons (.tup (.cons (.lit (.str [102,105,101,108,100,115])) (.cons (.lit (.int 1)) (.cons (.var 7) (.cons (.tup (.cons (.tup (.cons (.lit (.str [97])) (.cons (.var 8) .nil))) (.cons (.tup (.cons (.lit (.str [98])) (.cons (.var 10) .nil))) .nil))) (.cons (.lit (.bool false)) .nil)))))) (.cons (.tup (.cons (.lit (.str [102,105,101,108,100,115])) (.cons (.var 1) (.cons (.tup (.cons (.var 9) (.cons (.var 11) .nil))) .nil)))) .nil))))
  .nil))))) .nil)
  (.cons (.iff (.cmp .eq (.call 70 (.cons (.var 0) (.cons (.lit (.int 3)) .nil))) (.lit (.int 0))) (.cons (.ret (.tup (.cons (.tup (.cons (.lit (.str [110,97,109,101])) (.cons (.lit (.int 1)) (.cons (.lit (.str [80])) (.cons (.lit (.bool false)) (.cons (.lit (.bool false)) (.cons (.lit .none) .nil))))))) (.cons (.tup (.cons (.lit (.str [118,97,114,105,97,110,116])) (.cons (.var 1) (.cons (.lit (.int 0)) (.cons (.tup .nil) .nil))))) .nil))))
  .nil) .nil)
  (.cons (.asn (.p [8,9]) (.call 79 (.cons (.var 0) (.cons (.item (.item (.var 1) (.lit (.int 3))) (.lit (.int 0))) (.cons (.var 2) (.cons (.var 3) (.cons (.bin .sub (.var 4) (.lit (.int 1))) .nil)))))))
  (.cons (.asn (.p [10,11]) (.call 79 (.cons (.var 0) (.cons (.var 5) (.cons (.var 2) (.cons (.var 3) (.cons (.bin .sub (.var 4) (.lit (.int 1))) .nil)))))))
  (.cons (.ret (.tup (.cons (.tup (.cons (.lit (.str [118,97,114,105,97,110,116])) (.cons (.lit (.int 1)) (.cons (.tup (.cons (.tup (.cons (.lit (.str [69])) (.cons (.tup .nil) (.cons (.tup .nil) .nil)))) (.cons (.tup (.cons (.lit (.str [81])) (.cons (.tup .nil) (.cons (.tup .nil) .nil)))) .nil))) (.cons (.tup (.cons (.var 8) (.cons (.var 10) .nil))) .nil))))) (.cons (.tup (.cons (.lit (.str [118,97,114,105,97,110,116])) (.cons (.var 1) (.cons (.lit (.int 1)) (.cons (.tup (.cons (.var 9) (.cons (.var 11) .nil))) .nil))))) .nil))))
  .nil)))))) }
noncomputable def Agd:FnI:={ addr:=995,np:=0,dfl:=[],nv:=9,body :=
  (.cons (.asn (.p [0,1]) (.tup (.cons (.tup (.cons (.lit (.str [105,110,116])) (.cons (.lit (.str [117,56])) .nil))) (.cons (.tup (.cons (.lit (.str [119,105,108,100])) (.cons (.lit (.int 1)) .nil))) .nil))))
  (.cons (.asn (.n 2) (.tup (.cons (.lit (.str [116,117,112,108,101])) (.cons (.tup (.cons (.var 0) (.cons (.var 0) .nil))) .nil))))
  (.cons (.asn (.p [3,4,5]) (.tup (.cons (.tup (.cons (.lit (.str [110,97,109,101])) (.cons (.lit (.int 1)) (.cons (.lit (.str [120])) (.cons (.lit (.bool false)) (.cons (.lit (.bool false)) (.cons (.lit .none) .nil))))))) (.cons (.tup (.cons (.lit (.str [110,97,109,101])) (.cons (.lit (.int 1)) (.cons (.lit (.str [121])) (.cons (.lit (.bool true)) (.cons (.lit (.bool false)) (.cons (.lit .none) .nil))))))) (.cons (.tup (.cons (.tup (.cons (.lit (.str [83])) (.cons (.tup .nil) (.cons (.tup .nil) .nil)))) .nil)) .nil)))))
  (.cons (.asn (.n 6) (.vlist (.cons (.tup (.cons (.tup (.cons (.lit (.str [116,117,112,108,101])) (.cons (.lit (.int 1)) (.cons (.tup (.cons (.var 3) (.cons (.var 3) .nil))) .nil)))) (.cons (.var 2) .nil))) (.cons (.tup (.cons (.tup (.cons (.lit (.str [116,117,112,108,101])) (.cons (.lit (.int 1)) (.cons (.tup (.cons (.var 4) (.cons (.var 1) .nil))) .nil)))) (.cons (.tup (.cons (.lit (.str [114,101,102])) (.cons (.lit .none) (.cons (.lit (.bool true)) (.cons (.var 2) .nil))))) .nil))) .nil))))
  (.cons (.asn (.n 6) (.bin .addm (.var 6) (.vlist (.cons (.tup (.cons (.tup (.cons (.lit (.str [116,117,112,108,101])) (.cons (.lit (.int 1)) (.cons (.tup (.cons (.var 1) .nil)) .nil)))) (.cons (.var 2) .nil))) (.cons (.tup (.cons (.tup (.cons (.lit (.str [114,97,110,103,101])) (.cons (.lit (.int 1)) (.cons (.lit (.int 9)) (.cons (.lit (.int 8)) .nil))))) (.cons (.var 0) .nil))) .nil)))))
  (.cons (.ex (.bm .append (.var 6) (.cons (.tup (.cons (.tup (.cons (.lit (.str [114,101,102])) (.cons (.lit (.int 1)) (.cons (.lit (.bool true)) (.cons (.var 1) .nil))))) (.cons (.tup (.cons (.lit (.str [114,101,102])) (.cons (.lit .none) (.cons (.lit (.bool false)) (.cons (.var 0) .nil))))) .nil))) .nil)))
  (.cons (.asn (.p [7,8]) (.tup (.cons (.tup (.cons (.lit (.str [97,100,116])) (.cons (.lit (.str [83])) (.cons (.tup .nil) (.cons (.tup .nil) .nil))))) (.cons (.tup (.cons (.lit (.str [111,114])) (.cons (.lit (.int 1)) (.cons (.tup (.cons (.var 3) (.cons (.var 1) .nil))) .nil)))) .nil))))
  (.cons (.asn (.n 6) (.bin .addm (.var 6) (.vlist (.cons (.tup (.cons (.tup (.cons (.lit (.str [102,105,101,108,100,115])) (.cons (.lit (.int 1)) (.cons (.var 5) (.cons (.tup (.cons (.tup (.cons (.lit (.str [97])) (.cons (.var 1) .nil))) .nil)) (.cons (.lit (.bool false)) .nil)))))) (.cons (.var 7) .nil))) (.cons (.tup (.cons (.var 8) (.cons (.var 0) .nil))) .nil)))))
  (.cons (.ex (.bm .append (.var 6) (.cons (.tup (.cons (.tup (.cons (.lit (.str [102,105,101,108,100,115])) (.cons (.lit (.int 1)) (.cons (.var 5) (.cons (.tup (.cons (.tup (.cons (.lit (.str [99])) (.cons (.var 1) .nil))) .nil)) (.cons (.lit (.bool true)) .nil)))))) (.cons (.var 7) .nil))) .nil)))
  (.cons (.ex (.bm .append (.var 6) (.cons (.tup (.cons (.tup (.cons (.lit (.str [102,105,101,108,100,115])) (.cons (.lit (.int 1)) (.cons (.var 5) (.cons (.tup (.cons (.tup (.cons (.lit (.str [97])) (.cons (.var 1) .nil))) (.cons (.tup (.cons (.lit (.str [97])) (.cons (.var 1) .nil))) .nil))) (.cons (.lit (.bool true)) .nil)))))) (.cons (.var 7) .nil))) .nil)))
  (.cons (.ex (.bm .append (.var 6) (.cons (.tup (.cons (.tup (.cons (.lit (.str [118,97,114,105,97,110,116])) (.cons (.lit (.int 1)) (.cons (.tup (.cons (.tup (.cons (.lit (.str [69])) (.cons (.tup .nil) (.cons (.tup .nil) .nil)))) (.cons (.tup (.cons (.lit (.str [81])) (.cons (.tup .nil) (.cons (.tup .nil) .nil)))) .nil))) (.cons (.tup (.cons (.var 1) .nil)) .nil))))) (.cons (.tup (.cons (.lit (.str [97,100,116])) (.cons (.lit (.str [69])) (.cons (.tup .nil) (.cons (.tup (.cons (.var 0) .nil)) .nil))))) .nil))) .nil)))
  (.cons (.ret (.var 6))
  .nil)))))))))))) }
noncomputable def Ads:FnI:={ addr:=1002,np:=2,dfl:=[],nv:=2,body :=
  (.cons (.try (.cons (.ex (.call 26 (.cons (.call 72 .nil) (.cons (.var 0) (.cons (.var 1) (.cons (.lit (.str [109,111,118,101])) .nil))))))
  .nil) 4 (.ret (.bool true)))
  (.cons .stuck
  .nil)) }
noncomputable def f_law:FnI:={ addr:=1007,np:=1,dfl:=[],nv:=10,body :=
  (.cons (.asn (.n 1) (.call 69 (.cons (.var 0) (.cons (.mlist (.cons (.lit (.int 5)) (.cons (.lit (.int 6)) (.cons (.lit (.int 3)) (.cons (.lit (.int 0)) (.cons (.lit (.int 5)) (.cons (.lit (.int 1)) (.cons (.lit (.int 2)) (.cons (.lit (.int 1)) (.cons (.lit (.int 2)) (.cons (.lit (.int 0)) .nil))))))))))) .nil))))
  (.cons (.asn (.p [2,3,4]) (.tup (.cons (.call 73 (.cons (.var 1) (.cons (.lit (.int 3)) .nil))) (.cons (.mlist .nil) (.cons (.call 72 .nil) .nil)))))
  (.cons (.asn (.p [5,6]) (.call 79 (.cons (.var 1) (.cons (.var 2) (.cons (.lit (.str [109,111,118,101])) (.cons (.var 3) (.cons (.lit (.int 3)) .nil)))))))
  (.cons (.iff (.andor false (.cons (.cmp .ne (.call 26 (.cons (.var 4) (.cons (.var 5) (.cons (.var 2) (.cons (.lit (.str [109,111,118,101])) .nil))))) (.var 6)) (.cons (.cmp .ne (.comp (.bi .list (.cons (.var 9) .nil)) (.n 9) (.attr (.var 4) 39)) (.var 3)) .nil))) (.cons .stuck
  .nil) .nil)
  (.cons (.asn (.p [7,8]) (.call 71 (.cons (.var 1) (.cons (.fresh 82 .nil) .nil))))
  (.cons (.ret (.fresh 83 (.cons (.var 7) (.cons (.var 8) .nil))))
  .nil)))))) }
noncomputable def clsT:List ClsI:=[
 { addr:=39,init:=0,meths:=[],isExc:=true },
 { addr:=52,init:=0,meths:=[],isExc:=true },
 { addr:=64,init:=0,meths:=[],isExc:=true },
 { addr:=76,init:=0,meths:=[],isExc:=true },
 { addr:=88,init:=0,meths:=[],isExc:=true },
 { addr:=270,init:=7,meths:=[(19,8),(11,9),(7,10),(17,11),(16,12),(18,13),(8,14),(9,15),(12,16),(13,17),(14,18),(23,19),(15,20),(26,21),(27,22)],isExc:=false },
 { addr:=381,init:=27,meths:=[(45,28),(30,29),(10,30),(31,31),(32,32),(33,33),(21,34)],isExc:=false },
 { addr:=637,init:=35,meths:=[(45,36),(10,37),(21,38),(46,39),(22,40),(49,41),(24,42),(50,43),(20,44),(48,45)],isExc:=false },
 { addr:=693,init:=50,meths:=[],isExc:=false },
 { addr:=726,init:=51,meths:=[(61,52),(71,53)],isExc:=false },
 { addr:=845,init:=54,meths:=[(67,55),(22,56),(69,57),(70,58),(68,59),(76,60),(51,61),(72,62),(73,63),(74,64),(75,65),(77,66)],isExc:=false },
 { addr:=868,init:=67,meths:=[],isExc:=false },
 { addr:=897,init:=68,meths:=[],isExc:=false }]
noncomputable def fnT:List FnI:=[Agq,AgZ,AdL,AcL,AjE,Aef,Ae1,Aa0,AaV,Aa4,Aar,AaK,Aas,X5,Y4,Aaz,U5,Aac,Aad,Aae,U7,Aaq,J5,AaX,AdG,Acu,Act,AdT,Adu,Z2,Y5,Aat,AaU,AbV,W3,AcN,Aco,Abs,Acd,Abb,AbB,Abn,Aa1,Aa2,Aa3,AaM,Agf,Adv,AjD,AeG,AgH,Aeq,Adk,Ab2,AcW,Acm,AbK,AaL,AaF,Abe,AbW,AcJ,AcO,AcB,AcX,AcT,Ab3,Agh,Aeg,AbT,AaA,AcH,AdO,AaE,AdZ,Abt,Ab1,AbO,Aao,f_law_drawn,J7,U0,Agd,Ads,f_law]
noncomputable def tab:Tab:=⟨clsT,fnT⟩
noncomputable def attrN:List (List Nat):=[[97,100,116,115],[118,97,114,105,97,110,116,115],[112,97,114,97,109,115],[114,101,103,105,111,110,115],[99,104,101,99,107,101,114],[107,110,111,119,110],[104,101,114,101],[114,101,97,100,95,110,97,109,101],[114,101,97,100,95,111,114],[114,101,97,100,95,114,101,102],[114,101,115,111,108,118,101,100],[114,101,97,100],[108,105,116,101,114,97,108,95,116,121,112,101],[114,101,97,100,95,114,97,110,103,101],[114,101,97,100,95,116,117,112,108,101],[114,101,97,100,95,118,97,114,105,97,110,116],[114,101,97,100,95,116,111,108,100],[119,97,121,95,111,102],[98,111,117,110,100],[102,97,117,108,116],[118,97,108,117,101,95,112,97,116,104],[117,110,105,102,121],[100,101,99,108,97,114,101],[114,101,97,100,95,112,97,114,116,115],[118,97,114,105,97,110,116,95,111,102],[119,111,114,108,100],[98,121,95,112,108,97,99,101,115],[98,121,95,110,97,109,101,115],[105,115,95,101,110,117,109],[105,115,95,110,117,109,98,101,114],[115,104,97,108,108,111,119],[111,99,99,117,114,115],[98,105,110,100],[97,114,101,95,97,108,105,107,101],[109,111,100,117,108,101],[115,101,108,102,95,116,121,112,101],[98,111,117,110,100,115],[114,101,97,100,101,114],[105,110,102,101,114],[108,111,99,97,108,115],[115,99,111,112,101,115],[108,111,111,112,115],[109,97,110,121,95,108,111,111,112,115],[111,119,101,100],[114,101,115,117,108,116],[102,114,101,115,104],[110,101,119,95,108,111,99,97,108],[116,121,112,101,120],[118,97,114,105,97,110,116,95,112,97,116,104],[97,100,116,95,116,121,112,101],[116,121,112,101,115,95,116,111,108,100],[102,105,110,100],[109,111,100,117,108,101,115],[99,111,110,115,116,115],[115,116,97,114,116,115,119,105,116,104],[110,97,109,101,115],[105,115,95,112,117,98],[115,112,111,116],[116,121,112,101,115],[118,97,108,117,101,115],[117,115,101,115],[115,112,97,99,101],[107,105,110,100,115],[112,117,98,108,105,99,115],[116,97,98,108,101,115],[103,101,110,101,114,105,99,115],[105,116,101,109,115],[101,110,116,101,114],[101,110,116,101,114,95,117,115,101],[100,101,99,108,97,114,101,95,116,121,112,101],[101,110,116,101,114,95,118,97,114,105,97,110,116,115],[105,115,95,116,97,107,101,110],[119,97,108,107],[98,101,103,105,110],[115,116,101,112],[108,111,111,107],[99,97,110,95,115,101,101],[102,111,108,108,111,119],[112,97,116,104],[115,105,103,115],[116,114,97,105,116,115],[105,109,112,108,115],[98,111,100,105,101,115]]
noncomputable def dataN:List Nat:=[0,1,2,3,4,5,6,25,28,29,34,35,36,37,38,39,40,41,42,43,44,52,53,55,56,57,58,59,60,62,63,64,65,66,78,79,80,81,82]
noncomputable def varN:List (List (List Nat)):=[
 [[116,111,108,100],[107,105,110,100]],
 [[116,111,108,100],[112,97,114,116,115],[107,105,110,100]],
 [[116,111,108,100],[116,97,98,108,101],[112,97,114,116]],
 [[116,111,108,100],[99,104,97,110,103,101],[112,97,114,116]],
 [[116,111,108,100]],
 [[116,111,108,100],[118,97,114,105,97,110,116],[119,111,114,108,100]],
 [[116,111,108,100],[118,97,114,105,97,110,116],[119,111,114,108,100],[97,100,116],[116,121,112,101,115],[114,101,103,105,111,110,115],[112,117,116,95,105,110],[110,97,109,101],[112,97,114,116]],
 [[115,101,108,102],[99,104,101,99,107,101,114]],
 [[115,101,108,102],[109,101,115,115,97,103,101],[115,112,111,116]],
 [[115,101,108,102],[112,97,116,116,101,114,110],[116],[109,111,100,101],[107,105,110,100],[115,112,111,116],[104,101,114,101]],
 [[115,101,108,102],[112,97,116,116,101,114,110],[116],[109,111,100,101],[119,111,114,100],[115,112,111,116],[110,97,109,101],[105,115,95,114,101,102],[105,115,95,109,117,116],[105,110,110,101,114],[116,111,108,100],[119,97,121],[104,101,108,100],[108,111,99,97,108],[98,101,104,105,110,100]],
 [[115,101,108,102],[105,115,95,114,101,102],[105,115,95,109,117,116],[109,111,100,101],[115,112,111,116]],
 [[115,101,108,102],[110,97,109,101],[115,112,111,116],[116],[109,111,100,101],[116,111,108,100]],
 [[115,101,108,102],[110,97,109,101],[116],[105,115,95,109,117,116],[119,97,121],[115,112,111,116],[108,111,99,97,108],[104,101,108,100],[111,116,104,101,114],[111,116,104,101,114,95,109,117,116]],
 [[115,101,108,102],[112,97,116,116,101,114,110],[116],[109,111,100,101],[107,110,111,119,110],[104,101,114,101],[112,97,114,116,115],[102,105,114,115,116],[112,97,114,116]],
 [[115,101,108,102],[112,97,116,116,101,114,110],[116],[119,111,114,100],[115,112,111,116],[105,115,95,109,117,116],[105,110,110,101,114],[104,101,114,101]],
 [[115,101,108,102],[118,97,108,117,101],[116],[115,112,111,116]],
 [[115,101,108,102],[112,97,116,116,101,114,110],[116],[119,111,114,100],[115,112,111,116],[108,111,119],[104,105,103,104],[116,111,108,100]],
 [[115,101,108,102],[112,97,116,116,101,114,110],[116],[109,111,100,101],[112,97,114,116,115],[116,111,108,100]],
 [[115,101,108,102],[112,97,114,116,115],[116,121,112,101,115],[109,111,100,101],[112,97,114,116],[116]],
 [[115,101,108,102],[112,97,116,116,101,114,110],[116],[109,111,100,101],[107,105,110,100],[115,112,111,116],[116,111,108,100],[110,117,109,98,101,114],[111,119,110],[119,111,114,108,100],[97,100,116],[102,111,114,109],[102,105,101,108,100,115],[116,121,112,101,115],[112,97,114,116,115],[114,101,97,100],[102,105,101,108,100]],
 [[115,101,108,102],[112,97,116,116,101,114,110],[102,111,114,109],[102,105,101,108,100,115]],
 [[115,101,108,102],[112,97,116,116,101,114,110],[102,105,101,108,100,115],[119,111,114,100],[115,112,111,116],[112,97,116,104],[116,111,108,100],[104,97,115,95,114,101,115,116],[102,111,117,110,100],[110,97,109,101],[112,97,114,116],[112,97,114,116,115],[116]],
 [[107,110,111,119,110],[102,105,114,115,116],[102,111,117,110,100]],
 [[109,111,100,101],[105,115,95,109,117,116]],
 [[99,104,101,99,107,101,114],[116],[104,101,114,101]],
 [[99,104,101,99,107,101,114],[112,97,116,116,101,114,110],[116],[109,111,100,101]],
 [[115,101,108,102]],
 [[115,101,108,102]],
 [[115,101,108,102],[116,111,108,100]],
 [[115,101,108,102],[116,111,108,100],[112,97,114,116]],
 [[115,101,108,102],[117,110,107,110,111,119,110],[116,111,108,100],[108,101,102,116],[104,101,114,101]],
 [[115,101,108,102],[117,110,107,110,111,119,110],[116,111,108,100]],
 [[115,101,108,102],[111,110,101],[111,116,104,101,114]],
 [[115,101,108,102],[111,110,101],[111,116,104,101,114],[108,101,102,116],[104,101,114,101],[116,104,101,114,101],[116,111,108,100]],
 [[115,101,108,102],[119,111,114,108,100],[109,111,100,117,108,101],[115,101,108,102,95,116,121,112,101],[98,111,117,110,100,115],[114,101,97,100,101,114]],
 [[115,101,108,102]],
 [[115,101,108,102],[116,111,108,100]],
 [[115,101,108,102],[111,110,101],[111,116,104,101,114],[115,112,111,116]],
 [[115,101,108,102],[110,97,109,101],[116,111,108,100],[105,115,95,109,117,116]],
 [[115,101,108,102],[110,97,109,101],[116,111,108,100],[105,115,95,109,117,116],[115,112,111,116],[110,117,109,98,101,114]],
 [[115,101,108,102],[112,97,116,104],[116,111,108,100],[97,100,116],[116,121,112,101,115],[119,114,105,116,116,101,110],[110,97,109,101]],
 [[115,101,108,102],[115,112,111,116],[115,112,97,116,104],[112,97,116,104],[111,119,110,101,114],[110,117,109,98,101,114]],
 [[115,101,108,102],[111,119,110,101,114],[115,112,97,116,104],[116,111,108,100]],
 [[115,101,108,102],[115,112,97,116,104],[115,112,111,116],[112,97,116,104],[111,119,110,101,114],[110,117,109,98,101,114],[107,105,110,100],[116,111,108,100],[109,97,100,101],[109,111,100,117,108,101]],
 [[115,101,108,102],[115,112,111,116],[110,97,109,101,115],[115,112,97,99,101],[112,97,116,104]],
 [[115,112,97,116,104],[110,97,109,101],[114,101,103,105,111,110,115],[116,121,112,101,115]],
 [[109,97,100,101]],
 [[109,111,100,117,108,101],[110,97,109,101]],
 [[109,111,100,117,108,101],[111,119,110,101,114]],
 [[115,101,108,102],[110,97,109,101,115],[105,115,95,112,117,98],[115,112,111,116]],
 [[115,101,108,102]],
 [[115,101,108,102],[115,112,97,99,101]],
 [[115,101,108,102],[110,97,109,101],[115,112,97,99,101,115],[115,112,97,99,101]],
 [[115,101,108,102],[105,116,101,109,115],[108,101,102,116],[109,111,100,117,108,101],[105,110,110,101,114],[105,116,101,109]],
 [[115,101,108,102],[109,111,100,117,108,101],[105,116,101,109],[107,105,110,100],[115,112,111,116],[115,112,97,99,101,115]],
 [[115,101,108,102],[109,111,100,117,108,101],[110,97,109,101],[107,105,110,100],[115,112,97,99,101,115],[105,115,95,112,117,98],[115,112,111,116],[116,97,98,108,101],[112,97,116,104],[115,112,97,99,101]],
 [[115,101,108,102],[109,111,100,117,108,101],[105,116,101,109],[115,112,97,99,101,115],[105,115,95,112,117,98],[112,97,116,104],[114,101,103,105,111,110,115],[112,97,114,97,109,115],[114,111,119]],
 [[115,101,108,102],[112,97,116,104],[105,116,101,109],[114,111,119]],
 [[115,101,108,102],[109,111,100,117,108,101],[105,116,101,109],[115,112,111,116],[110,97,109,101,115],[97,108,105,97,115],[105,115,95,112,117,98],[110,97,109,101],[116,97,98,108,101]],
 [[115,101,108,102],[97,115,107,101,114],[111,119,110,101,114],[105,115,95,112,117,98]],
 [[115,101,108,102],[109,111,100,117,108,101],[110,97,109,101,115],[115,112,97,99,101],[115,112,111,116]],
 [[115,101,108,102],[109,111,100,117,108,101],[110,97,109,101,115],[115,112,97,99,101],[115,112,111,116],[115,101,101,110],[104,101,114,101],[97,116],[119,97,110,116,101,100],[102,111,117,110,100]],
 [[115,101,108,102],[109,111,100,117,108,101],[110,97,109,101,115],[115,112,111,116],[104,101,114,101],[97,116]],
 [[115,101,108,102],[109,111,100,117,108,101],[104,101,114,101],[110,97,109,101],[115,112,97,99,101],[115,112,111,116],[115,101,101,110],[102,111,117,110,100]],
 [[115,101,108,102],[97,115,107,101,114],[111,119,110,101,114],[110,97,109,101],[115,112,97,99,101],[115,112,111,116],[115,101,101,110],[112,97,116,104],[116,97,98,108,101],[117,115,101]],
 [[115,101,108,102],[111,119,110,101,114],[110,97,109,101],[117,115,101],[115,112,97,99,101],[115,101,101,110]],
 [[115,101,108,102],[112,97,116,104],[114,101,103,105,111,110,115],[112,97,114,97,109,115],[118,97,114,105,97,110,116,115],[105,115,95,101,110,117,109],[109,111,100,117,108,101],[112,117,98,108,105,99,115]],
 [[115,101,108,102],[109,111,100,117,108,101,115]],
 [[115,99,114,105,112,116],[114,111,119],[99,101,108,108],[98,105,103],[109,105,120,101,100]],
 [[115,111,117,114,99,101],[116,111,112],[100,114,97,119,110]],
 [[115,111,117,114,99,101],[116,104,105,110,103,115]],
 [[98,121,116,101],[110,111,110,101],[114,111,119,115],[105,116,101,109,115],[119,111,114,108,100]],
 [[115,111,117,114,99,101],[100,101,101,112],[119,97,121],[105,110,110,101,114]],
 [[109,111,100,101],[105,115,95,109,117,116]],
 [[116],[116,121,112,101,100]],
 [[116]],
 [[115,111,117,114,99,101],[116],[109,111,100,101],[114,111,119,115],[105,115,95,109,117,116],[105,115,95,114,101,102],[119,97,121],[110,97,109,101]],
 [[115,111,117,114,99,101],[116],[109,111,100,101],[114,111,119,115],[98,121,116,101],[115,111,109,101],[112,97,114,116,115],[116,121,112,101,100],[110,97,109,101],[108,111,99,97,108],[119,97,121],[118,97,108,117,101],[118,97,108,117,101],[112,97,114,116],[112,97,114,116]],
 [[115,111,117,114,99,101],[116],[109,111,100,101],[114,111,119,115],[100,101,101,112],[119,97,121],[110,97,109,101],[108,111,99,97,108],[98,111,117,110,100],[105,110,110,101,114],[116,121,112,101,100]],
 [[115,111,117,114,99,101],[116],[109,111,100,101],[114,111,119,115],[100,101,101,112],[105,110,110,101,114],[116,121,112,101,100],[118,97,108,117,101],[116,111,108,100],[111,110,101],[111,110,101],[116,121,112,101,100],[111,110,101],[116,121,112,101,100]],
 [[115,111,117,114,99,101],[116],[109,111,100,101],[114,111,119,115],[100,101,101,112],[98,121,116,101],[104,97,115,95,114,101,115,116],[112,97,116,104],[97],[102,105,114,115,116],[98],[111,116,104,101,114]],
 [[98,121,116,101],[119,105,108,100],[112,97,105,114],[110,97,109,101],[112,108,97,105,110,95,104,101,114,101],[112,97,116,104],[102,111,117,110,100],[115],[111,100,100]],
 [[112,97,116,116,101,114,110],[116]],
 [[115,99,114,105,112,116],[115,111,117,114,99,101],[116],[114,111,119,115],[99,104,101,99,107,101,114],[112,97,116,116,101,114,110],[116,121,112,101,100],[111,100,100],[104,101,108,100],[114,111,119]]]
end Mine
end
section
namespace Mine
noncomputable abbrev Wt {β:Sort u}(_:β):Type:=Unit
@[irreducible] noncomputable def Er {α:Type} (r:Rw α) (Q:α→Hp→Prop) (X:Nat→Hp→Prop):Prop:=r Q X
noncomputable def lo0:Prop:=(fun _=>False) (@Er)
@[irreducible] noncomputable def Ev {α:Type} (r:Rw α) (Q:α→Hp→Prop) (X:Nat→Hp→Prop) (_:Wt Q:=()):Prop:=(fun (_:Prop)=>r Q X) lo0
noncomputable abbrev ST (α:Type):=Ve→Hp→(α→Hp→Prop)→(Nat→Hp→Prop)→Prop
noncomputable abbrev SS:=Ve→Hp→(Fl→Ve→Hp→Prop)→(Nat→Ve→Hp→Prop)→Prop
theorem AkN {α:Type}{r:Rw α}{Q:α→Hp→Prop}{X:Nat→Hp→Prop}(k:r Q X):Ev r Q X:=by unfold Ev;exact k
theorem Abk {α:Type}{r:Rw α}{Q:α→Hp→Prop}{X:Nat→Hp→Prop}(k:Ev r Q X):r Q X:=by unfold Ev at k;exact k
theorem er {α:Type}{r:Rw α}{Q:α→Hp→Prop}{X:Nat→Hp→Prop}(k:Ev r Q X):Er r Q X:=by unfold Er;exact Abk k
theorem AlF {α:Type}{r:Rw α}{Q:α→Hp→Prop}{X:Nat→Hp→Prop}(k:Er r Q X):Ev r Q X:=by unfold Er at k;exact AkN k
noncomputable def lo:Prop:=(fun _=>False) (@Ev)
noncomputable def br0 (d:D)(P R:Prop):Prop:=@D.casesOn (fun _=>Prop) d lo (fun b=>@Bool.casesOn (fun _=>Prop) b R P) (fun _=>lo) (fun _=>lo) (fun _=>lo) (fun _=>lo) (fun _=>lo) lo
noncomputable def AgI {α:Type}(o:Option α)(K:α→Prop):Prop:=@Option.casesOn α (fun _=>Prop) o lo K
noncomputable def lpK0 (f:Fl)(P R:Prop):Prop:=@Fl.casesOn (fun _=>Prop) f P P fun _=>(fun _=>R) lo
noncomputable def cm0 (h:Hp)(Q:List D→Hp→Prop):Prop:=(fun (_:Prop)=>Q [] h) lo
noncomputable def cm1 (s:ST D)(t:Tg)(ρ:Ve)(X:Nat→Hp→Prop)(d:D)(_:List D)(ih:Hp→(List D→Hp→Prop)→Prop)(h:Hp)(Q:List D→Hp→Prop):Prop:=AgI (t.set d ρ) fun ρ'=>s ρ' h (fun x h1=>ih h1 (fun xs h2=>Q (x::xs) h2)) X
noncomputable def cmpL (s:ST D)(t:Tg)(ρ:Ve)(ds:List D)(h:Hp)(Q:List D→Hp→Prop)(X:Nat→Hp→Prop)(_:Wt (s,Q):=()):Prop :=
 @List.rec D (fun _=>Hp→(List D→Hp→Prop)→Prop) cm0 (cm1 s t ρ X) ds h Q
noncomputable def wh0 (_:Ve)(_:Hp):Prop:=lo
noncomputable def wh1 (c:ST D)(b:SS)(Q:Fl→Ve→Hp→Prop)(X:Nat→Ve→Hp→Prop)(_:Nat)(ih:Ve→Hp→Prop)(ρ:Ve)(h:Hp):Prop:=c ρ h (fun d h1=>br0 d (b ρ h1 (fun f ρ' h2=>lpK0 f (ih ρ' h2) (Q f ρ' h2)) X) (Q .nx ρ h1)) (fun c h1=>X c ρ h1)
noncomputable def whL (c:ST D)(b:SS)(k:Nat)(ρ:Ve)(h:Hp)(Q:Fl→Ve→Hp→Prop)(X:Nat→Ve→Hp→Prop)(_:Wt (c,b,Q):=()):Prop :=
 @Nat.rec (fun _=>Ve→Hp→Prop) wh0 (wh1 c b Q X) k ρ h
noncomputable def fr0 (Q:Fl→Ve→Hp→Prop)(ρ:Ve)(h:Hp):Prop:=(fun (_:Prop)=>Q .nx ρ h) lo
noncomputable def fr1 (t:Tg)(b:SS)(Q:Fl→Ve→Hp→Prop)(X:Nat→Ve→Hp→Prop)(d:D)(_:List D)(ih:Ve→Hp→Prop)(ρ:Ve)(h:Hp):Prop:=AgI (t.set d ρ) fun ρ1=>b ρ1 h (fun f ρ' h2=>lpK0 f (ih ρ' h2) (Q f ρ' h2)) X
noncomputable def frL (t:Tg)(b:SS)(ds:List D)(ρ:Ve)(h:Hp)(Q:Fl→Ve→Hp→Prop)(X:Nat→Ve→Hp→Prop)(_:Wt (b,Q):=()):Prop :=
 @List.rec D (fun _=>Ve→Hp→Prop) (fr0 Q) (fr1 t b Q X) ds ρ h
noncomputable def ct1 (s c:ST D)(t:Tg)(ρ:Ve)(X:Nat→Hp→Prop)(d:D)(_:List D)(ih:Hp→(List D→Hp→Prop)→Prop)(h:Hp)(Q:List D→Hp→Prop):Prop :=
 AgI (t.set d ρ) fun ρ'=>c ρ' h (fun b h1=>br0 b (s ρ' h1 (fun x h2=>ih h2 (fun xs h3=>Q (x::xs) h3)) X) (ih h1 Q)) X
noncomputable def cmtL (s c:ST D)(t:Tg)(ρ:Ve)(ds:List D)(h:Hp)(Q:List D→Hp→Prop)(X:Nat→Hp→Prop)(_:Wt (s,c,Q):=()):Prop :=
 @List.rec D (fun _=>Hp→(List D→Hp→Prop)→Prop) cm0 (ct1 s c t ρ X) ds h Q
noncomputable def ca0 (_:Nat)(_:Hp)(_:List D→Hp→Prop):Prop:=lo
noncomputable def caN (h:Hp)(l:Nat)(K:List D→Prop):Prop:=AgI h[l]? fun o=>@AO.casesOn (fun _=>Prop) o K (fun _=>lo) (fun _ _=>lo) lo
noncomputable def ca1 (s:ST D)(t:Tg)(ρ:Ve)(l:Nat)(X:Nat→Hp→Prop)(_:Nat)(ih:Nat→Hp→(List D→Hp→Prop)→Prop)(i:Nat)(h:Hp)(Q:List D→Hp→Prop):Prop :=
 caN h l fun ds=>@Option.casesOn D (fun _=>Prop) ds[i]? (Q [] h) fun d=>AgI (t.set d ρ) fun ρ'=>s ρ' h (fun x h1=>ih (i+1) h1 (fun xs h2=>Q (x::xs) h2)) X
noncomputable def cmaL (s:ST D)(t:Tg)(ρ:Ve)(l:Nat)(n i:Nat)(h:Hp)(Q:List D→Hp→Prop)(X:Nat→Hp→Prop)(_:Wt (s,Q):=()):Prop :=
 @Nat.rec (fun _=>Nat→Hp→(List D→Hp→Prop)→Prop) ca0 (ca1 s t ρ l X) n i h Q
noncomputable def hi:Prop:=(fun _=>False) (@whL,@frL,@cmpL,@cmtL,@cmaL)
noncomputable def br (d:D)(P R:Prop)(_:Wt (P,R):=()):Prop:=@D.casesOn (fun _=>Prop) d hi (fun b=>@Bool.casesOn (fun _=>Prop) b R P) (fun _=>hi) (fun _=>hi) (fun _=>hi) (fun _=>hi) (fun _=>hi) hi
noncomputable def J9 {α:Type}(o:Option α)(K:α→Prop)(_:Wt K:=()):Prop:=@Option.casesOn α (fun _=>Prop) o hi K
noncomputable def grd (b:Bool)(P:Prop)(_:Wt P:=()):Prop:=@Bool.casesOn (fun _=>Prop) b hi P
noncomputable def Eo {α:Type}(r:Rw α)(Q:α→Hp→Prop)(X:Nat→Hp→Prop)(_:Wt Q:=()):Prop:=(fun (_:Prop)=>r Q X) hi
noncomputable def at_ (h:Hp)(l:Nat)(K:AO→Prop)(_:Wt K:=()):Prop:=J9 h[l]? K
noncomputable def AhB (d:D)(K:Bool→Prop)(_:Wt K:=()):Prop:=@D.casesOn (fun _=>Prop) d hi K (fun _=>hi) (fun _=>hi) (fun _=>hi) (fun _=>hi) (fun _=>hi) hi
noncomputable def intK (d:D)(K:Int→Prop)(_:Wt K:=()):Prop:=@D.casesOn (fun _=>Prop) d hi (fun _=>hi) K (fun _=>hi) (fun _=>hi) (fun _=>hi) (fun _=>hi) hi
noncomputable def strK (d:D)(K:List Nat→Prop)(_:Wt K:=()):Prop:=@D.casesOn (fun _=>Prop) d hi (fun _=>hi) (fun _=>hi) K (fun _=>hi) (fun _=>hi) (fun _=>hi) hi
noncomputable def tupK (d:D)(K:List D→Prop)(_:Wt K:=()):Prop:=@D.casesOn (fun _=>Prop) d hi (fun _=>hi) (fun _=>hi) (fun _=>hi) K (fun _=>hi) (fun _=>hi) hi
noncomputable def lstK (d:D)(K:List D→Prop)(_:Wt K:=()):Prop:=@D.casesOn (fun _=>Prop) d hi (fun _=>hi) (fun _=>hi) (fun _=>hi) (fun _=>hi) K (fun _=>hi) hi
noncomputable def locK (d:D)(K:Nat→Prop)(_:Wt K:=()):Prop:=@D.casesOn (fun _=>Prop) d hi (fun _=>hi) (fun _=>hi) (fun _=>hi) (fun _=>hi) (fun _=>hi) K hi
noncomputable def revK (a:D)(K:D→Prop)(_:Wt K:=()):Prop:=lstK a fun ds=>grd (Nat.ble ds.length most) <| K (.lst ds.reverse)
noncomputable def newK (r:D)(P:Prop)(_:Wt P:=()):Prop:=@D.casesOn (fun _=>Prop) r P (fun _=>hi) (fun _=>hi) (fun _=>hi) (fun _=>hi) (fun _=>hi) (fun _=>hi) hi
noncomputable def flK (f:Fl)(P R:Prop)(_:Wt (P,R):=()):Prop:=@Fl.casesOn (fun _=>Prop) f P R fun _=>(fun _=>R) hi
noncomputable def lpK (f:Fl)(P R:Prop)(_:Wt (P,R):=()):Prop:=@Fl.casesOn (fun _=>Prop) f P P fun _=>(fun _=>R) hi
noncomputable def AbX (ds:List D)(P:Prop)(_:Wt P:=()):Prop:=@List.casesOn _ (fun _=>Prop) ds hi fun _ l=>@List.casesOn _ (fun _=>Prop) l hi fun _ l=>@List.casesOn _ (fun _=>Prop) l P fun _ _=>hi
noncomputable def tryK (k:Nat)(hn:Hn)(c:Nat)(ρ:Ve)(h:Hp)(Q:Fl→Ve→Hp→Prop)(_:Wt Q:=()):Prop:=grd (under c k) <| @Hn.casesOn (fun _=>Prop) hn (Q .ct ρ h) (fun d=>Q (.rt d) ρ h) hi
noncomputable def retK (f:Fl)(Q:D→Prop)(_:Wt Q:=()):Prop:=@Fl.casesOn (fun _=>Prop) f (Q .none) hi Q
noncomputable def W6 (o:AO)(K:List D→Prop)(_:Wt K:=()):Prop:=@AO.casesOn (fun _=>Prop) o K (fun _=>hi) (fun _ _=>hi) hi
noncomputable def W2 (o:AO)(K:List (List Nat×D)→Prop)(_:Wt K:=()):Prop:=@AO.casesOn (fun _=>Prop) o (fun _=>hi) K (fun _ _=>hi) hi
noncomputable def Ack (o:AO)(K:Nat→List (Nat×D)→Prop)(_:Wt K:=()):Prop:=@AO.casesOn (fun _=>Prop) o (fun _=>hi) (fun _=>hi) K hi
noncomputable def tabK (o:AO)(P:Prop)(_:Wt P:=()):Prop:=@AO.casesOn (fun _=>Prop) o (fun _=>hi) (fun _=>hi) (fun _ _=>hi) P
noncomputable def Amz (l:List D)(K:D→List D→Prop)(_:Wt K:=()):Prop:=@List.casesOn D (fun _=>Prop) l hi K
noncomputable def nilK {α:Type}(l:List α)(P:Prop)(_:Wt P:=()):Prop:=@List.casesOn α (fun _=>Prop) l P fun _ _=>hi
noncomputable def oneK (l:List D)(K:D→Prop)(_:Wt K:=()):Prop:=@List.casesOn _ (fun _=>Prop) l hi fun a l=>@List.casesOn _ (fun _=>Prop) l (K a) fun _ _=>hi
noncomputable def twoK (l:List D)(K:D→D→Prop)(_:Wt K:=()):Prop:=@List.casesOn _ (fun _=>Prop) l hi fun a l=>@List.casesOn _ (fun _=>Prop) l hi fun b l=>@List.casesOn _ (fun _=>Prop) l (K a b) fun _ _=>hi
noncomputable def X4 (d:D)(K:List D→Prop)(_:Wt K:=()):Prop:=@D.casesOn (fun _=>Prop) d hi (fun _=>hi) (fun _=>hi) (fun _=>hi) K K (fun _=>hi) hi
noncomputable def seqK (h:Hp)(d:D)(K:List D→Prop)(_:Wt K:=()):Prop:=@D.casesOn (fun _=>Prop) d hi (fun _=>hi) (fun _=>hi) (fun _=>hi) K K (fun l=>at_ h l fun o=>W6 o K) hi
noncomputable def lsK (h:Hp)(d:D)(K:List D→Prop)(_:Wt K:=()):Prop:=@D.casesOn (fun _=>Prop) d hi (fun _=>hi) (fun _=>hi) (fun _=>hi) (fun _=>hi) K (fun l=>at_ h l fun o=>W6 o K) hi
noncomputable def dicK (h:Hp)(d:D)(K:List (List Nat×D)→Prop)(_:Wt K:=()):Prop:=locK d fun l=>at_ h l fun o=>W2 o K
noncomputable def opK (h:Hp)(d:D)(K:D→Prop)(_:Wt K:=()):Prop:=@D.casesOn (fun d=>(fun _=>Prop) d) d (K .none) (fun b=>K (.bool b)) (fun i=>K (.int i)) (fun x=>K (.str x)) (fun ds=>K (.tup ds)) (fun ds=>K (.lst ds)) (fun l=>at_ h l fun o=>W6 o fun ds=>K (.lst ds)) (K .opq)
noncomputable def AaR (a k:D)(h:Hp)(Q:D→Hp→Prop)(_:Wt Q:=()):Prop:=@D.casesOn (fun _=>Prop) a hi (fun _=>hi) (fun _=>hi) (fun _=>hi) (fun ds=>intK k fun k=>J9 (idx ds k) fun d=>Q d h) (fun ds=>intK k fun k=>J9 (idx ds k) fun d=>Q d h)
 (fun l=>@D.casesOn (fun _=>Prop) k hi (fun _=>hi) (fun k=>at_ h l fun o=>W6 o fun ds=>J9 (idx ds k) fun d=>Q d h) (fun x=>at_ h l fun o=>W2 o fun ds=>J9 (find ds x) fun d=>Q d h) (fun _=>hi) (fun _=>hi) (fun _=>hi) hi) hi
noncomputable def Af8 (a:Nat)(d:D)(h:Hp)(Q:D→Hp→Prop)(_:Wt Q:=()):Prop:=locK d fun l=>at_ h l fun o=>Ack o fun _ fs=>J9 (fget fs a) fun d=>Q d h
noncomputable def Agl (o:D)(a:Nat)(h:Hp)(K:Nat→Prop)(_:Wt K:=()):Prop:=locK o fun l=>at_ h l fun o=>Ack o fun c _=>J9 clsT[c]? fun ci=>J9 (nget ci.meths a) K
noncomputable def isK (h:Hp)(o:D)(k:Kd)(P:Prop)(_:Wt P:=()):Prop:=@Kd.casesOn (fun _=>Prop) k (locK o fun l=>at_ h l fun o=>W6 o fun _=>P) (locK o fun l=>at_ h l fun o=>W2 o fun _=>P) (strK o fun _=>P)
noncomputable def Aa7 (o:D)(a:Nat)(v:D)(h:Hp)(K:Hp→Prop)(_:Wt K:=()):Prop:=locK o fun l=>at_ h l fun ob=>Ack ob fun c fs=>grd (Nat.blt fs.length 900) <| K (h.set l (.inst c (fput fs a v)))
noncomputable def Aaf (o i v:D)(h:Hp)(K:Hp→Prop)(_:Wt K:=()):Prop:=locK o fun l=>@D.casesOn (fun _=>Prop) i hi (fun _=>hi)
 (fun k=>at_ h l fun ob=>W6 ob fun ds=>grd (decide (0≤k)&&Nat.blt k.toNat ds.length&&Nat.ble ds.length most) <| K (h.set l (.list (ds.set k.toNat v))))
 (fun x=>at_ h l fun ob=>W2 ob fun kvs=>grd (Nat.ble kvs.length most) <| K (h.set l (.dict (putK kvs x v)))) (fun _=>hi) (fun _=>hi) (fun _=>hi) hi
noncomputable def frzK (h:Hp)(d:D)(K:D→Prop)(_:Wt K:=()):Prop:=opK h d fun d=>grd (D.plain d) (K d)
noncomputable def thaw (h:Hp)(r:Rw D)(Q:D→Hp→Prop)(_:Wt Q:=()):Prop:=at_ h 0 fun o=>tabK o (Ev r (fun d h'=>at_ h' 0 fun o=>tabK o (frzK h' d fun d'=>Q d' h)) fun _ _=>False)
noncomputable def inD (n:Bool)(a b:D):M D:=fun h Q _=>@D.casesOn (fun _=>Prop) b hi (fun _=>hi) (fun _=>hi) (fun _=>hi) (fun ds=>grd (okIn a ds) <| Q (.bool (n ^^ Adz a ds)) h) (fun ds=>grd (okIn a ds) <| Q (.bool (n ^^ Adz a ds)) h) (fun l=>at_ h l fun o=>W2 o fun kvs=>strK a fun x=>Q (.bool (n ^^ (find kvs x).isSome)) h) hi
noncomputable def eqD (n:Bool)(a b:D):M D:=fun h Q _=>opK h a fun x=>opK h b fun y=>grd (okEq x y) <| Q (.bool (n ^^ D.eqb x y)) h
noncomputable def ordD (f:Int→Int→Bool)(a b:D):M D:=fun h Q _=>intK a fun x=>intK b fun y=>Q (.bool (f x y)) h
noncomputable def Afc (n:Bool)(a:D):M D:=fun h Q _=>@D.casesOn (fun _=>Prop) a (Q (.bool (!n)) h) (fun _=>Q (.bool n) h) (fun _=>Q (.bool n) h) (fun _=>Q (.bool n) h) (fun _=>Q (.bool n) h) (fun _=>Q (.bool n) h) (fun _=>Q (.bool n) h) hi
noncomputable def cmpD (op:Cm)(a b:D):M D:=@Cm.casesOn (fun _=>M D) op (eqD false a b) (eqD true a b) (ordD (fun x y=>decide (x < y)) a b) (ordD (fun x y=>decide (x≤y)) a b) (ordD (fun x y=>decide (y < x)) a b) (ordD (fun x y=>decide (y≤x)) a b) (Afc false a) (Afc true a) (inD false a b) (inD true a b)
noncomputable def addD (a b:D):M D:=fun h Q _=>@D.casesOn (fun _=>Prop) a hi (fun _=>hi) (fun x=>intK b fun y=>Q (.int (x+y)) h) (fun x=>strK b fun y=>grd (Nat.ble (x.length+y.length) most) <| Q (.str (x++y)) h)
 (fun x=>tupK b fun y=>grd (Nat.ble (x.length+y.length) most) <| grd (Nat.ble 1 x.length&&Nat.ble 1 y.length) <| Q (.tup (x++y)) h) (fun x=>lsK h b fun y=>grd (Nat.ble (x.length+y.length) most) <| Q (.lst (x++y)) h) (fun l=>at_ h l fun o=>W6 o fun x=>lsK h b fun y=>grd (Nat.ble (x.length+y.length) most) <| Q (.lst (x++y)) h) hi
noncomputable def Aqs (a b:D):M D:=fun h Q _=>lsK h a fun x=>lsK h b fun y=>grd (Nat.ble (x.length+y.length) most) <| Q (.loc h.length) (h++[.list (x++y)])
noncomputable def subD (a b:D):M D:=fun h Q _=>intK a fun x=>intK b fun y=>Q (.int (x - y)) h
noncomputable def mulD (a b:D):M D:=fun h Q _=>@D.casesOn (fun _=>Prop) a hi (fun _=>hi) (fun x=>intK b fun y=>grd (Nat.blt y.natAbs 4294967296) <| Q (.int (x * y)) h) (fun _=>hi) (fun x=>intK b fun y=>grd (decide (y=0)&&Nat.ble 1 x.length) <| Q (.tup []) h) (fun _=>hi) (fun _=>hi) hi
noncomputable def Asy (a b:D):M D:=fun h Q _=>intK a fun x=>intK b fun y=>grd (decide (0 < y)&&decide (y≤1000000)) <| Q (.int (Int.fdiv x y)) h
noncomputable def modD (a b:D):M D:=fun h Q _=>intK a fun x=>intK b fun y=>grd (!decide (y=0)) <| Q (.int (Int.fmod x y)) h
noncomputable def powD (a b:D):M D:=fun h Q _=>intK a fun x=>intK b fun y=>grd (decide (x=10)&&decide (y=18)) <| Q (.int 1000000000000000000) h
noncomputable def binD (op:Bo)(a b:D):M D:=@Bo.casesOn (fun _=>M D) op (addD a b) (subD a b) (mulD a b) (Asy a b) (modD a b) (powD a b) (Aqs a b)
noncomputable def lenD (d:D):M D:=fun h Q _=>seqK h d fun ds=>grd (Nat.ble ds.length most) <| Q (.int ds.length) h
noncomputable def strD (d:D):M D:=fun h Q _=>intK d fun i=>grd (decide (0≤i)&&decide (i < 1000)) <| Q (.str (strI i)) h
noncomputable def AdH (d:D):M D:=fun h Q _=>@D.casesOn (fun _=>Prop) d hi (fun _=>Q (.bool true) h) (fun _=>Q (.bool false) h) (fun _=>hi) (fun _=>hi) (fun _=>hi) (fun _=>hi) hi
noncomputable def maxD (a b:D):M D:=fun h Q _=>intK a fun x=>intK b fun y=>Q (.int (if x < y then y else x)) h
noncomputable def intD (d:D):M D:=fun h Q _=>AhB d fun c=>Q (.int (if c then 1 else 0)) h
noncomputable def An6 (d:D):M D:=fun h Q _=>seqK h d fun ds=>grd (Nat.ble ds.length most) <| Q (.tup ds) h
noncomputable def Aq6 (d:D):M D:=fun h Q _=>seqK h d fun ds=>grd (Nat.ble ds.length most) <| Q (.lst ds) h
noncomputable def Al1 (d:D):M D:=fun h Q _=>dicK h d fun kvs=>grd (Nat.blt kvs.length 60) <| Q (.lst ((AcU (kvs.map (·.1))).map D.str)) h
noncomputable def Asm (d:D):M D:=fun h Q _=>dicK h d fun kvs=>grd (Nat.ble kvs.length most) <| Q (.loc h.length) (h++[.dict kvs])
noncomputable def Aja (a b:D):M D:=fun h Q _=>X4 a fun xs=>X4 b fun ys=>J9 (W5 (zipD xs ys)) fun kvs=>grd (Nat.ble kvs.length most) <| Q (.loc h.length) (h++[.dict (Y3 [] kvs)])
noncomputable def Ajb (a b:D):M D:=fun h Q _=>X4 a fun xs=>X4 b fun ys=>grd (Nat.ble xs.length most) <| grd (Nat.ble ys.length most) <| Q (.lst (zipD xs ys)) h
noncomputable def un (as:List D)(f:D→M D):M D:=fun h Q X=>oneK as fun d=>f d h Q X
noncomputable def du (as:List D)(f:D→D→M D):M D:=fun h Q X=>twoK as fun a b=>f a b h Q X
noncomputable def biD (b:Bi)(as:List D):M D:=@Bi.casesOn (fun _=>M D) b (un as lenD) (un as strD) (un as AdH) (du as maxD) (un as intD) (un as An6) (un as Aq6) (un as Al1) (un as Asm) (du as Aja) (du as Ajb)
noncomputable def Ahe (l:Nat)(x:D):M D:=fun h Q _=>at_ h l fun o=>W6 o fun ds=>grd (Nat.ble ds.length most) <| Q .none (h.set l (.list (ds++[x])))
noncomputable def popD (l:Nat):M D:=fun h Q _=>at_ h l fun o=>W6 o fun ds=>J9 (V4 ds) fun p=>grd (Nat.ble ds.length most) <| Q p.2 (h.set l (.list p.1))
noncomputable def AoC (l:Nat)(i:D):M D:=fun h Q _=>intK i fun i=>grd (i==0) <| at_ h l fun o=>W6 o fun ds=>Amz ds fun x r=>grd (Nat.ble r.length most) <| Q x (h.set l (.list r))
noncomputable def AiR (l:Nat)(x:D):M D:=fun h Q _=>at_ h l fun o=>W6 o fun ds=>X4 x fun es=>grd (Nat.ble (ds.length+es.length) most) <| Q .none (h.set l (.list (ds++es)))
noncomputable def AjI (l:Nat)(x d:D):M D:=fun h Q _=>at_ h l fun o=>W2 o fun kvs=>strK x fun x=>Q ((find kvs x).getD d) h
noncomputable def AnW (l:Nat)(x d:D):M D:=fun h Q _=>at_ h l fun o=>W2 o fun kvs=>strK x fun x=>@Option.casesOn _ (fun _=>Prop) (find kvs x) (Q d h) fun v=>grd (Nat.ble kvs.length most) <| Q v (h.set l (.dict (Acn kvs x)))
noncomputable def Aic (l:Nat)(x:D):M D:=fun h Q _=>locK x fun l'=>grd (!(l==l')) <| at_ h l fun o=>W2 o fun kvs=>at_ h l' fun o=>W2 o fun more=>grd (Nat.ble (kvs.length+more.length) most) <| Q .none (h.set l (.dict (Y3 kvs more)))
noncomputable def AnU (sep:List Nat)(x:D):M D:=fun h Q _=>tupK x fun ds=>J9 (AbZ ds) fun ss=>grd (Nat.ble ((ss.map List.length).sum+ss.length * sep.length) most) <| Q (.str (AcM sep ss)) h
noncomputable def lu (o:D)(f:Nat→M D):M D:=fun h Q X=>locK o fun l=>f l h Q X
noncomputable def bmD (b:Bm)(o:D)(as:List D):M D:=@Bm.casesOn (fun _=>M D) b (lu o fun l=>un as (Ahe l)) (lu o fun l h Q X=>nilK as (popD l h Q X)) (lu o fun l=>un as (AoC l)) (lu o fun l=>un as (AiR l)) (lu o fun l=>un as fun x=>AjI l x .none) (lu o fun l=>du as (AjI l)) (lu o fun l=>du as (AnW l)) (lu o fun l=>un as (Aic l)) (fun h Q X=>strK o fun x=>un as (AnU x) h Q X)
noncomputable def hi2:Prop:=(fun _=>False) (hi,@br,@J9,@lpK,@revK,@newK,@flK,@AbX,@tryK,@retK,@W6,@W2,@Ack,@tabK,@AaR,@Af8,@at_,@intK,@seqK,@X4,@Aa7,@Aaf,@thaw,@isK,@Agl,@opK,@Eo,@binD,@biD,@bmD,@cmpD)
noncomputable abbrev CF:=Nat→List D→M D
noncomputable abbrev PS:=ST (List D)×(Bool→ST D)
noncomputable def AmZ (d:D):ST D:=(fun (_:Prop) ρ h Q X=>Q d h) hi2
noncomputable def AlW (k:Nat):ST D:=(fun (_:Prop) ρ h Q X=>Q (.int (-(k:Int))) h) hi2
noncomputable def Ami (i:Nat):ST D:=(fun (_:Prop) ρ h Q X=>J9 ρ[i]? fun o=>J9 o fun d=>Q d h) hi2
noncomputable def Anz (es:Exs)(res:PS):ST D:=(fun (_:Prop) ρ h Q X=>res.1 ρ h (fun ds h1=>Q (.tup ds) h1) X) hi2
noncomputable def Afg (es:Exs)(res:PS):ST D:=(fun (_:Prop) ρ h Q X=>res.1 ρ h (fun ds h1=>Q (.lst ds) h1) X) hi2
noncomputable def Aey (es:Exs)(res:PS):ST D:=(fun (_:Prop) ρ h Q X=>res.1 ρ h (fun ds h1=>Q (.loc h1.length) (h1++[.list ds])) X) hi2
noncomputable def AeB (ks:List (List Nat))(es:Exs)(res:PS):ST D:=(fun (_:Prop) ρ h Q X=>res.1 ρ h (fun ds h1=>grd (ks.length==ds.length) <| Q (.loc h1.length) (h1++[.dict (Y3 [] (ks.zip ds))])) X) hi2
noncomputable def AhO (e:Ex)(i:Ex)(re:ST D)(ri:ST D):ST D:=(fun (_:Prop) ρ h Q X=>re ρ h (fun a h1=>ri ρ h1 (fun k h2=>AaR a k h2 Q) X) X) hi2
noncomputable def AeR (es:Exs)(i:Ex)(res:PS)(ri:ST D):ST D:=(fun (_:Prop) ρ h Q X=>res.1 ρ h (fun ds h1=>ri ρ h1 (fun k h2=>AaR (.lst ds) k h2 Q) X) X) hi2
noncomputable def Anf (e:Ex)(re:ST D):ST D:=(fun (_:Prop) ρ h Q X=>re ρ h (fun a h1=>revK a fun d=>Q d h1) X) hi2
noncomputable def Air (e:Ex)(a:Nat)(re:ST D):ST D:=(fun (_:Prop) ρ h Q X=>re ρ h (fun d h1=>Af8 a d h1 Q) X) hi2
noncomputable def AhG (cf:CF)(f:Nat)(es:Exs)(res:PS):ST D:=(fun (_:Prop) ρ h Q X=>res.1 ρ h (fun ds h1=>Ev (cf f ds h1) Q X) X) hi2
noncomputable def AeK (cf:CF)(f:Nat)(es:Exs)(res:PS):ST D:=(fun (_:Prop) ρ h Q X=>res.1 ρ h (fun ds h1=>grd (D.plainAll ds) <| thaw h1 (cf f ds [.tab]) Q) X) hi2
noncomputable def AiN (cf:CF)(a:Nat)(e:Ex)(es:Exs)(re:ST D)(res:PS):ST D:=(fun (_:Prop) ρ h Q X=>re ρ h (fun o h1=>Agl o a h1 fun f=>res.1 ρ h1 (fun ds h2=>Ev (cf f (o::ds) h2) Q X) X) X) hi2
noncomputable def Amy (cf:CF)(c:Nat)(es:Exs)(res:PS):ST D:=(fun (_:Prop) ρ h Q X=>res.1 ρ h (fun ds h1=>J9 clsT[c]? fun ci=>grd (!ci.isExc) <| Ev (cf ci.init (.loc h1.length::ds) (h1++[.inst c []])) (fun r h2=>newK r (Q (.loc h1.length) h2)) X) X) hi2
noncomputable def e_bi (b:Bi)(es:Exs)(res:PS):ST D:=(fun (_:Prop) ρ h Q X=>res.1 ρ h (fun ds h1=>Eo (biD b ds h1) Q X) X) hi2
noncomputable def e_bm (b:Bm)(e:Ex)(es:Exs)(re:ST D)(res:PS):ST D:=(fun (_:Prop) ρ h Q X=>re ρ h (fun o h1=>isK h1 o (bmK b) (res.1 ρ h1 (fun ds h2=>Eo (bmD b o ds h2) Q X) X)) X) hi2
noncomputable def Ae7 (a:Bool)(es:Exs)(res:PS):ST D:=(fun (_:Prop) ρ h Q X=>res.2 a ρ h Q X) hi2
noncomputable def AmU (e:Ex)(re:ST D):ST D:=(fun (_:Prop) ρ h Q X=>re ρ h (fun d h1=>br d (Q (.bool false) h1) (Q (.bool true) h1)) X) hi2
noncomputable def AlT (op:Cm)(a:Ex)(b:Ex)(ra:ST D)(rb:ST D):ST D:=(fun (_:Prop) ρ h Q X=>ra ρ h (fun x h1=>rb ρ h1 (fun y h2=>Eo (cmpD op x y h2) Q X) X) X) hi2
noncomputable def AlZ (op:Bo)(a:Ex)(b:Ex)(ra:ST D)(rb:ST D):ST D:=(fun (_:Prop) ρ h Q X=>ra ρ h (fun x h1=>rb ρ h1 (fun y h2=>Eo (binD op x y h2) Q X) X) X) hi2
noncomputable def AnH (c:Ex)(a:Ex)(b:Ex)(rc:ST D)(ra:ST D)(rb:ST D):ST D:=(fun (_:Prop) ρ h Q X=>rc ρ h (fun d h1=>br d (ra ρ h1 Q X) (rb ρ h1 Q X)) X) hi2
noncomputable def comK (s:ST D)(t:Tg)(ρ:Ve)(d:D)(h:Hp)(Q:D→Hp→Prop)(X:Nat→Hp→Prop)(_:Wt (s,Q):=()):Prop:=@D.casesOn (fun _=>Prop) d hi (fun _=>hi) (fun _=>hi) (fun _=>hi)
 (fun ds=>grd (Nat.ble ds.length most) <| cmpL s t ρ ds h (fun xs h1=>Q (.lst xs) h1) X) (fun ds=>grd (Nat.ble ds.length most) <| cmpL s t ρ ds h (fun xs h1=>Q (.lst xs) h1) X)
 (fun l=>at_ h l fun o=>W6 o fun ds=>grd (Nat.ble ds.length most) <| cmaL s t ρ l (ds.length+1) 0 h (fun xs h1=>Q (.lst xs) h1) X) hi
noncomputable def Ai0 (elt:Ex)(t:Tg)(it:Ex)(relt:ST D)(rit:ST D):ST D:=(fun (_:Prop) ρ h Q X=>rit ρ h (fun d h1=>comK (fun ρ h Q X=>relt ρ h Q X) t ρ d h1 Q X) X) hi2
noncomputable def AeX (elt:Ex)(t:Tg)(it:Ex)(c:Ex)(relt:ST D)(rit:ST D)(rc:ST D):ST D:=(fun (_:Prop) ρ h Q X=>rit ρ h (fun d h1=>X4 d fun ds=>grd (Nat.ble ds.length most) <| cmtL (fun ρ h Q X=>relt ρ h Q X) (fun ρ h Q X=>rc ρ h Q X) t ρ ds h1 (fun xs h1=>Q (.lst xs) h1) X) X) hi2
noncomputable def AeL (elt:Ex)(i:Nat)(j:Nat)(a:Ex)(b:Ex)(relt:ST D)(ra:ST D)(rb:ST D):ST D:=(fun (_:Prop) ρ h Q X=>ra ρ h (fun x h1=>rb ρ h1 (fun y h2=>X4 x fun xs=>X4 y fun ys=>grd (Nat.ble xs.length most) <| grd (Nat.ble ys.length most) <| cmpL (fun ρ h Q X=>relt ρ h Q X) (.p [i,j]) ρ (zipD xs ys) h2 (fun zs h1=>Q (.lst zs) h1) X) X) X) hi2
noncomputable def Ae3  : ST D:=(fun (_:Prop) ρ h Q X=>hi) hi2
noncomputable def e_n1:ST (List D):=(fun (_:Prop) _ h Q _=>Q [] h) hi2
noncomputable def Al8:PS:=⟨e_n1,fun _ _ _ _ _=>hi⟩
noncomputable def e_c1 (re:ST D)(res:PS):ST (List D):=(fun (_:Prop) ρ h Q X=>re ρ h (fun d h1=>res.1 ρ h1 (fun ds h2=>Q (d::ds) h2) X) X) hi2
noncomputable def aoK (a:Bool)(d:D)(h:Hp)(Q:D→Hp→Prop)(P:Prop)(_:Wt (Q,P):=()):Prop:=br d (@Bool.casesOn (fun _=>Prop) a (Q (.bool true) h) P) (@Bool.casesOn (fun _=>Prop) a P (Q (.bool false) h))
noncomputable def e_c2 (es:Exs)(re:ST D)(res:PS)(a:Bool):ST D:=(fun (_:Prop) ρ h Q X=>@Exs.casesOn (fun _=>Prop) es (re ρ h Q X) fun _ _=>re ρ h (fun d h1=>aoK a d h1 Q (res.2 a ρ h1 Q X)) X) hi2
noncomputable def Ah0 (_:Ex)(es:Exs)(re:ST D)(res:PS):PS:=⟨e_c1 re res,e_c2 es re res⟩
section
variable (cf:CF)
noncomputable def wE (e:Ex)(ρ:Ve)(h:Hp)(Q:D→Hp→Prop)(X:Nat→Hp→Prop)(_:Wt Q:=()):Prop:=@Ex.rec (fun _=>ST D) (fun _=>PS) AmZ AlW Ami Anz Afg Aey AeB AhO AeR Anf Air (AhG cf) (AeK cf) (AiN cf) (Amy cf) e_bi e_bm Ae7 AmU AlT AlZ AnH Ai0 AeX AeL Ae3 Al8 Ah0 e ρ h Q X
noncomputable def wEs (e:Exs)(ρ:Ve)(h:Hp)(Q:List D→Hp→Prop)(X:Nat→Hp→Prop)(_:Wt Q:=()):Prop:=(@Exs.rec (fun _=>ST D) (fun _=>PS) AmZ AlW Ami Anz Afg Aey AeB AhO AeR Anf Air (AhG cf) (AeK cf) (AiN cf) (Amy cf) e_bi e_bm Ae7 AmU AlT AlZ AnH Ai0 AeX AeL Ae3 Al8 Ah0 e).1 ρ h Q X
noncomputable def wAO (a:Bool)(e:Exs)(ρ:Ve)(h:Hp)(Q:D→Hp→Prop)(X:Nat→Hp→Prop)(_:Wt Q:=()):Prop:=(@Exs.rec (fun _=>ST D) (fun _=>PS) AmZ AlW Ami Anz Afg Aey AeB AhO AeR Anf Air (AhG cf) (AeK cf) (AiN cf) (Amy cf) e_bi e_bm Ae7 AmU AlT AlZ AnH Ai0 AeX AeL Ae3 Al8 Ah0 e).2 a ρ h Q X
end
noncomputable def AoV (cf:CF)(t:Tg)(e:Ex):SS:=(fun (_:Prop) ρ h Q X=>wE cf e ρ h (fun d h1=>J9 (t.set d ρ) fun ρ'=>Q .nx ρ' h1) (fun c h1=>X c ρ h1)) hi2
noncomputable def AhM (cf:CF)(o:Ex)(a:Nat)(e:Ex):SS:=(fun (_:Prop) ρ h Q X=>wE cf e ρ h (fun v h1=>wE cf o ρ h1 (fun x h2=>Aa7 x a v h2 fun h3=>Q .nx ρ h3) (fun c h1=>X c ρ h1)) (fun c h1=>X c ρ h1)) hi2
noncomputable def Ag6 (cf:CF)(o:Ex)(i:Ex)(e:Ex):SS:=(fun (_:Prop) ρ h Q X=>wE cf e ρ h (fun v h1=>wE cf o ρ h1 (fun x h2=>wE cf i ρ h2 (fun k h3=>Aaf x k v h3 fun h4=>Q .nx ρ h4) (fun c h1=>X c ρ h1)) (fun c h1=>X c ρ h1)) (fun c h1=>X c ρ h1)) hi2
noncomputable def t_ex (cf:CF)(e:Ex):SS:=(fun (_:Prop) ρ h Q X=>wE cf e ρ h (fun _ h1=>Q .nx ρ h1) (fun c h1=>X c ρ h1)) hi2
noncomputable def ApL (cf:CF)(c:Ex)(a:Sts)(b:Sts)(ra:SS)(rb:SS):SS:=(fun (_:Prop) ρ h Q X=>wE cf c ρ h (fun d h1=>br d (ra ρ h1 Q X) (rb ρ h1 Q X)) (fun c h1=>X c ρ h1)) hi2
noncomputable def Aqa (cf:CF)(c:Ex)(b:Sts)(rb:SS):SS:=(fun (_:Prop) ρ h Q X=>whL (fun ρ h Q X=>wE cf c ρ h Q X) (fun ρ h Q X=>rb ρ h Q X) Af2 ρ h Q X) hi2
noncomputable def Aqc (cf:CF)(t:Tg)(e:Ex)(b:Sts)(rb:SS):SS:=(fun (_:Prop) ρ h Q X=>wE cf e ρ h (fun d h1=>X4 d fun ds=>grd (Nat.ble ds.length most) <| frL t (fun ρ h Q X=>rb ρ h Q X) ds ρ h1 Q X) (fun c h1=>X c ρ h1)) hi2
noncomputable def Aor (cf:CF)(e:Ex):SS:=(fun (_:Prop) ρ h Q X=>wE cf e ρ h (fun d h1=>Q (.rt d) ρ h1) (fun c h1=>X c ρ h1)) hi2
noncomputable def AhD (cf:CF)(c:Nat)(es:Exs):SS:=(fun (_:Prop) ρ h Q X=>wEs cf es ρ h (fun ds h1=>AbX ds (X c ρ h1)) (fun c h1=>X c ρ h1)) hi2
noncomputable def ApY (b:Sts)(k:Nat)(hn:Hn)(rb:SS):SS:=(fun (_:Prop) ρ h Q X=>rb ρ h Q (fun c ρ' h1=>tryK k hn c ρ' h1 Q)) hi2
noncomputable def Alm  : SS:=(fun (_:Prop) ρ h Q X=>Q .ct ρ h) hi2
noncomputable def Alb (i:Nat):SS:=(fun (_:Prop) ρ h Q X=>at_ h 0 fun o=>tabK o (Q .nx (ρ.set i (some .opq)) h)) hi2
noncomputable def Ahx  : SS:=(fun (_:Prop) _ _ _ _=>hi) hi2
noncomputable def Apq  : SS:=(fun (_:Prop) ρ h Q _=>Q .nx ρ h) hi2
noncomputable def Alv (_:St)(_:Sts)(rs:SS)(rss:SS):SS:=(fun (_:Prop) ρ h Q X=>rs ρ h (fun f ρ' h1=>flK f (rss ρ' h1 Q X) (Q f ρ' h1)) X) hi2
section
variable (cf:CF)
noncomputable def wS (s:St)(ρ:Ve)(h:Hp)(Q:Fl→Ve→Hp→Prop)(X:Nat→Ve→Hp→Prop)(_:Wt Q:=()):Prop:=@St.rec (fun _=>SS) (fun _=>SS) (AoV cf) (AhM cf) (Ag6 cf) (t_ex cf) (ApL cf) (Aqa cf) (Aqc cf) (Aor cf) (AhD cf) ApY Alm Alb Ahx Apq Alv s ρ h Q X
noncomputable def wSs (s:Sts)(ρ:Ve)(h:Hp)(Q:Fl→Ve→Hp→Prop)(X:Nat→Ve→Hp→Prop)(_:Wt Q:=()):Prop:=@Sts.rec (fun _=>SS) (fun _=>SS) (AoV cf) (AhM cf) (Ag6 cf) (t_ex cf) (ApL cf) (Aqa cf) (Aqc cf) (Aor cf) (AhD cf) ApY Alm Alb Ahx Apq Alv s ρ h Q X
noncomputable abbrev WH (c:Ex)(b:Sts)(k:Nat)(ρ:Ve)(h:Hp)(Q:Fl→Ve→Hp→Prop)(X:Nat→Ve→Hp→Prop):Prop:=whL (fun ρ h Q X=>wE cf c ρ h Q X) (fun ρ h Q X=>wSs cf b ρ h Q X) k ρ h Q X
noncomputable abbrev FR (t:Tg)(b:Sts)(ds:List D)(ρ:Ve)(h:Hp)(Q:Fl→Ve→Hp→Prop)(X:Nat→Ve→Hp→Prop):Prop:=frL t (fun ρ h Q X=>wSs cf b ρ h Q X) ds ρ h Q X
noncomputable abbrev cmpK (elt:Ex)(t:Tg)(ρ:Ve)(ds:List D)(h:Hp)(Q:List D→Hp→Prop)(X:Nat→Hp→Prop):Prop:=cmpL (fun ρ h Q X=>wE cf elt ρ h Q X) t ρ ds h Q X
end
noncomputable def c0 (_:Nat)(_:List D)(_:Hp)(_:D→Hp→Prop)(_:Nat→Hp→Prop):Prop:=hi
noncomputable def c1 (_:Nat)(cf:CF)(f:Nat)(as:List D)(h:Hp)(Q:D→Hp→Prop)(X:Nat→Hp→Prop):Prop:=J9 fnT[f]? fun fi=>J9 (AgF fi as) fun ρ=>wSs cf fi.body ρ h (fun f _ h1=>retK f fun d=>Q d h1) (fun c _ h1=>X c h1)
noncomputable def J0 (n:Nat):CF:=@Nat.rec (fun _=>CF) c0 c1 n
end Mine
end
section
namespace Mine
section
theorem Aij {ρ:Ve}{h:Hp}{Q:Fl→Ve→Hp→Prop}{X:Nat→Ve→Hp→Prop}{c:ST D}{b:SS}{k:Nat}:whL c b (k+1) ρ h Q X=c ρ h (fun d h1=>br d (b ρ h1 (fun f ρ' h2=>lpK f (whL c b k ρ' h2 Q X) (Q f ρ' h2)) X) (Q .nx ρ h1)) (fun c h1=>X c ρ h1):=rfl
theorem Aqm {ρ:Ve}{h:Hp}{Q:Fl→Ve→Hp→Prop}{X:Nat→Ve→Hp→Prop}{t:Tg}{b:SS}:frL t b [] ρ h Q X=Q .nx ρ h:=rfl
theorem Al3 {ρ:Ve}{h:Hp}{Q:Fl→Ve→Hp→Prop}{X:Nat→Ve→Hp→Prop}{t:Tg}{b:SS}{d:D}{ds:List D}:frL t b (d::ds) ρ h Q X=J9 (t.set d ρ) fun ρ1=>b ρ1 h (fun f ρ' h2=>lpK f (frL t b ds ρ' h2 Q X) (Q f ρ' h2)) X:=rfl
theorem Ap4 {s:ST D}{ρ:Ve}{h:Hp}{Q:List D→Hp→Prop}{X:Nat→Hp→Prop}{t:Tg}:cmpL s t ρ [] h Q X=Q [] h:=rfl
theorem AmT {s:ST D}{ρ:Ve}{h:Hp}{Q:List D→Hp→Prop}{X:Nat→Hp→Prop}{t:Tg}{d:D}{ds:List D}:cmpL s t ρ (d::ds) h Q X=J9 (t.set d ρ) fun ρ'=>s ρ' h (fun x h1=>cmpL s t ρ ds h1 (fun xs h2=>Q (x::xs) h2) X) X:=rfl
theorem AoN {s c:ST D}{ρ:Ve}{h:Hp}{Q:List D→Hp→Prop}{X:Nat→Hp→Prop}{t:Tg}:cmtL s c t ρ [] h Q X=Q [] h:=rfl
theorem Al9 {s c:ST D}{ρ:Ve}{h:Hp}{Q:List D→Hp→Prop}{X:Nat→Hp→Prop}{t:Tg}{d:D}{ds:List D}:cmtL s c t ρ (d::ds) h Q X=J9 (t.set d ρ) fun ρ'=>c ρ' h (fun b h1=>br b (s ρ' h1 (fun x h2=>cmtL s c t ρ ds h2 (fun xs h3=>Q (x::xs) h3) X) X) (cmtL s c t ρ ds h1 Q X)) X:=rfl
theorem AhH {s:ST D}{t:Tg}{ρ:Ve}{l n i:Nat}{h:Hp}{Q:List D→Hp→Prop}{X:Nat→Hp→Prop}:cmaL s t ρ l (n+1) i h Q X=at_ h l fun o=>W6 o fun ds=>@Option.casesOn D (fun _=>Prop) ds[i]? (Q [] h) fun d=>J9 (t.set d ρ) fun ρ'=>s ρ' h (fun x h1=>cmaL s t ρ l n (i+1) h1 (fun xs h2=>Q (x::xs) h2) X) X:=rfl
end
section
variable {cf:Nat→List D→M D}{ρ:Ve}{h:Hp}{Q:D→Hp→Prop}{X:Nat→Hp→Prop}
theorem X7 {d:D}:wE cf (.lit d) ρ h Q X=Q d h:=rfl
theorem AsF {k:Nat}:wE cf (.neg k) ρ h Q X=Q (.int (-(k:Int))) h:=rfl
theorem Aqu {i:Nat}:wE cf (.var i) ρ h Q X=J9 ρ[i]? fun o=>J9 o fun d=>Q d h:=rfl
theorem AqN {es:Exs}:wE cf (.tup es) ρ h Q X=wEs cf es ρ h (fun ds h1=>Q (.tup ds) h1) X:=rfl
theorem Anv {es:Exs}:wE cf (.vlist es) ρ h Q X=wEs cf es ρ h (fun ds h1=>Q (.lst ds) h1) X:=rfl
theorem Amn {es:Exs}:wE cf (.mlist es) ρ h Q X=wEs cf es ρ h (fun ds h1=>Q (.loc h1.length) (h1++[.list ds])) X:=rfl
theorem Amk {ks:List (List Nat)}{es:Exs}:wE cf (.mdict ks es) ρ h Q X=wEs cf es ρ h (fun ds h1=>grd (ks.length==ds.length) <| Q (.loc h1.length) (h1++[.dict (Y3 [] (ks.zip ds))])) X:=rfl
theorem Aqb {e:Ex}{i:Ex}:wE cf (.item e i) ρ h Q X=wE cf e ρ h (fun a h1=>wE cf i ρ h1 (fun k h2=>AaR a k h2 Q) X) X:=rfl
theorem Aml {es:Exs}{i:Ex}:wE cf (.lpick es i) ρ h Q X=wEs cf es ρ h (fun ds h1=>wE cf i ρ h1 (fun k h2=>AaR (.lst ds) k h2 Q) X) X:=rfl
theorem ArU {e:Ex}:wE cf (.rev e) ρ h Q X=wE cf e ρ h (fun a h1=>revK a fun d=>Q d h1) X:=rfl
theorem Aoz {e:Ex}{a:Nat}:wE cf (.attr e a) ρ h Q X=wE cf e ρ h (fun d h1=>Af8 a d h1 Q) X:=rfl
theorem Apt {f:Nat}{es:Exs}:wE cf (.call f es) ρ h Q X=wEs cf es ρ h (fun ds h1=>Ev (cf f ds h1) Q X) X:=rfl
theorem AmW {f:Nat}{es:Exs}:wE cf (.fresh f es) ρ h Q X=wEs cf es ρ h (fun ds h1=>grd (D.plainAll ds) <| thaw h1 (cf f ds [.tab]) Q) X:=rfl
theorem Aob {a:Nat}{e:Ex}{es:Exs}:wE cf (.meth a e es) ρ h Q X=wE cf e ρ h (fun o h1=>Agl o a h1 fun f=>wEs cf es ρ h1 (fun ds h2=>Ev (cf f (o::ds) h2) Q X) X) X:=rfl
theorem Aq0 {c:Nat}{es:Exs}:wE cf (.new c es) ρ h Q X=wEs cf es ρ h (fun ds h1=>J9 clsT[c]? fun ci=>grd (!ci.isExc) <| Ev (cf ci.init (.loc h1.length::ds) (h1++[.inst c []])) (fun r h2=>newK r (Q (.loc h1.length) h2)) X) X:=rfl
theorem w_bi {b:Bi}{es:Exs}:wE cf (.bi b es) ρ h Q X=wEs cf es ρ h (fun ds h1=>Eo (biD b ds h1) Q X) X:=rfl
theorem w_bm {b:Bm}{e:Ex}{es:Exs}:wE cf (.bm b e es) ρ h Q X=wE cf e ρ h (fun o h1=>isK h1 o (bmK b) (wEs cf es ρ h1 (fun ds h2=>Eo (bmD b o ds h2) Q X) X)) X:=rfl
theorem Amm {a:Bool}{es:Exs}:wE cf (.andor a es) ρ h Q X=wAO cf a es ρ h Q X:=rfl
theorem AsN {e:Ex}:wE cf (.not e) ρ h Q X=wE cf e ρ h (fun d h1=>br d (Q (.bool false) h1) (Q (.bool true) h1)) X:=rfl
theorem Ar3 {op:Cm}{a:Ex}{b:Ex}:wE cf (.cmp op a b) ρ h Q X=wE cf a ρ h (fun x h1=>wE cf b ρ h1 (fun y h2=>Eo (cmpD op x y h2) Q X) X) X:=rfl
theorem Aq8 {op:Bo}{a:Ex}{b:Ex}:wE cf (.bin op a b) ρ h Q X=wE cf a ρ h (fun x h1=>wE cf b ρ h1 (fun y h2=>Eo (binD op x y h2) Q X) X) X:=rfl
theorem AqP {c:Ex}{a:Ex}{b:Ex}:wE cf (.ite c a b) ρ h Q X=wE cf c ρ h (fun d h1=>br d (wE cf a ρ h1 Q X) (wE cf b ρ h1 Q X)) X:=rfl
theorem AnT {elt:Ex}{t:Tg}{it:Ex}:wE cf (.comp elt t it) ρ h Q X=wE cf it ρ h (fun d h1=>comK (fun ρ h Q X=>wE cf elt ρ h Q X) t ρ d h1 Q X) X:=rfl
theorem AnF {elt:Ex}{t:Tg}{it:Ex}{c:Ex}:wE cf (.compc elt t it c) ρ h Q X=wE cf it ρ h (fun d h1=>X4 d fun ds=>grd (Nat.ble ds.length most) <| cmtL (fun ρ h Q X=>wE cf elt ρ h Q X) (fun ρ h Q X=>wE cf c ρ h Q X) t ρ ds h1 (fun xs h1=>Q (.lst xs) h1) X) X:=rfl
theorem Am8 {elt:Ex}{i:Nat}{j:Nat}{a:Ex}{b:Ex}:wE cf (.compz elt i j a b) ρ h Q X=wE cf a ρ h (fun x h1=>wE cf b ρ h1 (fun y h2=>X4 x fun xs=>X4 y fun ys=>grd (Nat.ble xs.length most) <| grd (Nat.ble ys.length most) <| cmpL (fun ρ h Q X=>wE cf elt ρ h Q X) (.p [i,j]) ρ (zipD xs ys) h2 (fun zs h1=>Q (.lst zs) h1) X) X) X:=rfl
theorem AsI {Q:List D→Hp→Prop}:wEs cf .nil ρ h Q X=Q [] h:=rfl
theorem AoL {e:Ex}{es:Exs}{Q:List D→Hp→Prop}:wEs cf (.cons e es) ρ h Q X=wE cf e ρ h (fun d h1=>wEs cf es ρ h1 (fun ds h2=>Q (d::ds) h2) X) X:=rfl
theorem Ard {a:Bool}{e:Ex}:wAO cf a (.cons e .nil) ρ h Q X=wE cf e ρ h Q X:=rfl
theorem ArB {a:Bool}{e e':Ex}{es:Exs}:wAO cf a (.cons e (.cons e' es)) ρ h Q X=wE cf e ρ h (fun d h1=>aoK a d h1 Q (wAO cf a (.cons e' es) ρ h1 Q X)) X:=rfl
theorem AsE {P:Prop}:aoK true (.bool true) h Q P=P:=rfl
theorem Aqw {P:Prop}:aoK true (.bool false) h Q P=Q (.bool false) h:=rfl
theorem AsL {P:Prop}:aoK false (.bool true) h Q P=Q (.bool true) h:=rfl
theorem Aq9 {P:Prop}:aoK false (.bool false) h Q P=P:=rfl
theorem Aou {s:ST D}{t:Tg}{ds:List D}:comK s t ρ (.tup ds) h Q X=(grd (Nat.ble ds.length most) <| cmpL s t ρ ds h (fun xs h1=>Q (.lst xs) h1) X):=rfl
theorem Ap8 {s:ST D}{t:Tg}{ds:List D}:comK s t ρ (.lst ds) h Q X=(grd (Nat.ble ds.length most) <| cmpL s t ρ ds h (fun xs h1=>Q (.lst xs) h1) X):=rfl
theorem AoK {s:ST D}{t:Tg}{l:Nat}:comK s t ρ (.loc l) h Q X=at_ h l fun o=>W6 o fun ds=>grd (Nat.ble ds.length most) <| cmaL s t ρ l (ds.length+1) 0 h (fun xs h1=>Q (.lst xs) h1) X:=rfl
end
section
variable {cf:Nat→List D→M D}{ρ:Ve}{h:Hp}{Q:Fl→Ve→Hp→Prop}{X:Nat→Ve→Hp→Prop}
theorem Arm {t:Tg}{e:Ex}:wS cf (.asn t e) ρ h Q X=wE cf e ρ h (fun d h1=>J9 (t.set d ρ) fun ρ'=>Q .nx ρ' h1) (fun c h1=>X c ρ h1):=rfl
theorem Al7 {o:Ex}{a:Nat}{e:Ex}:wS cf (.sattr o a e) ρ h Q X=wE cf e ρ h (fun v h1=>wE cf o ρ h1 (fun x h2=>Aa7 x a v h2 fun h3=>Q .nx ρ h3) (fun c h1=>X c ρ h1)) (fun c h1=>X c ρ h1):=rfl
theorem Ano {o:Ex}{i:Ex}{e:Ex}:wS cf (.sitem o i e) ρ h Q X=wE cf e ρ h (fun v h1=>wE cf o ρ h1 (fun x h2=>wE cf i ρ h2 (fun k h3=>Aaf x k v h3 fun h4=>Q .nx ρ h4) (fun c h1=>X c ρ h1)) (fun c h1=>X c ρ h1)) (fun c h1=>X c ρ h1):=rfl
theorem s_ex {e:Ex}:wS cf (.ex e) ρ h Q X=wE cf e ρ h (fun _ h1=>Q .nx ρ h1) (fun c h1=>X c ρ h1):=rfl
theorem AqO {c:Ex}{a:Sts}{b:Sts}:wS cf (.iff c a b) ρ h Q X=wE cf c ρ h (fun d h1=>br d (wSs cf a ρ h1 Q X) (wSs cf b ρ h1 Q X)) (fun c h1=>X c ρ h1):=rfl
theorem Arb {c:Ex}{b:Sts}:wS cf (.whl c b) ρ h Q X=whL (fun ρ h Q X=>wE cf c ρ h Q X) (fun ρ h Q X=>wSs cf b ρ h Q X) Af2 ρ h Q X:=rfl
theorem Ar7 {t:Tg}{e:Ex}{b:Sts}:wS cf (.for t e b) ρ h Q X=wE cf e ρ h (fun d h1=>X4 d fun ds=>grd (Nat.ble ds.length most) <| frL t (fun ρ h Q X=>wSs cf b ρ h Q X) ds ρ h1 Q X) (fun c h1=>X c ρ h1):=rfl
theorem AqY {e:Ex}:wS cf (.ret e) ρ h Q X=wE cf e ρ h (fun d h1=>Q (.rt d) ρ h1) (fun c h1=>X c ρ h1):=rfl
theorem AmR {c:Nat}{es:Exs}:wS cf (.raise c es) ρ h Q X=wEs cf es ρ h (fun ds h1=>AbX ds (X c ρ h1)) (fun c h1=>X c ρ h1):=rfl
theorem ArS {b:Sts}{k:Nat}{hn:Hn}:wS cf (.try b k hn) ρ h Q X=wSs cf b ρ h Q (fun c ρ' h1=>tryK k hn c ρ' h1 Q):=rfl
theorem Aoc:wS cf .cont ρ h Q X=Q .ct ρ h:=rfl
theorem An5 {i:Nat}:wS cf (.deff i) ρ h Q X=at_ h 0 fun o=>tabK o (Q .nx (ρ.set i (some .opq)) h):=rfl
theorem AnS:wSs cf .nil ρ h Q X=Q .nx ρ h:=rfl
theorem AnJ {s:St}{ss:Sts}:wSs cf (.cons s ss) ρ h Q X=wS cf s ρ h (fun f ρ' h1=>flK f (wSs cf ss ρ' h1 Q X) (Q f ρ' h1)) X:=rfl
theorem Arj {P R:Prop}:flK .nx P R=P:=rfl
theorem Aq7 {P R:Prop}:flK .ct P R=R:=rfl
theorem Asd {d:D}{P R:Prop}:flK (.rt d) P R=R:=rfl
theorem Aq2 {P R:Prop}:lpK .nx P R=P:=rfl
theorem AsA {P R:Prop}:lpK .ct P R=P:=rfl
theorem Arv {d:D}{P R:Prop}:lpK (.rt d) P R=R:=rfl
theorem ArM {d:D}{Q:D→Prop}:retK (.rt d) Q=Q d:=rfl
theorem ArI {Q:D→Prop}:retK .nx Q=Q .none:=rfl
end
section
variable {h:Hp}
theorem AnY {n f:Nat}{fi:FnI}{as:List D}{Q:D→Hp→Prop}{X:Nat→Hp→Prop}(e:fnT[f]? = some fi):Ev (J0 (n+1) f as h) Q X=J9 (AgF fi as) fun ρ=>wSs (J0 n) fi.body ρ h (fun f _ h1=>retK f fun d=>Q d h1) (fun c _ h1=>X c h1):=by
 refine Eq.trans (b:=J9 fnT[f]? fun fi=>J9 (AgF fi as) fun ρ=>wSs (J0 n) fi.body ρ h (fun f _ h1=>retK f fun d=>Q d h1) (fun c _ h1=>X c h1)) (by kernel_rfl) ?_
 rw [e];rfl
variable {Q:D→Hp→Prop}{X:Nat→Hp→Prop}{P R:Prop}
theorem AlP {α:Type}{a:α}{K:α→Prop}:J9 (some a) K=K a:=rfl
theorem Aon {α:Type}{K:α→Prop}:J9 none K=False:=rfl
theorem Aos:br (.bool true) P R=P:=rfl
theorem Ant:br (.bool false) P R=R:=rfl
theorem Ad5 {ds:List D}{K:List D→Prop}:W6 (.list ds) K=K ds:=rfl
theorem AlD {ds:List (List Nat×D)}{K:List (List Nat×D)→Prop}:W2 (.dict ds) K=K ds:=rfl
theorem An2 {c:Nat}{fs:List (Nat×D)}{K:Nat→List (Nat×D)→Prop}:Ack (.inst c fs) K=K c fs:=rfl
theorem ArP {ds:List D}{K:List D→Prop}:X4 (.tup ds) K=K ds:=rfl
theorem Ar9 {ds:List D}{K:List D→Prop}:X4 (.lst ds) K=K ds:=rfl
theorem U3 {l:Nat}{o:AO}{K:AO→Prop}(e:h[l]? = some o):at_ h l K=K o:=by unfold at_;rw [e];rfl
theorem AsJ {ds:List D}{k:Int}:AaR (.tup ds) (.int k) h Q=J9 (idx ds k) fun d=>Q d h:=rfl
theorem ArX {ds:List D}{k:Int}:AaR (.lst ds) (.int k) h Q=J9 (idx ds k) fun d=>Q d h:=rfl
theorem Arw {l:Nat}{k:Int}:AaR (.loc l) (.int k) h Q=at_ h l fun o=>W6 o fun ds=>J9 (idx ds k) fun d=>Q d h:=rfl
theorem AsC {l:Nat}{x:List Nat}:AaR (.loc l) (.str x) h Q=at_ h l fun o=>W2 o fun ds=>J9 (find ds x) fun d=>Q d h:=rfl
theorem AoM {l a:Nat}:Af8 a (.loc l) h Q=at_ h l fun o=>Ack o fun _ fs=>J9 (fget fs a) fun d=>Q d h:=rfl
theorem AoA {l a:Nat}{K:Nat→Prop}:Agl (.loc l) a h K=at_ h l fun o=>Ack o fun c _=>J9 clsT[c]? fun ci=>J9 (nget ci.meths a) K:=rfl
theorem AbF {l:Nat}:isK h (.loc l) .list P=at_ h l fun o=>W6 o fun _=>P:=rfl
theorem Adw {l:Nat}:isK h (.loc l) .dict P=at_ h l fun o=>W2 o fun _=>P:=rfl
theorem Aqg {x:List Nat}:isK h (.str x) .str P=P:=rfl
theorem g_tt:grd true P=P:=rfl
theorem g_of {b:Bool}(e:b=true):grd b P=P:=by rw [e];rfl
theorem bt_t {β:Sort u}{x y:β}:bT true x y=x:=rfl
theorem bt_f {β:Sort u}{x y:β}:bT false x y=y:=rfl
theorem AqD:sEq [] []=true:=rfl
theorem AqF {b:Nat}{y:List Nat}:sEq [] (b::y)=false:=rfl
theorem AqL {a:Nat}{x:List Nat}:sEq (a::x) []=false:=rfl
theorem Aok {a b:Nat}{x y:List Nat}:sEq (a::x) (b::y)=((a==b)&&sEq x y):=rfl
theorem sEq_iff:∀{x y:List Nat},sEq x y=true↔x=y:=fun {x}=>by
 induction x with
 |nil=>intro y;cases y with
  |nil=>exact ⟨fun _=>rfl,fun _=>rfl⟩
  |cons b t=>exact ⟨fun h=>(nomatch h),fun h=>(nomatch h)⟩
 |cons a x ih=>intro y;cases y with
  |nil=>exact ⟨fun h=>(nomatch h),fun h=>(nomatch h)⟩
  |cons b t=>rw [Aok,Bool.and_eq_true,beq_iff_eq,ih,List.cons.injEq]
theorem Ae2 {x:List Nat}:sEq x x=true:=sEq_iff.mpr rfl
theorem ArJ {x y:List Nat}(h:x≠y):sEq x y=false:=Bool.eq_false_iff.mpr fun q=>h (sEq_iff.mp q)
theorem Apn {b:Bool}:(true&&b)=b:=rfl
theorem Ao9 {b:Bool}:(false&&b)=false:=rfl
theorem Ash {b:Bool}:(true||b)=true:=rfl
theorem AsS {b:Bool}:(false||b)=b:=rfl
theorem Ari:(false ^^ false)=false:=rfl
theorem AsT:(false ^^ true)=true:=rfl
theorem Ar2:(true ^^ false)=true:=rfl
theorem Arr:(true ^^ true)=false:=rfl
theorem nt_t:(!true)=false:=rfl
theorem nt_f:(!false)=true:=rfl
theorem le_0:Nat.ble 0 most=true:=rfl
theorem le_1:Nat.ble 1 most=true:=rfl
theorem le_2:Nat.ble 2 most=true:=rfl
theorem le_3:Nat.ble 3 most=true:=rfl
theorem le_4:Nat.ble 4 most=true:=rfl
theorem le_5:Nat.ble 5 most=true:=rfl
theorem le_6:Nat.ble 6 most=true:=rfl
theorem le_7:Nat.ble 7 most=true:=rfl
theorem le_8:Nat.ble 8 most=true:=rfl
theorem le_9:Nat.ble 9 most=true:=rfl
theorem Aab {a b:Nat}(h:a≤b):Nat.ble a b=true:=Nat.ble_eq_true_of_le h
theorem fd_n {x:List Nat}:find [] x=none:=rfl
theorem fd_c {k x:List Nat}{v:D}{r:List (List Nat×D)}:find ((k,v)::r) x=bT (sEq k x) (some v) (find r x):=rfl
theorem pk_n {x:List Nat}{d:D}:putK [] x d=[(x,d)]:=rfl
theorem pk_c {k x:List Nat}{v d:D}{r:List (List Nat×D)}:putK ((k,v)::r) x d=bT (sEq k x) ((k,d)::r) ((k,v)::putK r x d):=rfl
theorem dk_n {x:List Nat}:Acn [] x=[]:=rfl
theorem dk_c {k x:List Nat}{v:D}{r:List (List Nat×D)}:Acn ((k,v)::r) x=bT (sEq k x) r ((k,v)::Acn r x):=rfl
theorem pa_n {a:List (List Nat×D)}:Y3 a []=a:=rfl
theorem pa_c {a:List (List Nat×D)}{k:List Nat}{v:D}{r:List (List Nat×D)}:Y3 a ((k,v)::r)=Y3 (putK a k v) r:=rfl
theorem fg_n {x:Nat}:fget [] x=none:=rfl
theorem fg_c {k x:Nat}{v:D}{r:List (Nat×D)}:fget ((k,v)::r) x=bT (k==x) (some v) (fget r x):=rfl
theorem fp_n {x:Nat}{d:D}:fput [] x d=[(x,d)]:=rfl
theorem fp_c {k x:Nat}{v d:D}{r:List (Nat×D)}:fput ((k,v)::r) x d=bT (k==x) ((k,d)::r) ((k,v)::fput r x d):=rfl
theorem ng_n {x:Nat}:nget [] x=none:=rfl
theorem ng_c {k x v:Nat}{r:List (Nat×Nat)}:nget ((k,v)::r) x=bT (k==x) (some v) (nget r x):=rfl
theorem Aqp {y:List D}:zipD [] y=[]:=rfl
theorem Arz {a:D}{x:List D}:zipD (a::x) []=[]:=rfl
theorem zd_c {a b:D}{x y:List D}:zipD (a::x) (b::y)=.tup [a,b]::zipD x y:=rfl
theorem po_n:W5 []=some []:=rfl
theorem po_c {k:List Nat}{v:D}{r:List D}:W5 (.tup [.str k,v]::r)=(W5 r).map ((k,v)::·):=rfl
theorem sa_n {ρ:Ve}:Y7 [] [] ρ=some ρ:=rfl
theorem sa_c {i:Nat}{is:List Nat}{d:D}{ds:List D}{ρ:Ve}:Y7 (i::is) (d::ds) ρ=Y7 is ds (ρ.set i (some d)):=rfl
theorem ts_n {i:Nat}{d:D}{ρ:Ve}:Tg.set (.n i) d ρ=some (ρ.set i (some d)):=rfl
theorem ts_p {is:List Nat}{ds:List D}{ρ:Ve}:Tg.set (.p is) (.tup ds) ρ=Y7 is ds ρ:=rfl
theorem ts_q {i:Nat}{is:List Nat}{x:D}{ds:List D}{ρ:Ve}:Tg.set (.q i is) (.tup [x,.tup ds]) ρ=Y7 is ds (ρ.set i (some x)):=rfl
theorem li_1 {x:D}:V4 [x]=some ([],x):=rfl
theorem li_c {x y:D}{r:List D}:V4 (x::y::r)=(V4 (y::r)).map fun p=>(x::p.1,p.2):=rfl
theorem ae_n {d:D}:Adz d []=false:=rfl
theorem ae_c {d e:D}{r:List D}:Adz d (e::r)=(D.eqb e d||Adz d r):=rfl
theorem AqB {x y:List Nat}:D.eqb (.str x) (.str y)=sEq x y:=rfl
theorem ArY:D.eqb .none .none=true:=rfl
theorem Aq1 {x y:List D}:D.eqb (.tup x) (.tup y)=D.eqbAll x y:=rfl
theorem ArE {x y:List D}:D.eqb (.lst x) (.lst y)=D.eqbAll x y:=rfl
theorem AqX:D.eqbAll [] []=true:=rfl
theorem Asz {y:D}{ys:List D}:D.eqbAll [] (y::ys)=false:=rfl
theorem Aqt {x:D}{xs:List D}:D.eqbAll (x::xs) []=false:=rfl
theorem AsY {x y:D}{xs ys:List D}:D.eqbAll (x::xs) (y::ys)=(D.eqb x y&&D.eqbAll xs ys):=rfl
theorem q_op {a b x y:D}(ea:∀K,opK h a K=K x)(eb:∀K,opK h b K=K y)(ok:okEq x y=true):Eo (cmpD .eq a b h) Q X=Q (.bool (D.eqb x y)) h:=by
 show opK h a (fun x=>opK h b fun y=>grd (okEq x y) (Q (.bool (false ^^ D.eqb x y)) h))=_
 rw [ea,eb,g_of ok,Bool.false_xor]
theorem Ajq {a b x y:D}(ea:∀K,opK h a K=K x)(eb:∀K,opK h b K=K y)(ok:okEq x y=true):Eo (cmpD .ne a b h) Q X=Q (.bool (!D.eqb x y)) h:=by
 show opK h a (fun x=>opK h b fun y=>grd (okEq x y) (Q (.bool (true ^^ D.eqb x y)) h))=_
 rw [ea,eb,g_of ok,Bool.true_xor]
theorem ArA {x y:List Nat}:Eo (cmpD .eq (.str x) (.str y) h) Q X=Q (.bool (false ^^ sEq x y)) h:=rfl
theorem Arq {x y:List Nat}:Eo (cmpD .ne (.str x) (.str y) h) Q X=Q (.bool (true ^^ sEq x y)) h:=rfl
theorem AgJ:Eo (cmpD .isN .none .none h) Q X=Q (.bool true) h:=rfl
theorem Ah8 {x:List Nat}:Eo (cmpD .isN (.str x) .none h) Q X=Q (.bool false) h:=rfl
theorem Aio {x:List D}:Eo (cmpD .isN (.tup x) .none h) Q X=Q (.bool false) h:=rfl
theorem AiW {x:Int}:Eo (cmpD .isN (.int x) .none h) Q X=Q (.bool false) h:=rfl
theorem Ai1 {x:Nat}:Eo (cmpD .isN (.loc x) .none h) Q X=Q (.bool false) h:=rfl
theorem AeT:Eo (cmpD .isnN .none .none h) Q X=Q (.bool false) h:=rfl
theorem AgC {x:List Nat}:Eo (cmpD .isnN (.str x) .none h) Q X=Q (.bool true) h:=rfl
theorem Agu {x:List D}:Eo (cmpD .isnN (.tup x) .none h) Q X=Q (.bool true) h:=rfl
theorem Af9 {x:Nat}:Eo (cmpD .isnN (.loc x) .none h) Q X=Q (.bool true) h:=rfl
theorem q_in {a:D}{ds:List D}:Eo (cmpD .isin a (.tup ds) h) Q X=grd (okIn a ds) (Q (.bool (false ^^ Adz a ds)) h):=rfl
theorem AqI {a:D}{ds:List D}:Eo (cmpD .nin a (.tup ds) h) Q X=grd (okIn a ds) (Q (.bool (true ^^ Adz a ds)) h):=rfl
theorem Aqz {P:Prop}:tabK .tab P=P:=rfl
theorem rv_l {ds:List D}{K:D→Prop}:revK (.lst ds) K=grd (Nat.ble ds.length most) (K (.lst ds.reverse)):=rfl
theorem ra_2 {a b:D}{P:Prop}:AbX [a,b] P=P:=rfl
theorem nk_n {P:Prop}:newK .none P=P:=rfl
theorem tk_c {k c:Nat}{ρ:Ve}{Q:Fl→Ve→Hp→Prop}:tryK k .cont c ρ h Q=grd (under c k) (Q .ct ρ h):=rfl
theorem tk_r {k c:Nat}{d:D}{ρ:Ve}{Q:Fl→Ve→Hp→Prop}:tryK k (.ret d) c ρ h Q=grd (under c k) (Q (.rt d) ρ h):=rfl
theorem un_d {c k:Nat}:under c k=(c==k||k==0):=rfl
theorem bk_1:bmK .append=.list:=rfl
theorem bk_2:bmK .pop=.list:=rfl
theorem bk_3:bmK .pop0=.list:=rfl
theorem bk_4:bmK .extend=.list:=rfl
theorem bk_5:bmK .get1=.dict:=rfl
theorem bk_6:bmK .get2=.dict:=rfl
theorem bk_7:bmK .dpop2=.dict:=rfl
theorem bk_8:bmK .update=.dict:=rfl
theorem bk_9:bmK .join=.str:=rfl
theorem oi_s {x:List Nat}{ds:List D}:okIn (.str x) ds=D.plainAll ds:=rfl
theorem pl_s {x:List Nat}:D.plain (.str x)=true:=rfl
theorem pl_i {x:Int}:D.plain (.int x)=true:=rfl
theorem pl_n:D.plain .none=true:=rfl
theorem pl_b {x:Bool}:D.plain (.bool x)=true:=rfl
theorem pl_t {x:List D}:D.plain (.tup x)=D.plainAll x:=rfl
theorem pl_l {x:List D}:D.plain (.lst x)=D.plainAll x:=rfl
theorem pa_0:D.plainAll []=true:=rfl
theorem pa_1 {d:D}{ds:List D}:D.plainAll (d::ds)=(D.plain d&&D.plainAll ds):=rfl
theorem so_0:AcU []=[]:=rfl
theorem so_1 {x:List Nat}:AcU [x]=[x]:=rfl
theorem AjL {l:Nat}{x:D}:Eo (bmD .append (.loc l) [x] h) Q X=at_ h l fun o=>W6 o fun ds=>grd (Nat.ble ds.length most) (Q .none (h.set l (.list (ds++[x])))):=rfl
theorem As5 {l:Nat}:Eo (bmD .pop (.loc l) [] h) Q X=at_ h l fun o=>W6 o fun ds=>J9 (V4 ds) fun p=>grd (Nat.ble ds.length most) (Q p.2 (h.set l (.list p.1))):=rfl
theorem Arc {l:Nat}{x:D}:Eo (bmD .extend (.loc l) [x] h) Q X=at_ h l fun o=>W6 o fun ds=>X4 x fun es=>grd (Nat.ble (ds.length+es.length) most) (Q .none (h.set l (.list (ds++es)))):=rfl
theorem AoX {l:Nat}{x:List Nat}:Eo (bmD .get1 (.loc l) [.str x] h) Q X=at_ h l fun o=>W2 o fun kvs=>Q ((find kvs x).getD .none) h:=rfl
theorem AoO {l:Nat}{x:List Nat}{d:D}:Eo (bmD .get2 (.loc l) [.str x,d] h) Q X=at_ h l fun o=>W2 o fun kvs=>Q ((find kvs x).getD d) h:=rfl
theorem Apl {l:Nat}{x:List Nat}{d:D}:Eo (bmD .dpop2 (.loc l) [.str x,d] h) Q X=at_ h l fun o=>W2 o fun kvs=>@Option.casesOn _ (fun _=>Prop) (find kvs x) (Q d h) fun v=>grd (Nat.ble kvs.length most) (Q v (h.set l (.dict (Acn kvs x)))):=rfl
theorem AoQ {l l':Nat}:Eo (bmD .update (.loc l) [.loc l'] h) Q X=(grd (!(l==l')) <| at_ h l fun o=>W2 o fun kvs=>at_ h l' fun o=>W2 o fun more=>grd (Nat.ble (kvs.length+more.length) most) (Q .none (h.set l (.dict (Y3 kvs more))))):=rfl
theorem An8 {x:List Nat}{ds:List D}:Eo (bmD .join (.str x) [.tup ds] h) Q X=J9 (AbZ ds) fun ss=>grd (Nat.ble ((ss.map List.length).sum+ss.length * x.length) most) (Q (.str (AcM x ss)) h):=rfl
theorem ApF {x y:Int}:Eo (cmpD .eq (.int x) (.int y) h) Q X=Q (.bool (false ^^ (x==y))) h:=rfl
theorem cl5:clsT[5]? = some { addr:=270,init:=7,meths:=[(19,8),(11,9),(7,10),(17,11),(16,12),(18,13),(8,14),(9,15),(12,16),(13,17),(14,18),(23,19),(15,20),(26,21),(27,22)],isExc:=false }:=rfl
theorem cl6:clsT[6]? = some { addr:=381,init:=27,meths:=[(45,28),(30,29),(10,30),(31,31),(32,32),(33,33),(21,34)],isExc:=false }:=rfl
theorem cl7:clsT[7]? = some { addr:=637,init:=35,meths:=[(45,36),(10,37),(21,38),(46,39),(22,40),(49,41),(24,42),(50,43),(20,44),(48,45)],isExc:=false }:=rfl
theorem cl8:clsT[8]? = some { addr:=693,init:=50,meths:=[],isExc:=false }:=rfl
theorem cl9:clsT[9]? = some { addr:=726,init:=51,meths:=[(61,52),(71,53)],isExc:=false }:=rfl
theorem cl10:clsT[10]? = some { addr:=845,init:=54,meths:=[(67,55),(22,56),(69,57),(70,58),(68,59),(76,60),(51,61),(72,62),(73,63),(74,64),(75,65),(77,66)],isExc:=false }:=rfl
theorem Asr {x:List Nat}{l:Nat}:Eo (cmpD .isin (.str x) (.loc l) h) Q X=at_ h l fun o=>W2 o fun kvs=>Q (.bool (false ^^ (find kvs x).isSome)) h:=rfl
theorem AoU {x:List Nat}{l:Nat}:Eo (cmpD .nin (.str x) (.loc l) h) Q X=at_ h l fun o=>W2 o fun kvs=>Q (.bool (true ^^ (find kvs x).isSome)) h:=rfl
theorem q_lt {x y:Int}:Eo (cmpD .lt (.int x) (.int y) h) Q X=Q (.bool (decide (x < y))) h:=rfl
theorem q_gt {x y:Int}:Eo (cmpD .gt (.int x) (.int y) h) Q X=Q (.bool (decide (y < x))) h:=rfl
theorem q_le {x y:Int}:Eo (cmpD .le (.int x) (.int y) h) Q X=Q (.bool (decide (x≤y))) h:=rfl
theorem q_ge {x y:Int}:Eo (cmpD .ge (.int x) (.int y) h) Q X=Q (.bool (decide (y≤x))) h:=rfl
theorem Arp {x y:Int}:Eo (binD .add (.int x) (.int y) h) Q X=Q (.int (x+y)) h:=rfl
theorem As8 {x y:Int}:Eo (binD .sub (.int x) (.int y) h) Q X=Q (.int (x - y)) h:=rfl
theorem Ap6 {x y:List Nat}:Eo (binD .add (.str x) (.str y) h) Q X=(grd (Nat.ble (x.length+y.length) most) <| Q (.str (x++y)) h):=rfl
theorem Ap0 {ds:List D}{K:List D→Prop}:seqK h (.tup ds) K=K ds:=rfl
theorem Apg {ds:List D}{K:List D→Prop}:seqK h (.lst ds) K=K ds:=rfl
theorem ApH {l:Nat}{K:List D→Prop}:seqK h (.loc l) K=at_ h l fun o=>W6 o K:=rfl
theorem AsB {d:D}:Eo (biD .len [d] h) Q X=seqK h d fun ds=>grd (Nat.ble ds.length most) <| Q (.int ds.length) h:=rfl
theorem AmA {d:D}:Eo (biD .tuple [d] h) Q X=seqK h d fun ds=>grd (Nat.ble ds.length most) <| Q (.tup ds) h:=rfl
theorem AnN {d:D}:Eo (biD .list [d] h) Q X=seqK h d fun ds=>grd (Nat.ble ds.length most) <| Q (.lst ds) h:=rfl
theorem ArC {b:Bool}:Eo (biD .isBool [.bool b] h) Q X=Q (.bool true) h:=rfl
theorem AqE {b:Int}:Eo (biD .isBool [.int b] h) Q X=Q (.bool false) h:=rfl
theorem Aqd {l:Nat}:Eo (biD .dict [.loc l] h) Q X=at_ h l fun o=>W2 o fun kvs=>grd (Nat.ble kvs.length most) <| Q (.loc h.length) (h++[.dict kvs]):=rfl
theorem Ake {l:Nat}:Eo (biD .sorted [.loc l] h) Q X=at_ h l fun o=>W2 o fun kvs=>grd (Nat.blt kvs.length 60) <| Q (.lst ((AcU (kvs.map (·.1))).map D.str)) h:=rfl
theorem Aix {xs ys:List D}:Eo (biD .dictzip [.tup xs,.tup ys] h) Q X=J9 (W5 (zipD xs ys)) fun kvs=>grd (Nat.ble kvs.length most) <| Q (.loc h.length) (h++[.dict (Y3 [] kvs)]):=rfl
theorem Ag2 {xs ys:List D}:Eo (biD .listzip [.tup xs,.tup ys] h) Q X=(grd (Nat.ble xs.length most) <| grd (Nat.ble ys.length most) <| Q (.lst (zipD xs ys)) h):=rfl
theorem x10 {a:D}:idx [a] 0=some a:=rfl
theorem x20 {a b:D}:idx [a,b] 0=some a:=rfl
theorem x21 {a b:D}:idx [a,b] 1=some b:=rfl
theorem x30 {a b c:D}:idx [a,b,c] 0=some a:=rfl
theorem x31 {a b c:D}:idx [a,b,c] 1=some b:=rfl
theorem x32 {a b c:D}:idx [a,b,c] 2=some c:=rfl
theorem x40 {a b c d:D}:idx [a,b,c,d] 0=some a:=rfl
theorem x41 {a b c d:D}:idx [a,b,c,d] 1=some b:=rfl
theorem x42 {a b c d:D}:idx [a,b,c,d] 2=some c:=rfl
theorem x43 {a b c d:D}:idx [a,b,c,d] 3=some d:=rfl
theorem x50 {a b c d e:D}:idx [a,b,c,d,e] 0=some a:=rfl
theorem x51 {a b c d e:D}:idx [a,b,c,d,e] 1=some b:=rfl
theorem x52 {a b c d e:D}:idx [a,b,c,d,e] 2=some c:=rfl
theorem x53 {a b c d e:D}:idx [a,b,c,d,e] 3=some d:=rfl
theorem x54 {a b c d e:D}:idx [a,b,c,d,e] 4=some e:=rfl
theorem x60 {a b c d e f:D}:idx [a,b,c,d,e,f] 0=some a:=rfl
theorem x61 {a b c d e f:D}:idx [a,b,c,d,e,f] 1=some b:=rfl
theorem x62 {a b c d e f:D}:idx [a,b,c,d,e,f] 2=some c:=rfl
theorem x63 {a b c d e f:D}:idx [a,b,c,d,e,f] 3=some d:=rfl
theorem x64 {a b c d e f:D}:idx [a,b,c,d,e,f] 4=some e:=rfl
theorem x65 {a b c d e f:D}:idx [a,b,c,d,e,f] 5=some f:=rfl
theorem x70 {a b c d e f g:D}:idx [a,b,c,d,e,f,g] 0=some a:=rfl
theorem x71 {a b c d e f g:D}:idx [a,b,c,d,e,f,g] 1=some b:=rfl
theorem x72 {a b c d e f g:D}:idx [a,b,c,d,e,f,g] 2=some c:=rfl
theorem x73 {a b c d e f g:D}:idx [a,b,c,d,e,f,g] 3=some d:=rfl
theorem x74 {a b c d e f g:D}:idx [a,b,c,d,e,f,g] 4=some e:=rfl
theorem x75 {a b c d e f g:D}:idx [a,b,c,d,e,f,g] 5=some f:=rfl
theorem x76 {a b c d e f g:D}:idx [a,b,c,d,e,f,g] 6=some g:=rfl
theorem y11 {a:D}:idx [a] (-((1:Nat):Int))=some a:=rfl
theorem y21 {a b:D}:idx [a,b] (-((1:Nat):Int))=some b:=rfl
theorem y22 {a b:D}:idx [a,b] (-((2:Nat):Int))=some a:=rfl
end
end Mine
end
section
namespace Mine
noncomputable abbrev Qle {α:Type}(Q Q':α→Hp→Prop):Prop:=∀a h,Q a h→Q' a h
noncomputable abbrev Xle (X X':Nat→Hp→Prop):Prop:=∀c h,X c h→X' c h
section
variable {P P' R R':Prop}{h:Hp}
theorem J3 {α:Type}{o:Option α}{K K':α→Prop}(m:∀a,K a→K' a):J9 o K→J9 o K':=by cases o;exact id;exact m _
theorem AnR {α:Type}{o:Option α}{K K':α→Prop}(n:P→P')(m:∀a,K a→K' a):@Option.casesOn α (fun _=>Prop) o P K→@Option.casesOn α (fun _=>Prop) o P' K':=by cases o;exact n;exact m _
theorem Y0 {b:Bool}(m:P→P'):grd b P→grd b P':=by cases b;exact id;exact m
theorem m_br {d:D}(m:P→P')(n:R→R'):br d P R→br d P' R':=by
 cases d<;>first|exact id|(rename_i b;cases b;exact n;exact m)
theorem Aav {o:AO}{K K':List D→Prop}(m:∀a,K a→K' a):W6 o K→W6 o K':=by cases o<;>first|exact m _|exact id
theorem AaW {o:AO}{K K':List (List Nat×D)→Prop}(m:∀a,K a→K' a):W2 o K→W2 o K':=by cases o<;>first|exact m _|exact id
theorem AhL {o:AO}{K K':Nat→List (Nat×D)→Prop}(m:∀a b,K a b→K' a b):Ack o K→Ack o K':=by cases o<;>first|exact m _ _|exact id
theorem AmS {o:AO}(m:P→P'):tabK o P→tabK o P':=by cases o<;>first|exact m|exact id
theorem AaP {d:D}{K K':Int→Prop}(m:∀a,K a→K' a):intK d K→intK d K':=by cases d<;>first|exact m _|exact id
theorem ApC {d:D}{K K':Bool→Prop}(m:∀a,K a→K' a):AhB d K→AhB d K':=by cases d<;>first|exact m _|exact id
theorem Afa {d:D}{K K':List Nat→Prop}(m:∀a,K a→K' a):strK d K→strK d K':=by cases d<;>first|exact m _|exact id
theorem Apu {d:D}{K K':List D→Prop}(m:∀a,K a→K' a):tupK d K→tupK d K':=by cases d<;>first|exact m _|exact id
theorem Asj {d:D}{K K':List D→Prop}(m:∀a,K a→K' a):lstK d K→lstK d K':=by cases d<;>first|exact m _|exact id
theorem AcR {d:D}{K K':Nat→Prop}(m:∀a,K a→K' a):locK d K→locK d K':=by cases d<;>first|exact m _|exact id
theorem AaH {d:D}{K K':List D→Prop}(m:∀a,K a→K' a):X4 d K→X4 d K':=by cases d<;>first|exact m _|exact id
theorem m_ls {d:D}{K K':List D→Prop}(m:∀a,K a→K' a):lsK h d K→lsK h d K':=by cases d<;>first|exact m _|exact id|exact J3 fun _=>Aav m
theorem Amh {d:D}{K K':List D→Prop}(m:∀a,K a→K' a):seqK h d K→seqK h d K':=by cases d<;>first|exact m _|exact id|exact J3 fun _=>Aav m
theorem m_op {d:D}{K K':D→Prop}(m:∀a,K a→K' a):opK h d K→opK h d K':=by cases d<;>first|exact m _|exact J3 fun _=>Aav fun _=>m _
theorem Apz {l:List D}{K K':D→List D→Prop}(m:∀a b,K a b→K' a b):Amz l K→Amz l K':=by cases l<;>first|exact m _ _|exact id
theorem Asl {α:Type}{l:List α}(m:P→P'):nilK l P→nilK l P':=by cases l<;>first|exact m|exact id
theorem Apj {l:List D}{K K':D→Prop}(m:∀a,K a→K' a):oneK l K→oneK l K':=by
 cases l with
 |nil=>exact id
 |cons a l=>cases l<;>first|exact m _|exact id
theorem Aq3 {l:List D}{K K':D→D→Prop}(m:∀a b,K a b→K' a b):twoK l K→twoK l K':=by
 cases l with
 |nil=>exact id
 |cons a l=>cases l with
  |nil=>exact id
  |cons b l=>cases l<;>first|exact m _ _|exact id
theorem Ang {l:List D}(m:P→P'):AbX l P→AbX l P':=by
 cases l with
 |nil=>exact id
 |cons a l=>cases l with
  |nil=>exact id
  |cons b l=>cases l<;>first|exact m|exact id
theorem AqH {d:D}(m:P→P'):newK d P→newK d P':=by cases d<;>first|exact id|exact m
theorem m_fl {f:Fl}(m:P→P')(n:R→R'):flK f P R→flK f P' R':=by cases f<;>first|exact m|exact n
theorem m_lp {f:Fl}(m:P→P')(n:R→R'):lpK f P R→lpK f P' R':=by cases f<;>first|exact m|exact n
theorem Ar4 {f:Fl}{K K':D→Prop}(m:∀a,K a→K' a):retK f K→retK f K':=by cases f<;>first|exact m _|exact id
end
noncomputable abbrev Mn {α:Type}(x:M α):Prop:=∀(h:Hp) (Q Q':α→Hp→Prop) (X X':Nat→Hp→Prop),Qle Q Q'→Xle X X'→x h Q X→x h Q' X'
theorem n_eq {n:Bool}{a b:D}:Mn (eqD n a b):=fun h Q Q' X X' q x=>m_op fun _=>m_op fun _=>Y0 (q _ _)
theorem Ask {f:Int→Int→Bool}{a b:D}:Mn (ordD f a b):=fun h Q Q' X X' q x=>AaP fun _=>AaP fun _=>q _ _
theorem Aqh {n:Bool}{a:D}:Mn (Afc n a):=fun h Q Q' X X' q x=>by cases a<;>first|exact q _ _|exact id
theorem n_in {n:Bool}{a b:D}:Mn (inD n a b):=fun h Q Q' X X' q x=>by cases b<;>first|exact id|exact Y0 (q _ _)|exact J3 fun _=>AaW fun _=>Afa fun _=>q _ _
theorem Asu {op:Cm}{a b:D}:Mn (cmpD op a b):=by cases op<;>first|exact n_eq|exact Ask|exact Aqh|exact n_in
theorem Ast {op:Bo}{a b:D}:Mn (binD op a b):=by
 cases op
 ·exact fun h Q Q' X X' q x=>by cases a<;>first|exact id|exact AaP fun _=>q _ _|exact Afa fun _=>Y0 (q _ _)|exact Apu fun _=>Y0 (Y0 (q _ _))|exact m_ls fun _=>Y0 (q _ _)|exact J3 fun _=>Aav fun _=>m_ls fun _=>Y0 (q _ _)
 ·exact fun h Q Q' X X' q x=>AaP fun _=>AaP fun _=>q _ _
 ·exact fun h Q Q' X X' q x=>by cases a<;>first|exact id|exact AaP fun _=>Y0 (q _ _)
 ·exact fun h Q Q' X X' q x=>AaP fun _=>AaP fun _=>Y0 (q _ _)
 ·exact fun h Q Q' X X' q x=>AaP fun _=>AaP fun _=>Y0 (q _ _)
 ·exact fun h Q Q' X X' q x=>AaP fun _=>AaP fun _=>Y0 (q _ _)
 ·exact fun h Q Q' X X' q x=>m_ls fun _=>m_ls fun _=>Y0 (q _ _)
theorem n_un {as:List D}{f:D→M D}(m:∀d,Mn (f d)):Mn (un as f):=fun h Q Q' X X' q x=>Apj fun d=>m d h Q Q' X X' q x
theorem n_du {as:List D}{f:D→D→M D}(m:∀a b,Mn (f a b)):Mn (du as f):=fun h Q Q' X X' q x=>Aq3 fun a b=>m a b h Q Q' X X' q x
theorem n_lu {o:D}{f:Nat→M D}(m:∀l,Mn (f l)):Mn (lu o f):=fun h Q Q' X X' q x=>AcR fun l=>m l h Q Q' X X' q x
theorem n_bi {b:Bi}{as:List D}:Mn (biD b as):=by
 cases b
 ·exact n_un fun d h Q Q' X X' q x=>Amh fun _=>Y0 (q _ _)
 ·exact n_un fun d h Q Q' X X' q x=>AaP fun _=>Y0 (q _ _)
 ·exact n_un fun d h Q Q' X X' q x=>by cases d<;>first|exact q _ _|exact id
 ·exact n_du fun a b h Q Q' X X' q x=>AaP fun _=>AaP fun _=>q _ _
 ·exact n_un fun d h Q Q' X X' q x=>ApC fun _=>q _ _
 ·exact n_un fun d h Q Q' X X' q x=>Amh fun _=>Y0 (q _ _)
 ·exact n_un fun d h Q Q' X X' q x=>Amh fun _=>Y0 (q _ _)
 ·exact n_un fun d h Q Q' X X' q x=>AcR fun _=>J3 fun _=>AaW fun _=>Y0 (q _ _)
 ·exact n_un fun d h Q Q' X X' q x=>AcR fun _=>J3 fun _=>AaW fun _=>Y0 (q _ _)
 ·exact n_du fun a b h Q Q' X X' q x=>AaH fun _=>AaH fun _=>J3 fun _=>Y0 (q _ _)
 ·exact n_du fun a b h Q Q' X X' q x=>AaH fun _=>AaH fun _=>Y0 (Y0 (q _ _))
theorem n_bm {b:Bm}{o:D}{as:List D}:Mn (bmD b o as):=by
 cases b
 ·exact n_lu fun l=>n_un fun d h Q Q' X X' q x=>J3 fun _=>Aav fun _=>Y0 (q _ _)
 ·exact n_lu fun l h Q Q' X X' q x=>Asl (J3 fun _=>Aav fun _=>J3 fun _=>Y0 (q _ _))
 ·exact n_lu fun l=>n_un fun d h Q Q' X X' q x=>AaP fun _=>Y0 (J3 fun _=>Aav fun _=>Apz fun _ _=>Y0 (q _ _))
 ·exact n_lu fun l=>n_un fun d h Q Q' X X' q x=>J3 fun _=>Aav fun _=>AaH fun _=>Y0 (q _ _)
 ·exact n_lu fun l=>n_un fun d h Q Q' X X' q x=>J3 fun _=>AaW fun _=>Afa fun _=>q _ _
 ·exact n_lu fun l=>n_du fun a b h Q Q' X X' q x=>J3 fun _=>AaW fun _=>Afa fun _=>q _ _
 ·exact n_lu fun l=>n_du fun a b h Q Q' X X' q x=>J3 fun _=>AaW fun kvs=>Afa fun y=>AnR (o:=find kvs y) (q _ _) fun _=>Y0 (q _ _)
 ·exact n_lu fun l=>n_un fun d h Q Q' X X' q x=>AcR fun _=>Y0 (J3 fun _=>AaW fun _=>J3 fun _=>AaW fun _=>Y0 (q _ _))
 ·exact fun h Q Q' X X' q x=>Afa fun _=>Apj fun _=>Apu fun _=>J3 fun _=>Y0 (q _ _)
theorem Alj {a k:D}{h:Hp}{Q Q':D→Hp→Prop}(q:Qle Q Q'):AaR a k h Q→AaR a k h Q':=by
 cases a<;>first|exact id|exact AaP fun _=>J3 fun _=>q _ _|(cases k<;>first|exact id|exact J3 fun _=>Aav fun _=>J3 fun _=>q _ _|exact J3 fun _=>AaW fun _=>J3 fun _=>q _ _)
theorem Arf {o:D}{k:Kd}{h:Hp}{P P':Prop}(m:P→P'):isK h o k P→isK h o k P':=by
 cases k<;>first|exact AcR fun _=>J3 fun _=>Aav fun _=>m|exact AcR fun _=>J3 fun _=>AaW fun _=>m|exact Afa fun _=>m
theorem n_ao {a:Bool}{d:D}{h:Hp}{Q Q':D→Hp→Prop}{P P':Prop}(q1:Q (.bool true) h→Q' (.bool true) h)(q2:Q (.bool false) h→Q' (.bool false) h)(p:P→P'):aoK a d h Q P→aoK a d h Q' P':=by
 cases a
 ·exact m_br q1 p
 ·exact m_br p q2
end Mine
end
section
namespace Mine
noncomputable abbrev Le {α:Type}(x y:ST α):Prop:=∀(ρ:Ve) (h:Hp) (Q Q':α→Hp→Prop) (X X':Nat→Hp→Prop),Qle Q Q'→Xle X X'→x ρ h Q X→y ρ h Q' X'
noncomputable abbrev LeS (x y:SS):Prop:=∀(ρ:Ve) (h:Hp) (Q Q':Fl→Ve→Hp→Prop) (X X':Nat→Ve→Hp→Prop),(∀f ρ h,Q f ρ h→Q' f ρ h)→(∀c ρ h,X c ρ h→X' c ρ h)→x ρ h Q X→y ρ h Q' X'
noncomputable abbrev LeC (cf cf':CF):Prop:=∀(f:Nat) (as:List D) (h:Hp) (Q Q':D→Hp→Prop) (X X':Nat→Hp→Prop),Qle Q Q'→Xle X X'→cf f as h Q X→cf' f as h Q' X'
theorem m_ev {α:Type}{r r':Rw α}{Q Q':α→Hp→Prop}{X X':Nat→Hp→Prop}(m:r Q X→r' Q' X'):Ev r Q X→Ev r' Q' X':=fun k=>AkN (m (Abk k))
theorem Ap5 {s s':ST D}(m:Le s s'){t:Tg}{ρ:Ve}{X X':Nat→Hp→Prop}(x:Xle X X')(ds:List D):∀(h:Hp) (Q Q':List D→Hp→Prop),Qle Q Q'→cmpL s t ρ ds h Q X→cmpL s' t ρ ds h Q' X':=by
 induction ds with
 |nil=>exact fun h Q Q' q=>q _ _
 |cons d ds ih=>exact fun h Q Q' q=>J3 (o:=t.set d ρ) fun ρ'=>m ρ' h _ _ _ _ (fun x h1=>ih h1 _ _ fun xs h2=>q _ _) x
theorem Ara {s s' c c':ST D}(m:Le s s')(mc:Le c c'){t:Tg}{ρ:Ve}{X X':Nat→Hp→Prop}(x:Xle X X')(ds:List D):∀(h:Hp) (Q Q':List D→Hp→Prop),Qle Q Q'→cmtL s c t ρ ds h Q X→cmtL s' c' t ρ ds h Q' X':=by
 induction ds with
 |nil=>exact fun h Q Q' q=>q _ _
 |cons d ds ih=>exact fun h Q Q' q=>J3 (o:=t.set d ρ) fun ρ'=>mc ρ' h _ _ _ _ (fun b h1=>m_br (d:=b) (m ρ' h1 _ _ _ _ (fun x h2=>ih h2 _ _ fun xs h3=>q _ _) x) (ih h1 _ _ q)) x
theorem AsD {s s':ST D}(m:Le s s'){t:Tg}{ρ:Ve}{l:Nat}{X X':Nat→Hp→Prop}(x:Xle X X')(n:Nat):∀(i:Nat) (h:Hp) (Q Q':List D→Hp→Prop),Qle Q Q'→cmaL s t ρ l n i h Q X→cmaL s' t ρ l n i h Q' X':=by
 induction n with
 |zero=>exact fun i h Q Q' q=>id
 |succ n ih=>exact fun i h Q Q' q=>J3 (o:=h[l]?) fun o=>Aav (o:=o) fun ds=>AnR (o:=ds[i]?) (q _ _) fun d=>J3 (o:=t.set d ρ) fun ρ'=>m ρ' h _ _ _ _ (fun x h1=>ih (i+1) h1 _ _ fun xs h2=>q _ _) x
theorem Aqv {c c':ST D}{b b':SS}(mc:Le c c')(mb:LeS b b'){Q Q':Fl→Ve→Hp→Prop}{X X':Nat→Ve→Hp→Prop}(q:∀f ρ h,Q f ρ h→Q' f ρ h)(x:∀c ρ h,X c ρ h→X' c ρ h)(k:Nat):∀(ρ:Ve) (h:Hp),whL c b k ρ h Q X→whL c' b' k ρ h Q' X':=by
 induction k with
 |zero=>exact fun ρ h=>id
 |succ k ih=>exact fun ρ h=>mc ρ h _ _ _ _ (fun d h1=>m_br (d:=d) (mb ρ h1 _ _ _ _ (fun f ρ' h2=>m_lp (f:=f) (ih ρ' h2) (q f ρ' h2)) x) (q .nx ρ h1)) fun c h1=>x c ρ h1
theorem Asx {b b':SS}(mb:LeS b b'){t:Tg}{Q Q':Fl→Ve→Hp→Prop}{X X':Nat→Ve→Hp→Prop}(q:∀f ρ h,Q f ρ h→Q' f ρ h)(x:∀c ρ h,X c ρ h→X' c ρ h)(ds:List D):∀(ρ:Ve) (h:Hp),frL t b ds ρ h Q X→frL t b' ds ρ h Q' X':=by
 induction ds with
 |nil=>exact fun ρ h=>q _ _ _
 |cons d ds ih=>exact fun ρ h=>J3 (o:=t.set d ρ) fun ρ1=>mb ρ1 h _ _ _ _ (fun f ρ' h2=>m_lp (f:=f) (ih ρ' h2) (q f ρ' h2)) x
theorem Asv {s s':ST D}(m:Le s s'){t:Tg}{ρ:Ve}{d:D}{h:Hp}{Q Q':D→Hp→Prop}{X X':Nat→Hp→Prop}(q:Qle Q Q')(x:Xle X X'):comK s t ρ d h Q X→comK s' t ρ d h Q' X':=by
 cases d<;>first|exact id|exact Y0 (Ap5 m x _ h _ _ fun _ _=>q _ _)|exact J3 fun _=>Aav fun _=>Y0 (AsD m x _ 0 h _ _ fun _ _=>q _ _)
section
variable {cf cf':CF}(mc:LeC cf cf')
include mc
theorem Alz (e:Ex):Le (fun ρ h Q X=>wE cf e ρ h Q X) (fun ρ h Q X=>wE cf' e ρ h Q X):=by
 refine @Ex.rec (fun e=>Le (fun ρ h Q X=>wE cf e ρ h Q X) (fun ρ h Q X=>wE cf' e ρ h Q X)) (fun es=>Le (fun ρ h Q X=>wEs cf es ρ h Q X) (fun ρ h Q X=>wEs cf' es ρ h Q X)∧∀a,Le (fun ρ h Q X=>wAO cf a es ρ h Q X) (fun ρ h Q X=>wAO cf' a es ρ h Q X)) ?_ ?_ ?_ ?_ ?_ ?_ ?_ ?_ ?_ ?_ ?_ ?_ ?_ ?_ ?_ ?_ ?_ ?_ ?_ ?_ ?_ ?_ ?_ ?_ ?_ ?_ ?_ ?_ e
 ·exact fun d ρ h Q Q' X X' q x=>q _ _
 ·exact fun k ρ h Q Q' X X' q x=>q _ _
 ·exact fun i ρ h Q Q' X X' q x=>J3 (o:=ρ[i]?) fun o=>J3 (o:=o) fun d=>q _ _
 ·exact fun es r ρ h Q Q' X X' q x=>r.1 ρ h _ _ _ _ (fun ds h1=>q _ _) x
 ·exact fun es r ρ h Q Q' X X' q x=>r.1 ρ h _ _ _ _ (fun ds h1=>q _ _) x
 ·exact fun es r ρ h Q Q' X X' q x=>r.1 ρ h _ _ _ _ (fun ds h1=>q _ _) x
 ·exact fun ks es r ρ h Q Q' X X' q x=>r.1 ρ h _ _ _ _ (fun ds h1=>Y0 (q _ _)) x
 ·exact fun e i re ri ρ h Q Q' X X' q x=>re ρ h _ _ _ _ (fun a h1=>ri ρ h1 _ _ _ _ (fun k h2=>Alj q) x) x
 ·exact fun es i r ri ρ h Q Q' X X' q x=>r.1 ρ h _ _ _ _ (fun ds h1=>ri ρ h1 _ _ _ _ (fun k h2=>Alj q) x) x
 ·exact fun e re ρ h Q Q' X X' q x=>re ρ h _ _ _ _ (fun a h1=>Asj fun ds=>Y0 (q _ _)) x
 ·exact fun e a re ρ h Q Q' X X' q x=>re ρ h _ _ _ _ (fun d h1=>AcR fun l=>J3 fun o=>AhL fun _ fs=>J3 fun d=>q _ _) x
 ·exact fun f es r ρ h Q Q' X X' q x=>r.1 ρ h _ _ _ _ (fun ds h1=>m_ev (mc f ds h1 _ _ _ _ q x)) x
 ·exact fun f es r ρ h Q Q' X X' q x=>r.1 ρ h _ _ _ _ (fun ds h1=>Y0 (J3 fun o=>AmS (m_ev (mc f ds _ _ _ _ _ (fun d h'=>J3 fun o=>AmS (m_op fun d'=>Y0 (q _ _))) fun _ _=>id)))) x
 ·exact fun a e es re r ρ h Q Q' X X' q x=>re ρ h _ _ _ _ (fun o h1=>AcR fun l=>J3 fun o'=>AhL fun c _=>J3 fun ci=>J3 fun f=>r.1 ρ h1 _ _ _ _ (fun ds h2=>m_ev (mc f _ h2 _ _ _ _ q x)) x) x
 ·exact fun c es r ρ h Q Q' X X' q x=>r.1 ρ h _ _ _ _ (fun ds h1=>J3 (o:=clsT[c]?) fun ci=>Y0 (m_ev (mc _ _ _ _ _ _ _ (fun r h2=>AqH (q _ _)) x))) x
 ·exact fun b es r ρ h Q Q' X X' q x=>r.1 ρ h _ _ _ _ (fun ds h1=>n_bi h1 _ _ _ _ q x) x
 ·exact fun b e es re r ρ h Q Q' X X' q x=>re ρ h _ _ _ _ (fun o h1=>Arf (r.1 ρ h1 _ _ _ _ (fun ds h2=>n_bm h2 _ _ _ _ q x) x)) x
 ·exact fun a es r=>r.2 a
 ·exact fun e re ρ h Q Q' X X' q x=>re ρ h _ _ _ _ (fun d h1=>m_br (q _ _) (q _ _)) x
 ·exact fun op a b ra rb ρ h Q Q' X X' q x=>ra ρ h _ _ _ _ (fun y h1=>rb ρ h1 _ _ _ _ (fun z h2=>Asu h2 _ _ _ _ q x) x) x
 ·exact fun op a b ra rb ρ h Q Q' X X' q x=>ra ρ h _ _ _ _ (fun y h1=>rb ρ h1 _ _ _ _ (fun z h2=>Ast h2 _ _ _ _ q x) x) x
 ·exact fun c a b rc ra rb ρ h Q Q' X X' q x=>rc ρ h _ _ _ _ (fun d h1=>m_br (ra ρ h1 _ _ _ _ q x) (rb ρ h1 _ _ _ _ q x)) x
 ·exact fun elt t it re ri ρ h Q Q' X X' q x=>ri ρ h _ _ _ _ (fun d h1=>Asv re q x) x
 ·exact fun elt t it c re ri rc ρ h Q Q' X X' q x=>ri ρ h _ _ _ _ (fun d h1=>AaH fun ds=>Y0 (Ara re rc x ds h1 _ _ fun xs h2=>q _ _)) x
 ·exact fun elt i j a b re ra rb ρ h Q Q' X X' q x=>ra ρ h _ _ _ _ (fun y h1=>rb ρ h1 _ _ _ _ (fun z h2=>AaH fun xs=>AaH fun ys=>Y0 (Y0 (Ap5 re x _ h2 _ _ fun xs h2=>q _ _))) x) x
 ·exact fun ρ h Q Q' X X' q x=>id
 ·exact ⟨fun ρ h Q Q' X X' q x=>q _ _,fun a ρ h Q Q' X X' q x=>id⟩
 ·exact fun e es re r=>⟨fun ρ h Q Q' X X' q x=>re ρ h _ _ _ _ (fun d h1=>r.1 ρ h1 _ _ _ _ (fun ds h2=>q _ _) x) x,fun a=>by
   cases es with
   |nil=>exact re
   |cons e' es=>exact fun ρ h Q Q' X X' q x=>re ρ h _ _ _ _ (fun d h1=>n_ao (q _ _) (q _ _) (r.2 a ρ h1 _ _ _ _ q x)) x⟩
end
end Mine
end
section
namespace Mine
section
variable {cf cf':CF}(mc:LeC cf cf')
include mc
theorem Am4 (es:Exs):Le (fun ρ h Q X=>wEs cf es ρ h Q X) (fun ρ h Q X=>wEs cf' es ρ h Q X):=by
 refine @Exs.rec (fun _=>True) (fun es=>Le (fun ρ h Q X=>wEs cf es ρ h Q X) (fun ρ h Q X=>wEs cf' es ρ h Q X)) (fun _=>trivial) (fun _=>trivial) (fun _=>trivial) (fun _ _=>trivial) (fun _ _=>trivial) (fun _ _=>trivial) (fun _ _ _=>trivial) (fun _ _ _ _=>trivial) (fun _ _ _ _=>trivial) (fun _ _=>trivial) (fun _ _ _=>trivial) (fun _ _ _=>trivial) (fun _ _ _=>trivial) (fun _ _ _ _ _=>trivial) (fun _ _ _=>trivial) (fun _ _ _=>trivial) (fun _ _ _ _ _=>trivial) (fun _ _ _=>trivial) (fun _ _=>trivial) (fun _ _ _ _ _=>trivial) (fun _ _ _ _ _=>trivial) (fun _ _ _ _ _ _=>trivial) (fun _ _ _ _ _=>trivial) (fun _ _ _ _ _ _ _=>trivial) (fun _ _ _ _ _ _ _ _=>trivial) trivial ?_ ?_ es
 ·exact fun ρ h Q Q' X X' q x=>q _ _
 ·exact fun e es _ r ρ h Q Q' X X' q x=>Alz mc e ρ h _ _ _ _ (fun d h1=>r ρ h1 _ _ _ _ (fun ds h2=>q _ _) x) x
theorem AsR {o v:D}{a:Nat}{h:Hp}{K K':Hp→Prop}(m:∀g,K g→K' g):Aa7 o a v h K→Aa7 o a v h K':=AcR fun _=>J3 fun _=>AhL fun _ _=>Y0 (m _)
theorem AqT {o i v:D}{h:Hp}{K K':Hp→Prop}(m:∀g,K g→K' g):Aaf o i v h K→Aaf o i v h K':=AcR fun _=>by
 cases i<;>first|exact id|exact J3 fun _=>Aav fun _=>Y0 (m _)|exact J3 fun _=>AaW fun _=>Y0 (m _)
theorem AsH {k c:Nat}{hn:Hn}{ρ:Ve}{h:Hp}{Q Q':Fl→Ve→Hp→Prop}(q:∀f ρ h,Q f ρ h→Q' f ρ h):tryK k hn c ρ h Q→tryK k hn c ρ h Q':=Y0 (by
 cases hn<;>first|exact q _ _ _|exact id)
theorem Ao7 (ss:Sts):LeS (fun ρ h Q X=>wSs cf ss ρ h Q X) (fun ρ h Q X=>wSs cf' ss ρ h Q X):=by
 have E:=Alz mc
 refine @Sts.rec (fun s=>LeS (fun ρ h Q X=>wS cf s ρ h Q X) (fun ρ h Q X=>wS cf' s ρ h Q X)) (fun ss=>LeS (fun ρ h Q X=>wSs cf ss ρ h Q X) (fun ρ h Q X=>wSs cf' ss ρ h Q X)) ?_ ?_ ?_ ?_ ?_ ?_ ?_ ?_ ?_ ?_ ?_ ?_ ?_ ?_ ?_ ss
 ·exact fun t e ρ h Q Q' X X' q x=>E e ρ h _ _ _ _ (fun d h1=>J3 fun ρ'=>q _ _ _) fun c h1=>x _ _ _
 ·exact fun o a e ρ h Q Q' X X' q x=>E e ρ h _ _ _ _ (fun v h1=>E o ρ h1 _ _ _ _ (fun y h2=>AsR mc fun h3=>q _ _ _) fun c h1=>x _ _ _) fun c h1=>x _ _ _
 ·exact fun o i e ρ h Q Q' X X' q x=>E e ρ h _ _ _ _ (fun v h1=>E o ρ h1 _ _ _ _ (fun y h2=>E i ρ h2 _ _ _ _ (fun k h3=>AqT mc fun h4=>q _ _ _) fun c h1=>x _ _ _) fun c h1=>x _ _ _) fun c h1=>x _ _ _
 ·exact fun e ρ h Q Q' X X' q x=>E e ρ h _ _ _ _ (fun _ h1=>q _ _ _) fun c h1=>x _ _ _
 ·exact fun c a b ra rb ρ h Q Q' X X' q x=>E c ρ h _ _ _ _ (fun d h1=>m_br (ra ρ h1 _ _ _ _ q x) (rb ρ h1 _ _ _ _ q x)) fun c h1=>x _ _ _
 ·exact fun c b rb ρ h Q Q' X X' q x=>Aqv (E c) rb q x Af2 ρ h
 ·exact fun t e b rb ρ h Q Q' X X' q x=>E e ρ h _ _ _ _ (fun d h1=>AaH fun ds=>Y0 (Asx rb q x ds ρ h1)) fun c h1=>x _ _ _
 ·exact fun e ρ h Q Q' X X' q x=>E e ρ h _ _ _ _ (fun d h1=>q _ _ _) fun c h1=>x _ _ _
 ·exact fun c es ρ h Q Q' X X' q x=>Am4 mc es ρ h _ _ _ _ (fun ds h1=>Ang (x _ _ _)) fun c h1=>x _ _ _
 ·exact fun b k hn rb ρ h Q Q' X X' q x=>rb ρ h _ _ _ _ q fun c ρ' h1=>AsH mc q
 ·exact fun ρ h Q Q' X X' q x=>q _ _ _
 ·exact fun i ρ h Q Q' X X' q x=>J3 fun o=>AmS (q _ _ _)
 ·exact fun ρ h Q Q' X X' q x=>id
 ·exact fun ρ h Q Q' X X' q x=>q _ _ _
 ·exact fun s ss rs rss ρ h Q Q' X X' q x=>rs ρ h _ _ _ _ (fun f ρ' h1=>m_fl (rss ρ' h1 _ _ _ _ q x) (q _ _ _)) x
theorem AeF {n:Nat}:LeC (c1 n cf) (c1 n cf'):=fun f as h Q Q' X X' q x=>J3 fun fi=>J3 fun ρ=>Ao7 mc fi.body ρ h _ _ _ _ (fun f _ h1=>Ar4 fun d=>q _ _) fun c _ h1=>x _ _
end
theorem Aew (n:Nat):LeC (J0 n) (J0 n):=by
 induction n with
 |zero=>exact fun f as h Q Q' X X' q x=>id
 |succ n ih=>exact AeF (n:=n) ih
theorem Ev.mono {n f:Nat}{as:List D}{h:Hp}{Q Q':D→Hp→Prop}{X X':Nat→Hp→Prop}(e:Ev (J0 n f as h) Q X)(q:Qle Q Q')(x:Xle X X'):Ev (J0 n f as h) Q' X':=AkN (Aew n f as h Q Q' X X' q x (Abk e))
noncomputable def o1 (S:Nat→Bool)(o:Nat→CF)(n:Nat)(cf:CF)(f:Nat)(as:List D)(h:Hp)(Q:D→Hp→Prop)(X:Nat→Hp→Prop):Prop:=@Bool.casesOn (fun _=>Prop) (S f) (c1 n cf f as h Q X) (o (n+1) f as h Q X)
noncomputable def Akl (S:Nat→Bool)(o:Nat→CF)(n:Nat):CF:=@Nat.rec (fun _=>CF) c0 (o1 S o) n
theorem Akk {S:Nat→Bool}{o:Nat→CF}(ho:∀n f as h Q X,o (n+1) f as h Q X→J0 (n+1) f as h Q X)(n:Nat):LeC (Akl S o n) (J0 n):=by
 induction n with
 |zero=>exact fun f as h Q Q' X X' q x=>id
 |succ n ih =>
  refine fun f as h Q Q' X X' q x=>?_
  show @Bool.casesOn (fun _=>Prop) (S f) (c1 n (Akl S o n) f as h Q X) (o (n+1) f as h Q X)→_
  cases S f
  ·exact AeF ih f as h Q Q' X X' q x
  ·exact fun z=>Aew (n+1) f as h Q Q' X X' q x (ho n f as h Q X z)
theorem step (S:Nat→Bool)(o:Nat→CF){f n:Nat}{as:List D}{h:Hp}{Q:D→Hp→Prop}{X:Nat→Hp→Prop}{R:Prop}(e:c1 n (Akl S o n) f as h Q X=R)(ho:∀n f as h Q X,o (n+1) f as h Q X→J0 (n+1) f as h Q X)(k:R):Ev (J0 (n+1) f as h) Q X :=
 AkN <| AeF (Akk ho n) f as h Q Q X X (fun _ _=>id) (fun _ _=>id) (e.mpr k)
end Mine
end
namespace Mine
section
inductive Ty where
 |u8|bool|s
 |pair (t:Ty)
 |en (t:Ty)
 |rf (m:Bool) (t:Ty)
noncomputable abbrev tg (x:List Nat)(ds:List D):D:=.tup (.str x::ds)
noncomputable abbrev u8D:D:=.tup [.str [105,110,116],.str [117,56]]
noncomputable abbrev booD:D:=.tup [.str [98,111,111,108]]
noncomputable abbrev sD:D:=.tup [.str [97,100,116],.str [83],.tup [],.tup []]
noncomputable abbrev prD (d:D):D:=.tup [.str [116,117,112,108,101],.tup [d,u8D]]
noncomputable abbrev enD (d:D):D:=.tup [.str [97,100,116],.str [69],.tup [],.tup [d]]
noncomputable abbrev rfD (m:Bool)(d:D):D:=.tup [.str [114,101,102],.none,.bool m,d]
noncomputable def Ty.d (t:Ty):D:=@Ty.rec (fun _=>D) u8D booD sD (fun _ d=>prD d) (fun _ d=>enD d) (fun m _ d=>rfD m d) t
noncomputable def Ty.parts (t:Ty):List Ty:=@Ty.casesOn (fun _=>List Ty) t [] [] [] (fun t=>[t,.u8]) (fun t=>[t]) (fun _ t=>[t])
noncomputable def Ty.dep (t:Ty):Nat:=@Ty.rec (fun _=>Nat) 0 0 0 (fun _ n=>n+1) (fun _ n=>n+1) (fun _ _ n=>n+1) t
noncomputable def Ty.bot (t:Ty):Ty:=@Ty.rec (fun _=>Ty) .u8 .bool .s (fun t _=>.pair t) (fun t _=>.en t) (fun _ _ r=>r) t
inductive Mo' where
 |mv|rf|mt
noncomputable def Mo'.s (m:Mo'):List Nat:=@Mo'.casesOn (fun _=>List Nat) m [109,111,118,101] [114,101,102] [109,117,116]
noncomputable abbrev Mo'.d (m:Mo'):D:=.str m.s
noncomputable def Mo'.beh (m:Mo')(b:Bool):Mo':=@Mo'.casesOn (fun _=>Mo') m (bT b .mt .rf) .rf (bT b .mt .rf)
noncomputable def hb (B:Nat→AO)(r:Hp):Hp :=
 .tab::B 1::B 2::B 3::B 4::B 5::B 6 ::
 .inst 10 [(62,.loc 8),(63,.loc 9),(64,.loc 14),(65,.loc 15),(66,.loc 16)] ::
 .dict [([],.str [109,111,100]),([69],.str [101,110,117,109]),([69,58,58,80],.str [118,97,114,105,97,110,116]),([69,58,58,81],.str [118,97,114,105,97,110,116]),([83],.str [115,116,114,117,99,116]),([75],.str [99,111,110,115,116])] ::
 .dict [([],.bool true),([69],.bool false),([83],.bool false),([75],.bool false)] ::
 .inst 9 [(58,.loc 11),(59,.loc 12),(60,.loc 13)] ::
 .dict [([69],.str [69]),([83],.str [83])] ::
 .dict [([75],.str [75])] ::
 .dict [([80],.loc 18)] ::
 .dict [([],.loc 10)] ::
 .dict [([69],.tup [.tup [],.tup [.str [84]]]),([83],.tup [.tup [],.tup []])] ::
 .dict [([69],.tup [.str [101,110,117,109],.int 1,.str [69],.tup [.tup [],.tup [.tup [.str [84],.tup []]]],.tup [.tup [.str [80],.str [117,110,105,116],.tup []],.tup [.str [81],.str [116,117,112,108,101],.tup []]],.bool false]),([83],.tup [.str [115,116,114,117,99,116],.int 1,.str [83],.tup [.tup [],.tup []],.str [110,97,109,101,100],.tup [],.bool false]),([75],.tup [.str [99,111,110,115,116],.int 1,.str [75],.none,.none,.bool false])] ::
 .list [] ::
 .inst 8 [(55,.tup [.str [69],.str [80]]),(56,.bool false),(57,.int 1)] ::
 .inst 12 [(52,.loc 7),(0,.loc 20),(1,.loc 21),(79,.loc 22),(80,.loc 23),(81,.lst []),(53,.loc 24),(82,.loc 25)] ::
 .dict [([69],.loc 26),([83],.loc 27)] ::
 .dict [([69,58,58,80],.tup [.str [69],.int 0]),([69,58,58,81],.tup [.str [69],.int 1]),([83],.tup [.str [83],.int 0])] ::
 .dict [] ::
 .dict [] ::
 .dict [([75],.tup [.tup [.str [105,110,116],.str [117,56]],.tup [.str [105,110,116],.int 1,.int 7,.none],.str []])] ::
 .dict [] ::
 .inst 11 [(78,.str [69]),(34,.str []),(3,.tup []),(2,.tup [.str [84]]),(1,.lst [.tup [.str [80],.str [117,110,105,116],.lst []],.tup [.str [81],.str [116,117,112,108,101],.lst [.tup [.str [48],.tup [.str [112,97,114,97,109],.str [84]]],.tup [.str [49],.tup [.str [105,110,116],.str [117,56]]]]]]),(63,.tup []),(28,.bool true)] ::
 .inst 11 [(78,.str [83]),(34,.str []),(3,.tup []),(2,.tup []),(1,.lst [.tup [.str [83],.str [110,97,109,101,100],.lst [.tup [.str [97],.tup [.str [98,111,111,108]]],.tup [.str [98],.tup [.str [105,110,116],.str [117,56]]]]]]),(63,.tup []),(28,.bool false)] ::
 .dict [([69,58,58,80],.tup [.str [69],.int 0]),([69,58,58,81],.tup [.str [69],.int 1]),([83],.tup [.str [83],.int 0])] ::
 .dict [] ::
 .inst 7 [(25,.loc 19),(34,.str []),(35,.none),(36,.loc 29),(37,.none),(38,.loc 31),(39,.loc 34),(40,.lst [.loc 35]),(41,.lst []),(42,.int 0),(43,.lst []),(44,.tup [.str [116,117,112,108,101],.tup []])] ::
 .inst 6 [(5,.loc 32),(29,.loc 33)]::r
structure RS where
 V:List D
 N:List D
 L:List D
 sc:List (List Nat×D)
 k:Nat
 j:Nat
 r:Hp
noncomputable def hq (B:Nat→AO)(s:RS):Hp:=hb B (.list s.V::.list s.N::.list s.L::.dict s.sc::.inst 5 [(4,.loc 30),(5,.loc (s.k+37)),(6,.loc (s.j+37))]::s.r)
noncomputable def RS.v (s:RS)(V:List D):RS:=⟨V,s.N,s.L,s.sc,s.k,s.j,s.r⟩
noncomputable def RS.n (s:RS)(N:List D):RS:=⟨s.V,N,s.L,s.sc,s.k,s.j,s.r⟩
noncomputable def RS.l (s:RS)(L:List D):RS:=⟨s.V,s.N,L,s.sc,s.k,s.j,s.r⟩
noncomputable def RS.c (s:RS)(c:List (List Nat×D)):RS:=⟨s.V,s.N,s.L,c,s.k,s.j,s.r⟩
noncomputable def RS.p (s:RS)(k j:Nat):RS:=⟨s.V,s.N,s.L,s.sc,k,j,s.r⟩
noncomputable def RS.a (s:RS)(x:Hp):RS:=⟨s.V,s.N,s.L,s.sc,s.k,s.j,s.r++x⟩
noncomputable def RS.s (s:RS)(i:Nat)(o:AO):RS:=⟨s.V,s.N,s.L,s.sc,s.k,s.j,s.r.set i o⟩
section
variable {B:Nat→AO}{s:RS}{x:Hp}{K:AO→Prop}{i k j:Nat}{o:AO}{V:List D}{c:List (List Nat×D)}
theorem hq_0:at_ (hq B s) 0 K=K .tab:=rfl
theorem hq_1:at_ (hq B s) 1 K=K (B 1):=rfl
theorem hq_2:at_ (hq B s) 2 K=K (B 2):=rfl
theorem hq_3:at_ (hq B s) 3 K=K (B 3):=rfl
theorem hq_4:at_ (hq B s) 4 K=K (B 4):=rfl
theorem hq_5:at_ (hq B s) 5 K=K (B 5):=rfl
theorem hq_6:at_ (hq B s) 6 K=K (B 6):=rfl
theorem hq_7:at_ (hq B s) 7 K=K (.inst 10 [(62,.loc 8),(63,.loc 9),(64,.loc 14),(65,.loc 15),(66,.loc 16)]):=rfl
theorem hq_8:at_ (hq B s) 8 K=K (.dict [([],.str [109,111,100]),([69],.str [101,110,117,109]),([69,58,58,80],.str [118,97,114,105,97,110,116]),([69,58,58,81],.str [118,97,114,105,97,110,116]),([83],.str [115,116,114,117,99,116]),([75],.str [99,111,110,115,116])]):=rfl
theorem hq_9:at_ (hq B s) 9 K=K (.dict [([],.bool true),([69],.bool false),([83],.bool false),([75],.bool false)]):=rfl
theorem AsQ:at_ (hq B s) 10 K=K (.inst 9 [(58,.loc 11),(59,.loc 12),(60,.loc 13)]):=rfl
theorem AqU:at_ (hq B s) 11 K=K (.dict [([69],.str [69]),([83],.str [83])]):=rfl
theorem ArN:at_ (hq B s) 12 K=K (.dict [([75],.str [75])]):=rfl
theorem Asg:at_ (hq B s) 13 K=K (.dict [([80],.loc 18)]):=rfl
theorem As7:at_ (hq B s) 14 K=K (.dict [([],.loc 10)]):=rfl
theorem Arx:at_ (hq B s) 15 K=K (.dict [([69],.tup [.tup [],.tup [.str [84]]]),([83],.tup [.tup [],.tup []])]):=rfl
theorem AqZ:at_ (hq B s) 16 K=K (.dict [([69],.tup [.str [101,110,117,109],.int 1,.str [69],.tup [.tup [],.tup [.tup [.str [84],.tup []]]],.tup [.tup [.str [80],.str [117,110,105,116],.tup []],.tup [.str [81],.str [116,117,112,108,101],.tup []]],.bool false]),([83],.tup [.str [115,116,114,117,99,116],.int 1,.str [83],.tup [.tup [],.tup []],.str [110,97,109,101,100],.tup [],.bool false]),([75],.tup [.str [99,111,110,115,116],.int 1,.str [75],.none,.none,.bool false])]):=rfl
theorem ArH:at_ (hq B s) 17 K=K (.list []):=rfl
theorem Asa:at_ (hq B s) 18 K=K (.inst 8 [(55,.tup [.str [69],.str [80]]),(56,.bool false),(57,.int 1)]):=rfl
theorem As0:at_ (hq B s) 19 K=K (.inst 12 [(52,.loc 7),(0,.loc 20),(1,.loc 21),(79,.loc 22),(80,.loc 23),(81,.lst []),(53,.loc 24),(82,.loc 25)]):=rfl
theorem Aqq:at_ (hq B s) 20 K=K (.dict [([69],.loc 26),([83],.loc 27)]):=rfl
theorem AsG:at_ (hq B s) 21 K=K (.dict [([69,58,58,80],.tup [.str [69],.int 0]),([69,58,58,81],.tup [.str [69],.int 1]),([83],.tup [.str [83],.int 0])]):=rfl
theorem ArR:at_ (hq B s) 22 K=K (.dict []):=rfl
theorem AqQ:at_ (hq B s) 23 K=K (.dict []):=rfl
theorem Aq4:at_ (hq B s) 24 K=K (.dict [([75],.tup [.tup [.str [105,110,116],.str [117,56]],.tup [.str [105,110,116],.int 1,.int 7,.none],.str []])]):=rfl
theorem Ass:at_ (hq B s) 25 K=K (.dict []):=rfl
theorem Asn:at_ (hq B s) 26 K=K (.inst 11 [(78,.str [69]),(34,.str []),(3,.tup []),(2,.tup [.str [84]]),(1,.lst [.tup [.str [80],.str [117,110,105,116],.lst []],.tup [.str [81],.str [116,117,112,108,101],.lst [.tup [.str [48],.tup [.str [112,97,114,97,109],.str [84]]],.tup [.str [49],.tup [.str [105,110,116],.str [117,56]]]]]]),(63,.tup []),(28,.bool true)]):=rfl
theorem AsP:at_ (hq B s) 27 K=K (.inst 11 [(78,.str [83]),(34,.str []),(3,.tup []),(2,.tup []),(1,.lst [.tup [.str [83],.str [110,97,109,101,100],.lst [.tup [.str [97],.tup [.str [98,111,111,108]]],.tup [.str [98],.tup [.str [105,110,116],.str [117,56]]]]]]),(63,.tup []),(28,.bool false)]):=rfl
theorem ArQ:at_ (hq B s) 28 K=K (.dict [([69,58,58,80],.tup [.str [69],.int 0]),([69,58,58,81],.tup [.str [69],.int 1]),([83],.tup [.str [83],.int 0])]):=rfl
theorem Asi:at_ (hq B s) 29 K=K (.dict []):=rfl
theorem Asb:at_ (hq B s) 30 K=K (.inst 7 [(25,.loc 19),(34,.str []),(35,.none),(36,.loc 29),(37,.none),(38,.loc 31),(39,.loc 34),(40,.lst [.loc 35]),(41,.lst []),(42,.int 0),(43,.lst []),(44,.tup [.str [116,117,112,108,101],.tup []])]):=rfl
theorem AqA:at_ (hq B s) 31 K=K (.inst 6 [(5,.loc 32),(29,.loc 33)]):=rfl
theorem ArF:at_ (hq B s) 32 K=K (.list s.V):=rfl
theorem AsO:at_ (hq B s) 33 K=K (.list s.N):=rfl
theorem Amw:at_ (hq B s) 34 K=K (.list s.L):=rfl
theorem AsM:at_ (hq B s) 35 K=K (.dict s.sc):=rfl
theorem AqM:at_ (hq B s) 36 K=K (.inst 5 [(4,.loc 30),(5,.loc (s.k+37)),(6,.loc (s.j+37))]):=rfl
theorem hq_r:at_ (hq B s) (i+37) K=at_ s.r i K:=rfl
theorem hq_a:hq B s++x=hq B (s.a x):=rfl
theorem hq_n:(hq B s).length=s.r.length+37:=rfl
theorem Are:(hq B s).set 32 (.list V)=hq B (s.v V):=rfl
theorem Aqx:(hq B s).set 33 (.list V)=hq B (s.n V):=rfl
theorem Ar6:(hq B s).set 34 (.list V)=hq B (s.l V):=rfl
theorem AqC:(hq B s).set 35 (.dict c)=hq B (s.c c):=rfl
theorem ArD:(hq B s).set 36 (.inst 5 [(4,.loc 30),(5,.loc (k+37)),(6,.loc (j+37))])=hq B (s.p k j):=rfl
theorem hs_r:(hq B s).set (i+37) o=hq B (s.s i o):=rfl
theorem va:(s.v V).V=V:=rfl
theorem na:(s.n V).N=V:=rfl
theorem la:(s.l V).L=V:=rfl
end
end
local macro_rules | `(tactic| simp! only [$ls,*])=>`(tactic| simp (config:={dsimp:=false}) only [$ls,*,X7,AsF,Aqu,AqN,Anv,Amn,Amk,Aqb,Aml,ArU,Aoz,Apt,AmW,Aob,Aq0,w_bi,w_bm,Amm,AsN,Ar3,Aq8,AqP,AnT,AnF,Am8,AsI,AoL,Ard,ArB,AsE,Aqw,AsL,Aq9,Arm,Al7,Ano,s_ex,AqO,Arb,Ar7,AqY,AmR,ArS,Aoc,An5,AnS,AnJ,Ap4,AmT,AoN,Al9,Aou,Ap8,Aqm,Al3,Aqz,AlP,Aon,Aos,Ant,Ad5,AlD,An2,ArP,Ar9,Arj,Asd,Aq7,Aq2,AsA,Arv,rv_l,ra_2,nk_n,ArM,ArI,tk_c,tk_r,un_d,AsJ,ArX,Arw,AsC,AoM,AoA,Aqg,bk_1,bk_2,bk_3,bk_4,bk_5,bk_6,bk_7,bk_8,bk_9,x10,x20,x21,x30,x31,x32,x40,x41,x42,x43,x50,x51,x52,x53,x54,x60,x61,x62,x63,x64,x65,x70,x71,x72,x73,x74,x75,x76,y11,y21,y22,g_tt,bt_t,bt_f,AqD,AqF,AqL,Aok,Apn,Ao9,Ash,AsS,Ari,AsT,Ar2,Arr,nt_t,nt_f,le_0,le_1,le_2,le_3,le_4,le_5,le_6,le_7,le_8,le_9,fd_n,fd_c,pk_n,pk_c,dk_n,dk_c,pa_n,pa_c,fg_n,fg_c,fp_n,fp_c,ng_n,ng_c,Aqp,Arz,zd_c,po_n,po_c,sa_n,sa_c,ts_n,ts_p,ts_q,li_1,li_c,ae_n,ae_c,AqB,ArY,Aq1,ArE,AqX,Asz,Aqt,AsY,ArA,Arq,ApF,AgJ,Ah8,Aio,AiW,Ai1,AeT,AgC,Agu,Af9,Asr,AoU,oi_s,q_in,AqI,pl_s,pl_i,pl_n,pl_b,pl_t,pl_l,pa_0,pa_1,AsB,AmA,AnN,ArC,AqE,Ap0,Apg,ApH,Aqd,Ake,Aix,Ag2,so_0,so_1,Ap6,Arp,As8,q_lt,q_gt,q_le,q_ge,AoX,AoO,Apl,AoQ,An8,List.reverse_cons,List.reverse_nil,List.set_cons_zero,List.set_cons_succ,List.length_cons,List.length_nil,List.map_cons,List.map_nil,List.getElem?_cons_zero,List.getElem?_cons_succ,List.cons_append,List.nil_append,List.zip_nil_left,List.zip_cons_cons,Option.map_some,Option.map_none,Option.getD_some,Option.getD_none,Option.isSome_some,Option.isSome_none,Nat.reduceAdd,Nat.reduceSub,Nat.reduceBEq,Int.reduceAdd,Int.reduceSub,Int.reduceNeg,Int.reduceBEq,cl5,cl6,cl7,cl8,cl9,cl10,hq_0,hq_1,hq_2,hq_3,hq_4,hq_5,hq_6,hq_7,hq_8,hq_9,AsQ,AqU,ArN,Asg,As7,Arx,AqZ,ArH,Asa,As0,Aqq,AsG,ArR,AqQ,Aq4,Ass,Asn,AsP,ArQ,Asi,Asb,AqA,ArF,AsO,Amw,AsM,AqM,hq_a,hq_n,Are,Aqx,Ar6,AqC,ArD,va,na,la])
section
variable {B:Nat→AO}{h:Hp}{s:RS}{Q:D→Hp→Prop}{X:Nat→Hp→Prop}{n:Nat}
theorem Af0 {t:Ty}(k:Q (.tup (t.parts.map Ty.d)) h):Ev (J0 (n+1) 0 [t.d] h) Q X:=by
 cases t<;>exact Eq.mpr (by kernel_rfl) k
theorem V0 {t:Ty}(k:Q t.d h):Ev (J0 (n+1) 1 [t.d,.lst (t.parts.map Ty.d)] h) Q X:=by
 cases t<;>exact Eq.mpr (by kernel_rfl) k
theorem Z6 {t:Ty}(k:Q t.d (hq B s)):Ev (J0 (n+1) 29 [.loc 31,t.d] (hq B s)) Q X:=by
 cases t<;>exact Eq.mpr (by kernel_rfl) k
theorem Z1 {f:Nat}{fi:FnI}{as:List D}{ρ:Ve}(e:fnT[f]? = some fi)(b:AgF fi as=some ρ)(k:wSs (J0 n) fi.body ρ h (fun f _ h1=>retK f fun d=>Q d h1) (fun c _ h1=>X c h1)):Ev (J0 (n+1) f as h) Q X:=by
 rw [AnY e,b];exact k
theorem pt_u:Ty.u8.parts=[]:=rfl
theorem pt_p {t:Ty}:(Ty.pair t).parts=[t,.u8]:=rfl
theorem pt_e {t:Ty}:(Ty.en t).parts=[t]:=rfl
theorem pt_r {b:Bool}{t:Ty}:(Ty.rf b t).parts=[t]:=rfl
theorem Acj {d:D}{t:Ty}(hs:∀{Q:D→Hp→Prop} {X:Nat→Hp→Prop},Q t.d (hq B s)→Ev (J0 (n+2) 29 [.loc 31,d] (hq B s)) Q X)(k:cmpL (fun ρ h Q X=>wE (J0 (n+2)) (.meth 10 (.var 0) (.cons (.var 2) .nil)) ρ h Q X) (.n 2) [some (.loc 31),some t.d,none] (t.parts.map Ty.d) (hq B s) (fun xs h1=>Ev (J0 (n+2) 1 [t.d,.lst xs] h1) (fun d h2=>Q d h2) fun c h2=>X c h2) X) :
  Ev (J0 (n+3) 30 [.loc 31,d] (hq B s)) Q X:=by
 refine Z1 (n:=n+2) (fi:=Y5) (ρ:=[some (.loc 31),some d,none]) rfl rfl ?_
 simp! only [Y5]
 refine hs ?_
 simp! only [X7]
 refine Af0 ?_
 simp! only [X7]
 rw [g_of (by cases t<;>rfl)]
 exact k
theorem AiB:∀{t:Ty} {n:Nat} {d:D} {Q:D→Hp→Prop} {X:Nat→Hp→Prop},(∀{Q:D→Hp→Prop} {X:Nat→Hp→Prop} {m:Nat},Q t.d (hq B s)→Ev (J0 (m+1) 29 [.loc 31,d] (hq B s)) Q X)→Q t.d (hq B s)→Ev (J0 (n+t.dep+3) 30 [.loc 31,d] (hq B s)) Q X:=fun {t}=>by
 induction t with
 |pair t ih =>
  intro n d Q X hs k
  refine Acj (n:=n+t.dep+1) hs ?_
  simp! only [pt_p]
  refine ih Z6 ?_
  simp! only [X7]
  refine Acj (t:=.u8) (n:=n+t.dep) Z6 ?_
  simp! only [pt_u]
  exact V0 (n:=n+t.dep+1) (t:=.u8) (V0 (n:=n+t.dep+2) (t:=.pair t) k)
 |en t ih =>
  intro n d Q X hs k
  refine Acj (n:=n+t.dep+1) hs ?_
  simp! only [pt_e]
  exact ih Z6 (V0 (n:=n+t.dep+2) (t:=.en t) k)
 |rf b t ih =>
  intro n d Q X hs k
  refine Acj (n:=n+t.dep+1) hs ?_
  simp! only [pt_r]
  exact ih Z6 (V0 (n:=n+t.dep+2) (t:=.rf b t) k)
 |u8=>exact fun {n d Q X} hs k=>Acj (n:=n) hs (V0 (n:=n+1) (t:=.u8) k)
 |bool=>exact fun {n d Q X} hs k=>Acj (n:=n) hs (V0 (n:=n+1) (t:=.bool) k)
 |s=>exact fun {n d Q X} hs k=>Acj (n:=n) hs (V0 (n:=n+1) (t:=.s) k)
theorem Ae4 {t:Ty}(k:Q t.d (hq B s)):Ev (J0 (n+t.dep+3) 30 [.loc 31,t.d] (hq B s)) Q X:=AiB Z6 k
end
section
variable {B:Nat→AO}{h:Hp}{s:RS}{Q:D→Hp→Prop}{X:Nat→Hp→Prop}{n:Nat}
theorem dl {a c m:Nat}(h:a≤c):a≤m+c:=Nat.le_trans h (Nat.le_add_left _ _)
theorem Aff {t:Ty}{m:Nat}(ht:t.dep≤m)(k:Q t.d (hq B s)):Ev (J0 (m+3) 30 [.loc 31,t.d] (hq B s)) Q X:=by
 obtain ⟨j,rfl⟩:=Nat.exists_eq_add_of_le' ht
 exact Ae4 k
theorem Y9 (t:Ty):D.plain t.d=true:=by
 induction t with
 |pair t ih=>exact (show (true&&((D.plain t.d&&true)&&true))=true by rw [ih];rfl)
 |en t ih=>exact (show (true&&(true&&(true&&((D.plain t.d&&true)&&true))))=true by rw [ih];rfl)
 |rf b t ih=>exact (show (true&&(true&&(true&&(D.plain t.d&&true))))=true by rw [ih];rfl)
 |_=>rfl
theorem AlS (t:Ty):∀{n:Nat},D.shal (n+2 * t.dep+2) t.d=true:=by
 induction t with
 |pair t ih=>exact fun {n}=>(show (true&&((D.shal (n+2 * t.dep+2) t.d&&(true&&true))&&true))=true by rw [ih];rfl)
 |en t ih=>exact fun {n}=>(show (true&&(true&&(true&&((D.shal (n+2 * t.dep+2) t.d&&true)&&true))))=true by rw [ih];rfl)
 |rf b t ih=>exact fun {n}=>(show (true&&(true&&(true&&(D.shal (n+2 * t.dep+2+1) t.d&&true))))=true by rw [Nat.add_right_comm _ 2 1,Nat.add_right_comm n _ 1,ih];rfl)
 |_=>exact fun {n}=>rfl
theorem AhV {t:Ty}{m:Nat}(ht:2 * t.dep+2≤m):D.shal m t.d=true:=by
 obtain ⟨j,rfl⟩:=Nat.exists_eq_add_of_le' ht
 exact AlS t
theorem Aqe {t:Ty}(ht:t.dep≤6):D.shal 60 t.d=true:=AhV (Nat.le_trans (Nat.add_le_add_right (Nat.mul_le_mul_left 2 ht) 2) (by decide))
theorem Aju {a b:Bool}(h:(a&&b)=true):a=true:=((Bool.and_eq_true a b).mp h).1
theorem Ajc {a b:Bool}(h:(a&&b)=true):b=true:=((Bool.and_eq_true a b).mp h).2
theorem Aak {a b:Bool}(h:a=true)(k:b=true):(a&&b)=true:=by rw [h,k];rfl
theorem Ab5 (d:D):D.plain d=true→D.eqb d d=true:=by
 refine @D.rec (fun d=>D.plain d=true→D.eqb d d=true) (fun ds=>D.plainAll ds=true→D.eqbAll ds ds=true) ?_ ?_ ?_ ?_ ?_ ?_ ?_ ?_ ?_ ?_ d
 ·exact fun _=>rfl
 ·exact fun b _=>beq_self_eq_true b
 ·exact fun i _=>beq_self_eq_true i
 ·exact fun x _=>Ae2
 ·exact fun ds ih h=>ih h
 ·exact fun ds ih h=>ih h
 ·exact fun l h=>nomatch h
 ·exact fun h=>nomatch h
 ·exact fun _=>rfl
 ·exact fun d ds i1 i2 h=>(Aak (i1 (Aju h)) (i2 (Ajc h)))
theorem AoE {d:D}(hp:D.plain d=true)(hs:D.shal 60 d=true)(k:Q (.bool true) h):Eo (cmpD .eq d d h) Q X:=by
 have e:∀K,opK h d K=K d:=by cases d<;>first|exact fun _=>rfl|exact nomatch hp
 rw [q_op e e (by unfold okEq;rw [hs,hp];rfl),Ab5 d hp]
 exact k
end
section
variable {B:Nat→AO}{h:Hp}{s:RS}{Q:D→Hp→Prop}{X:Nat→Hp→Prop}{n:Nat}
theorem wh_t {c:ST D}{b:SS}{ρ:Ve}{Q:Fl→Ve→Hp→Prop}{X:Nat→Ve→Hp→Prop}:whL c b Af2 ρ h Q X=c ρ h (fun d h1=>br d (b ρ h1 (fun f ρ' h2=>lpK f (whL c b 99 ρ' h2 Q X) (Q f ρ' h2)) X) (Q .nx ρ h1)) (fun c h1=>X c ρ h1):=rfl
theorem wh_u {c:ST D}{b:SS}{ρ:Ve}{Q:Fl→Ve→Hp→Prop}{X:Nat→Ve→Hp→Prop}:whL c b 99 ρ h Q X=c ρ h (fun d h1=>br d (b ρ h1 (fun f ρ' h2=>lpK f (whL c b 98 ρ' h2 Q X) (Q f ρ' h2)) X) (Q .nx ρ h1)) (fun c h1=>X c ρ h1):=rfl
theorem wh_v {c:ST D}{b:SS}{ρ:Ve}{Q:Fl→Ve→Hp→Prop}{X:Nat→Ve→Hp→Prop}:whL c b 98 ρ h Q X=c ρ h (fun d h1=>br d (b ρ h1 (fun f ρ' h2=>lpK f (whL c b 97 ρ' h2 Q X) (Q f ρ' h2)) X) (Q .nx ρ h1)) (fun c h1=>X c ρ h1):=rfl
theorem Aof {l:Nat}:Eo (cmpD .ne (.loc l) (.lst []) h) Q X=at_ h l fun o=>W6 o fun ds=>grd (D.plainAll ds&&true) (Q (.bool (true ^^ D.eqbAll ds [])) h):=rfl
theorem Ac8 {o:AO}{K:AO→Prop}:at_ (hq B (s.a [o])) (s.r.length+37) K=K o:=U3 (by
 show (s.r++[o])[s.r.length]? = some o
 simp)
theorem AkY {o o':AO}:(s.a [o]).s s.r.length o'=s.a [o']:=by
 unfold RS.a RS.s
 rw [List.set_append];simp
theorem AdA {o o':AO}:(hq B (s.a [o])).set (s.r.length+37) o'=hq B (s.a [o']):=by
 rw [hs_r,AkY]
theorem AbH {ds:List D}(hp:D.plainAll ds=true):Eo (cmpD .ne (.loc (s.r.length+37)) (.lst []) (hq B (s.a [.list ds]))) Q X=Q (.bool (true ^^ D.eqbAll ds [])) (hq B (s.a [.list ds])):=by
 rw [Aof,Ac8]
 exact g_of (by rw [hp];rfl)
theorem AbA {ds:List D}{P:Prop}:isK (hq B (s.a [.list ds])) (.loc (s.r.length+37)) .list P=P:=Ac8
theorem Adp {ds i:List D}{x:D}(e:V4 ds=some (i,x))(hl:Nat.ble ds.length most=true):Eo (bmD .pop (.loc (s.r.length+37)) [] (hq B (s.a [.list ds]))) Q X=Q x (hq B (s.a [.list i])):=by
 rw [As5,Ac8,Ad5,e,AlP,g_of hl,AdA]
theorem AhJ {ds es:List D}{x:D}(e:∀K,X4 x K=K es)(hl:Nat.ble (ds.length+es.length) most=true):Eo (bmD .extend (.loc (s.r.length+37)) [x] (hq B (s.a [.list ds]))) Q X=Q .none (hq B (s.a [.list (ds++es)])):=by
 rw [Arc,Ac8,Ad5,e,g_of hl,AdA]
theorem Ail {a b:D}(ha:D.plain a=true)(hb:D.plain b=true):D.plainAll [.tup [a,b]]=true:=by
 rw [pa_1,pl_t,pa_1,pa_1,ha,hb];rfl
theorem Ags {t:Ty}(ht:t.dep≤6)(k:Q .none (hq B (s.a [.list []]))):Ev (J0 (n+4) 34 [.loc 31,t.d,t.d] (hq B s)) Q X:=by
 refine Z1 (n:=n+3) (fi:=W3) (ρ:=[some (.loc 31),some t.d,some t.d,none,none,none,none]) rfl rfl ?_
 simp! only [W3,wh_t,AbH (Ail (Y9 t) (Y9 t)),AbA,Adp (ds:=[.tup [t.d,t.d]]) (i:=[]) (x:=.tup [t.d,t.d]) rfl rfl]
 refine Z6 ?_
 simp! only [X7]
 refine Z6 ?_
 simp! only [X7]
 refine AoE (Y9 t) (Aqe ht) ?_
 simp! only [wh_u,AbH (ds:=[]) rfl]
 exact k
end
section
variable {B:Nat→AO}{h:Hp}{s:RS}{Q:D→Hp→Prop}{X:Nat→Hp→Prop}{n:Nat}
noncomputable abbrev varD (k:Nat):D:=.tup [.str [118,97,114],.int k]
noncomputable abbrev ownD (k:Nat):D:=.tup [.str [97,100,116],.str [69],.tup [],.tup [varD k]]
noncomputable def Ty.sz (t:Ty):Nat:=@Ty.rec (fun _=>Nat) 1 1 1 (fun _ n=>n+2) (fun _ n=>n+1) (fun _ _ n=>n+1) t
noncomputable def szs (l:List Ty):Nat:=@List.rec Ty (fun _=>Nat) 0 (fun t _ n=>n+t.sz) l
theorem ApD (t:Ty):1≤t.sz:=by cases t<;>exact Nat.succ_le_succ (Nat.zero_le _)
theorem Ann (l:List Ty):l.length≤szs l:=by
 induction l with
 |nil=>exact Nat.le_refl _
 |cons t r ih=>exact Nat.add_le_add ih (ApD t)
theorem AjR (t:Ty):szs t.parts+1=t.sz:=by
 cases t<;>first|rfl|exact (congrArg (· + 1) (Nat.zero_add _))|exact (congrArg (· + 1) (Nat.add_comm 1 _))
theorem Ane (a b:List Ty):szs (a++b)=szs a+szs b:=by
 induction a with
 |nil=>exact (Nat.zero_add _).symm
 |cons t r ih=>exact (congrArg (· + t.sz) ih).trans (Nat.add_right_comm ..)
theorem AoJ (t:Ty):t.sz≤2 * t.dep+1:=by
 induction t with
 |pair t ih=>exact Nat.add_le_add_right ih 2
 |en t ih=>exact Nat.le_succ_of_le (Nat.add_le_add_right ih 1)
 |rf b t ih=>exact Nat.le_succ_of_le (Nat.add_le_add_right ih 1)
 |_=>exact Nat.le_refl _
theorem An3 (l:List Ty):D.plainAll (l.map Ty.d)=true:=by
 induction l with
 |nil=>rfl
 |cons t r ih=>exact Aak (Y9 t) ih
theorem Ag0 {l:List Ty}(h:szs l≤100):Nat.ble (l.map Ty.d).length most=true:=Aab (by rw [List.length_map];exact Nat.le_trans (Ann l) (Nat.le_trans h (by decide)))
theorem AiU {t:Ty}{k:Nat}:D.eqb t.d (varD k)=false:=by cases t<;>rfl
theorem AoR {t:Ty}{k:Nat}:okEq t.d (varD k)=true:=by
 unfold okEq
 rw [show D.shal 60 (varD k)=true from rfl,Y9];rfl
theorem ArL {t:Ty}{K:D→Prop}:opK h t.d K=K t.d:=by cases t<;>rfl
theorem Alp {t:Ty}{k:Nat}:Eo (cmpD .eq t.d (varD k) h) Q X=Q (.bool false) h:=by
 rw [q_op (fun _=>ArL) (fun _=>rfl) AoR,AiU]
theorem Akw {ds:List Ty}{t:Ty}:V4 ((ds++[t]).map Ty.d)=some (ds.map Ty.d,t.d):=by
 induction ds with
 |nil=>rfl
 |cons d r ih=>cases r with
  |nil=>rfl
  |cons e r=>exact (congrArg (Option.map _) ih)
theorem ApA {ds:List Ty}{t:Ty}:D.eqbAll ((ds++[t]).map Ty.d) []=false:=by cases ds<;>rfl
theorem Ajh {k:Nat}{told:Option D}{X:Nat→Ve→Hp→Prop}(j:Nat):∀(st:List Ty) (x:Option D) (Q:Fl→Ve→Hp→Prop),j≤100→szs st < j →
  (∀y,Q .nx [some (.loc 31),some (varD k),told,some (.loc (s.r.length+37)),y] (hq B (s.a [.list []]))) →
  WH (J0 (n+1)) (.cmp .ne (.var 3) (.vlist .nil)) (.cons (.asn (.n 4) (.meth 30 (.var 0) (.cons (.bm .pop (.var 3) .nil) .nil)))
  (.cons (.iff (.cmp .eq (.var 4) (.var 1)) (.cons .stuck
  .nil) .nil)
  (.cons (.ex (.bm .extend (.var 3) (.cons (.call 0 (.cons (.var 4) .nil)) .nil)))
  .nil))) j [some (.loc 31),some (varD k),told,some (.loc (s.r.length+37)),x] (hq B (s.a [.list (st.map Ty.d)])) Q X:=by
 induction j with
 |zero=>exact fun st x Q _ h1=>absurd h1 (Nat.not_lt_zero _)
 |succ j ih =>
  intro st x Q hj hs k'
  unfold WH;rw [Aij]
  rcases List.eq_nil_or_concat st with rfl|⟨st',t,rfl⟩
  ·simp! only [AbH (ds:=[]) rfl]
   exact k' x
  ·rw [List.concat_eq_append] at *
   have hl:=Ag0 (Nat.le_of_lt (Nat.lt_of_lt_of_le hs hj))
   simp! only [AbH (An3 _),ApA,AbA,Adp Akw hl]
   refine Z6 ?_
   simp! only [Alp,AbA]
   refine Af0 ?_
   have hs':szs (st'++t.parts) < j:=by
    rw [Ane] at hs ⊢
    have e:szs [t]=t.sz:=Nat.zero_add _
    rw [e,←AjR] at hs
    exact Nat.lt_of_succ_lt_succ hs
   simp! only [X7]
   rw [AhJ (fun _=>rfl) (by rw [←List.length_append,←List.map_append];exact Ag0 (Nat.le_of_lt (Nat.lt_of_lt_of_le hs' (Nat.le_of_succ_le hj)))),←List.map_append]
   exact ih _ _ Q (Nat.le_of_succ_le hj) hs' k'
theorem Ai3 {t:Ty}{k:Nat}(ht:t.dep≤6)(kk:Q (.bool false) (hq B (s.a [.list []]))):Ev (J0 (n+2) 31 [.loc 31,varD k,t.d] (hq B s)) Q X:=by
 refine Z1 (n:=n+1) (fi:=Aat) (ρ:=[some (.loc 31),some (varD k),some t.d,none,none]) rfl rfl ?_
 simp! only [Aat]
 refine Ajh 100 [t] none _ (Nat.le_refl _) ?_ fun y=>?_
 ·have e:szs [t]=t.sz:=Nat.zero_add _
  rw [e]
  exact Nat.lt_of_le_of_lt (Nat.le_trans (AoJ t) (Nat.add_le_add_right (Nat.mul_le_mul_left 2 ht) 1)) (by decide)
 ·exact Eq.mpr (by kernel_rfl) kk
theorem AdF {V:List D}{k:Nat}(hl:Nat.ble V.length most=true):idx V (k:Int)=V[k]? := by
 unfold idx
 rw [if_pos (Nat.le_of_ble_eq_true hl),if_pos (Int.natCast_nonneg k)]
 rfl
theorem AmN {k:Nat}{d:D}{K:Hp→Prop}(hk:k < s.V.length)(hl:Nat.ble s.V.length most=true):Aaf (.loc 32) (.int (k:Int)) d (hq B s) K=K (hq B (s.v (s.V.set k d))) :=
 g_of (Aak (Aak (decide_eq_true (Int.natCast_nonneg k)) (Nat.ble_eq_true_of_le hk)) hl)
theorem AmB {t:Ty}{k:Nat}(hk:k < s.V.length)(hl:Nat.ble s.V.length most=true)(ht:t.dep≤6)(kk:Q .none (hq B ((s.a [.list []]).v (s.V.set k t.d)))):Ev (J0 (n+3) 32 [.loc 31,varD k,t.d] (hq B s)) Q X:=by
 refine Z1 (n:=n+2) (fi:=AaU) (ρ:=[some (.loc 31),some (varD k),some t.d]) rfl rfl ?_
 simp! only [AaU]
 refine Ai3 ht ?_
 simp! only [AmN (s:=s.a [.list []]) hk hl]
 exact kk
theorem Aex {k:Nat}(hV:s.V[k]? = some .none)(hl:Nat.ble s.V.length most=true)(kk:Q (varD k) (hq B s)):Ev (J0 (n+1) 29 [.loc 31,varD k] (hq B s)) Q X:=by
 refine Z1 (n:=n) (fi:=Z2) (ρ:=[some (.loc 31),some (varD k)]) rfl rfl ?_
 simp! only [Z2,wh_t,AdF hl,hV]
 exact kk
theorem Amj {t:Ty}:Eo (cmpD .isnN t.d .none h) Q X=Q (.bool true) h:=by cases t<;>rfl
theorem Adt {k:Nat}{t:Ty}(hV:s.V[k]? = some t.d)(hl:Nat.ble s.V.length most=true)(kk:Q t.d (hq B s)):Ev (J0 (n+1) 29 [.loc 31,varD k] (hq B s)) Q X:=by
 refine Z1 (n:=n) (fi:=Z2) (ρ:=[some (.loc 31),some (varD k)]) rfl rfl ?_
 simp! only [Z2,wh_t,Amj,AdF hl,hV]
 cases t<;>exact Eq.mpr (by kernel_rfl) kk
end
section
variable {B:Nat→AO}{h:Hp}{s:RS}{Q:D→Hp→Prop}{X:Nat→Hp→Prop}{n:Nat}
theorem AbN {d:D}(kk:Q (enD d) (hq B s)):Ev (J0 (n+1) 29 [.loc 31,enD d] (hq B s)) Q X:=Eq.mpr (by kernel_rfl) kk
theorem Adj {d:D}(kk:Q (.tup [d]) h):Ev (J0 (n+1) 0 [enD d] h) Q X:=Eq.mpr (by kernel_rfl) kk
theorem AjN {d e:D}(kk:Q (.bool true) (hq B s)):Ev (J0 (n+2) 33 [.loc 31,enD d,enD e] (hq B s)) Q X:=Eq.mpr (by kernel_rfl) kk
theorem AbY {k:Nat}{t:Ty}{m:Nat}(hV:s.V[k]? = some t.d)(hl:Nat.ble s.V.length most=true)(ht:t.dep≤m)(kk:Q (Ty.en t).d (hq B s)):Ev (J0 (m+4) 30 [.loc 31,ownD k] (hq B s)) Q X:=by
 obtain ⟨j,rfl⟩:=Nat.exists_eq_add_of_le' ht
 refine Z1 (n:=j+t.dep+3) (fi:=Y5) (ρ:=[some (.loc 31),some (ownD k),none]) rfl rfl ?_
 simp! only [Y5]
 refine AbN ?_
 simp! only [X7]
 refine Adj ?_
 simp! only [X7]
 refine AiB (t:=t) (fun k=>Adt hV hl k) ?_
 exact Eq.mpr (by kernel_rfl) kk
theorem Ao0 {t:Ty}{k:Nat}:Eo (cmpD .eq (enD t.d) (ownD k) h) Q X=Q (.bool false) h:=by
 rw [q_op (x:=enD t.d) (y:=ownD k) (fun _=>rfl) (fun _=>rfl) (by unfold okEq;rw [show D.shal 60 (ownD k)=true from rfl,show D.plain (enD t.d)=true from Y9 (.en t)];rfl)]
 rw [show D.eqb (enD t.d) (ownD k)=(true&&(true&&(true&&((D.eqb t.d (varD k)&&true)&&true)))) from rfl,AiU]
 rfl
noncomputable def Ty.kd (t:Ty):List Nat:=@Ty.casesOn (fun _=>List Nat) t [105,110,116] [98,111,111,108] [97,100,116] (fun _=>[116,117,112,108,101]) (fun _=>[97,100,116]) (fun _ _=>[114,101,102])
theorem i_ty {t:Ty}:AaR t.d (.int 0) h Q=Q (.str t.kd) h:=by cases t<;>rfl
theorem Arl {t:Ty}:Eo (cmpD .isin (.str t.kd) (.tup [.str [118,97,114],.str [105,110,116,118,97,114]]) h) Q X=Q (.bool false) h:=by cases t<;>rfl
theorem AmH {o:AO}{x:Hp}{V:List D}{K:AO→Prop}:at_ (hq B (((s.a [o]).a x).v V)) (s.r.length+37) K=K o:=U3 (by
 show ((s.r++[o])++x)[s.r.length]? = some o
 simp)
theorem AkF {x:Hp}{V:List D}:Eo (cmpD .ne (.loc (s.r.length+37)) (.lst []) (hq B (((s.a [.list []]).a x).v V))) Q X=Q (.bool false) (hq B (((s.a [.list []]).a x).v V)):=by
 rw [Aof,AmH];rfl
theorem AfD {t:Ty}{k:Nat}(hV:s.V[k]? = some .none)(hl:Nat.ble s.V.length most=true)(ht:t.dep≤6)(kk:Q .none (hq B (((s.a [.list []]).a [.list []]).v (s.V.set k t.d)))):Ev (J0 (n+5) 34 [.loc 31,(enD t.d),ownD k] (hq B s)) Q X:=by
 have hk:k < s.V.length:=(List.getElem?_eq_some_iff.mp hV).1
 refine Z1 (n:=n+4) (fi:=W3) (ρ:=[some (.loc 31),some (enD t.d),some (ownD k),none,none,none,none]) rfl rfl ?_
 simp! only [W3,wh_t,AbH (Ail (show D.plain (enD t.d)=true from Y9 (.en t)) (show D.plain (ownD k)=true from rfl)),AbA,Adp (ds:=[.tup [(enD t.d),ownD k]]) (i:=[]) (x:=.tup [(enD t.d),ownD k]) rfl rfl]
 refine AbN ?_
 simp! only [X7]
 refine AbN ?_
 simp! only [Ao0]
 refine AjN ?_
 simp! only [AbA]
 refine Adj ?_
 simp! only [X7]
 refine Adj ?_
 simp! only [AhJ (x:=.lst [.tup [t.d,varD k]]) (ds:=[]) (es:=[.tup [t.d,varD k]]) (fun _=>rfl) rfl,wh_u,AbH (Ail (Y9 t) (show D.plain (varD k)=true from rfl)),AbA,Adp (ds:=[.tup [t.d,varD k]]) (i:=[]) (x:=.tup [t.d,varD k]) rfl rfl]
 refine Z6 ?_
 simp! only [X7]
 refine Aex (s:=s.a [.list []]) hV hl ?_
 simp! only [Alp,i_ty,↓Arl]
 refine AmB (s:=s.a [.list []]) hk hl ht ?_
 simp! only [wh_v,AkF]
 exact kk
end
section
variable {B:Nat→AO}{h:Hp}{s:RS}{Q:D→Hp→Prop}{X:Nat→Hp→Prop}{n:Nat}
noncomputable def Sx (B:Nat→AO)(V:D)(K:RS→Prop)(v:D)(g:Hp):Prop:=v=V∧∃s,g=hq B s∧K s
noncomputable def Sy (B:Nat→AO)(K:D→RS→Prop)(v:D)(g:Hp):Prop:=∃s,g=hq B s∧K v s
theorem sx {V:D}{K:RS→Prop}(k:K s):Sx B V K V (hq B s):=⟨rfl,s,rfl,k⟩
theorem sy {v:D}{K:D→RS→Prop}(k:K v s):Sy B K v (hq B s):=⟨s,rfl,k⟩
noncomputable def nox (_:Nat)(_:Hp):Prop:=False
noncomputable def oV (B:Nat→AO)(U:Nat→Bool)(V:Nat→D)(n f:Nat)(as:List D)(h:Hp)(Q:D→Hp→Prop)(X:Nat→Hp→Prop):Prop :=
 @Bool.casesOn (fun _=>Prop) (U f) (Er (J0 n f as h) (Sx B (V f) fun s=>Q (V f) (hq B s)) nox) (Er (J0 n f as h) (Sy B fun v s=>Q v (hq B s)) nox)
theorem AsZ {U:Nat→Bool}{V:Nat→D}(n f:Nat)(as:List D)(h:Hp)(Q:D→Hp→Prop)(X:Nat→Hp→Prop):oV B U V (n+1) f as h Q X→J0 (n+1) f as h Q X:=by
 unfold oV
 cases U f
 ·exact fun e=>Abk <| Ev.mono (AlF e) (fun v g z=>by obtain ⟨rfl,s,rfl,k⟩:=z;exact k) fun _ _ z=>z.elim
 ·exact fun e=>Abk <| Ev.mono (AlF e) (fun v g z=>by obtain ⟨s,rfl,k⟩:=z;exact k) fun _ _ z=>z.elim
theorem V7 (B:Nat→AO)(S U:Nat→Bool)(V:Nat→D){f n:Nat}{as:List D}{h:Hp}{Q:D→Hp→Prop}{X:Nat→Hp→Prop}{R:Prop}(k:R)(e:c1 n (Akl S (oV B U V) n) f as h Q X=R):Ev (J0 (n+1) f as h) Q X :=
 step S (oV B U V) e AsZ k
noncomputable def f1 (a f:Nat):Bool:=Nat.beq f a
noncomputable def f0 (_:Nat):Bool:=false
noncomputable def f2 (a b f:Nat):Bool:=Nat.beq f a||Nat.beq f b
noncomputable def f3 (a b c f:Nat):Bool:=Nat.beq f a||f2 b c f
noncomputable def v1 (v:D)(_:Nat):D:=v
noncomputable def v2 (a:Nat)(v w:D)(f:Nat):D:=bT (Nat.beq f a) v w
noncomputable def RS.fr (s:RS):RS:=⟨s.V++[.none],s.N++[.bool false],s.L,s.sc,s.k,s.j,s.r⟩
theorem len1 {α:Type}{l:List α}{a:α}:(l++[a]).length=l.length+1:=List.length_append
theorem sub1 {n:Nat}:((n+1:Nat):Int) - 1=(n:Int):=Int.add_sub_cancel (n:Int) 1
theorem Agx {n:Nat}(h:n≤90000):Nat.ble n most=true:=Aab (Nat.le_trans h (by decide))
theorem Aop {n:Nat}(h:n≤90000):Nat.ble (n+1) most=true:=Aab (Nat.le_trans (Nat.succ_le_succ h) (by decide))
theorem g_in {b:Bool}{P:Prop}(e:b=true)(k:P):grd b P:=(g_of e).mpr k
theorem AfM (hV:s.V.length≤90000)(hN:s.N.length≤90000)(k:Q (varD s.V.length) (hq B s.fr)):Ev (J0 (n+1) 28 [.loc 31] (hq B s)) Q X:=by
 refine Eq.mpr (β:=grd (Nat.ble s.V.length most) (grd (Nat.ble s.N.length most) (grd (Nat.ble (s.V++[D.none]).length most) (Q (.tup [.str [118,97,114],.int (((s.V++[D.none]).length:Nat) - 1)]) (hq B s.fr))))) (by kernel_rfl) (g_in (Agx hV) (g_in (Agx hN) ?_))
 rw [len1,sub1]
 exact g_in (Aop hV) k
theorem As2 {spot:D}(hV:s.V.length≤90000)(hN:s.N.length≤90000)(kk:Q (.tup [.int 1,ownD s.V.length]) (hq B s.fr)):Ev (J0 (n+12) 42 [.loc 30,spot,.tup [.tup [.str [69],.tup [],.tup []],.tup [.str [81],.tup [],.tup []]]] (hq B s)) Q X :=
 V7 B (f1 28) f0 (v1 (varD s.V.length)) (R:=Er (J0 (n+9) 28 [.loc 31] (hq B s)) (Sx B (varD s.V.length) fun s'=>Q (.tup [.int 1,ownD s.V.length]) (hq B s')) nox) (er (AfM hV hN (sx kk))) (by kernel_rfl)
theorem AqJ {spot:D}(hV:s.V.length≤90000)(hN:s.N.length≤90000)(kk:Q (.tup [.int 0,ownD s.V.length]) (hq B s.fr)):Ev (J0 (n+12) 42 [.loc 30,spot,.tup [.tup [.str [80],.tup [],.tup []]]] (hq B s)) Q X :=
 V7 B (f1 28) f0 (v1 (varD s.V.length)) (R:=Er (J0 (n+9) 28 [.loc 31] (hq B s)) (Sx B (varD s.V.length) fun s'=>Q (.tup [.int 0,ownD s.V.length]) (hq B s')) nox) (er (AfM hV hN (sx kk))) (by kernel_rfl)
theorem AhF {a b spot:D}(k:Er (J0 (n+1) 34 [.loc 31,a,b] (hq B s)) (Sx B .none fun s'=>Q .none (hq B s')) nox):Ev (J0 (n+2) 38 [.loc 30,a,b,spot] (hq B s)) Q X :=
 V7 B (f1 34) f0 (v1 .none) k (by kernel_rfl)
theorem cres {a v:D}(k:Er (J0 (n+1) 30 [.loc 31,a] (hq B s)) (Sx B v fun s'=>Q v (hq B s')) nox):Ev (J0 (n+2) 37 [.loc 30,a] (hq B s)) Q X :=
 V7 B (f1 30) f0 (v1 v) k (by kernel_rfl)
theorem Abf {t:Ty}{m:Nat}(ht:t.dep≤m)(k:Q t.d (hq B s)):Ev (J0 (m+4) 37 [.loc 30,t.d] (hq B s)) Q X:=cres (er (Aff ht (sx k)))
noncomputable abbrev U8 (x:List Nat)(r m:Bool)(i:D):D:=.tup [.str [110,97,109,101],.int 1,.str x,.bool r,.bool m,i]
noncomputable abbrev Aap (t:D)(n:D)(w:D)(q:D):D:=.tup [.str [98,105,110,100],t,n,w,q]
noncomputable abbrev derD (t q:D):D:=.tup [.str [100,101,114,101,102],t,q]
noncomputable abbrev litD (v:D):D:=.tup [.str [108,105,116],.int 1,v]
noncomputable abbrev conD (t:D)(v:D):D:=.tup [.str [99,111,110,115,116],t,v]
noncomputable abbrev wilD:D:=.tup [.str [119,105,108,100],.int 1]
noncomputable abbrev refD (b:Bool)(p:D):D:=.tup [.str [114,101,102],.int 1,.bool b,p]
noncomputable abbrev tupD (ps:List D):D:=.tup [.str [116,117,112,108,101],.int 1,.tup ps]
noncomputable abbrev fldD (t:D)(qs:List D):D:=.tup [.str [102,105,101,108,100,115],t,.tup qs]
noncomputable abbrev rngD:D:=.tup [.str [114,97,110,103,101],.int 1,.int 3,.int 200]
noncomputable abbrev seg (x:List Nat):D:=.tup [.str x,.tup [],.tup []]
noncomputable abbrev fpD (told:D)(b:Bool):D:=.tup [.str [102,105,101,108,100,115],.int 1,.tup [seg [83]],told,.bool b]
noncomputable abbrev Aem (path parts:D):D:=.tup [.str [118,97,114,105,97,110,116],.int 1,path,parts]
noncomputable abbrev Acv (t:D)(k:Int)(qs:List D):D:=.tup [.str [118,97,114,105,97,110,116],t,.int k,.tup qs]
noncomputable abbrev orpD (ps:List D):D:=.tup [.str [111,114],.int 1,.tup ps]
noncomputable abbrev orqD (t:D)(qs:List D):D:=.tup [.str [111,114],t,.tup qs]
noncomputable abbrev pQ:D:=.tup [seg [69],seg [81]]
noncomputable abbrev pP:D:=.tup [seg [80]]
theorem Aiu {t md:D}(k:Q (.tup [.str [119,105,108,100],t]) (hq B s)):Ev (J0 (n+1) 9 [.loc 36,wilD,t,md] (hq B s)) Q X:=Eq.mpr (by kernel_rfl) k
theorem Alg {i:Int}{md:D}(k:Q (conD u8D (.int i)) (hq B s)):Ev (J0 (n+7) 9 [.loc 36,litD (.int i),u8D,md] (hq B s)) Q X:=Eq.mpr (by kernel_rfl) k
theorem Aoi {md:D}(k:Q (.tup [.str [114,97,110,103,101],u8D,.int 3,.int 200]) (hq B s)):Ev (J0 (n+8) 9 [.loc 36,rngD,u8D,md] (hq B s)) Q X:=Eq.mpr (by kernel_rfl) k
theorem Ab8 {t:Ty}{spot:D}(ht:t.dep≤6)(k:Q .none (hq B (s.a [.list []]))):Ev (J0 (n+5) 38 [.loc 30,t.d,t.d,spot] (hq B s)) Q X:=AhF (er (Ags ht (sx k)))
theorem Ajx {spot:D}(k:Q .none (hq B (s.a [.list []]))):Ev (J0 (n+5) 38 [.loc 30,booD,booD,spot] (hq B s)) Q X:=Ab8 (t:=.bool) (by decide) k
theorem Am9 {b:Bool}{md:D}(k:Q (conD booD (.bool b)) (hq B (s.a [.list []]))):Ev (J0 (n+7) 9 [.loc 36,litD (.bool b),booD,md] (hq B s)) Q X :=
 V7 B (f1 38) f0 (v1 .none) (R:=Er (J0 (n+5) 38 [.loc 30,booD,booD,.int 1] (hq B s)) (Sx B .none fun s'=>Q (conD booD (.bool b)) (hq B s')) nox) (er (Ajx (sx k))) (by kernel_rfl)
end
section
variable {B:Nat→AO}{h:Hp}{s:RS}{Q:D→Hp→Prop}{X:Nat→Hp→Prop}{n:Nat}
theorem AbE {a b c i t md:D}(k:Er (J0 (n+1) 10 [.loc 36,.tup [.str [110,97,109,101],.int 1,a,b,c,i],t,md] (hq B s)) (Sy B fun v s'=>Q v (hq B s')) nox):Ev (J0 (n+2) 9 [.loc 36,.tup [.str [110,97,109,101],.int 1,a,b,c,i],t,md] (hq B s)) Q X :=
 V7 B (f1 10) (f1 10) (v1 .none) k (by kernel_rfl)
theorem Apv {a t md:D}(k:Er (J0 (n+1) 14 [.loc 36,.tup [.str [111,114],.int 1,a],t,md] (hq B s)) (Sy B fun v s'=>Q v (hq B s')) nox):Ev (J0 (n+2) 9 [.loc 36,.tup [.str [111,114],.int 1,a],t,md] (hq B s)) Q X :=
 V7 B (f1 14) (f1 14) (v1 .none) k (by kernel_rfl)
theorem AoZ {t:Ty}{p md:D}{b:Bool}{m:Nat}(ht:t.dep≤5)(k:Er (J0 (n+12) 9 [.loc 36,p,t.d,.str [109,111,118,101]] (hq B s)) (Sy B fun v s'=>Q (derD (rfD b t.d) v) (hq B s')) nox):Ev (J0 (n+14) 9 [.loc 36,refD b p,rfD b t.d,md] (hq B s)) Q X :=
 V7 B (f2 37 9) (f1 9) (v1 (rfD b t.d)) (R:=Er (J0 (n+12) 37 [.loc 30,rfD b t.d] (hq B s)) (Sx B (rfD b t.d) fun s1=>Er (J0 (n+12) 9 [.loc 36,p,t.d,.str [109,111,118,101]] (hq B s1)) (Sy B fun v s'=>Q (derD (rfD b t.d) v) (hq B s')) nox) nox) (er (Abf (t:=.rf b t) (m:=n+8) (dl (c:=6) (m:=n+2) (Nat.succ_le_succ ht)) (sx k))) (by cases b<;>kernel_rfl)
inductive CK where
 |lit (v:D)|rng|tup (ps:List D)|fld (told:D) (b:Bool)|var (path parts:D)
noncomputable def coD (c:CK):D:=@CK.casesOn (fun _=>D) c (fun v=>litD v) rngD (fun ps=>tupD ps) (fun told b=>fpD told b) (fun path parts=>Aem path parts)
theorem Ais {m:Mo'}{b:Bool}(k:Q (m.beh b).d h):Ev (J0 (n+1) 24 [m.d,.bool b] h) Q X:=by
 cases m<;>cases b<;>exact Eq.mpr (by kernel_rfl) k
theorem Aip {c:CK}{t:Ty}{m:Mo'}{b:Bool}(ht:t.dep≤5)(k:Er (J0 (n+13) 9 [.loc 36,coD c,t.d,(m.beh b).d] (hq B s)) (Sy B fun v s'=>Q (derD (rfD b t.d) v) (hq B s')) nox):Ev (J0 (n+14) 9 [.loc 36,coD c,rfD b t.d,m.d] (hq B s)) Q X :=
 V7 B (f3 37 24 9) (f1 9) (v2 37 (rfD b t.d) (m.beh b).d) (R:=Er (J0 (n+13) 37 [.loc 30,rfD b t.d] (hq B s)) (Sx B (rfD b t.d) fun s1=>Er (J0 (n+13) 24 [m.d,.bool b] (hq B s1)) (Sx B (m.beh b).d fun s2=>Er (J0 (n+13) 9 [.loc 36,coD c,t.d,(m.beh b).d] (hq B s2)) (Sy B fun v s'=>Q (derD (rfD b t.d) v) (hq B s')) nox) nox) nox)
  (er (Abf (t:=.rf b t) (m:=n+9) (dl (c:=6) (m:=n+3) (Nat.succ_le_succ ht)) (sx (er (Ais (sx k)))))) (by cases c<;>kernel_rfl)
theorem AnX {t:Ty}{p p' md:D}(ht:t.dep≤5)(k:Er (J0 (n+12) 9 [.loc 36,p,t.d,md] (hq B s)) (Sy B fun v s1=>Er (J0 (n+12) 9 [.loc 36,p',u8D,md] (hq B s1)) (Sy B fun v' s2=>Q (fldD (prD t.d) [v,v']) (hq B s2)) nox) nox):Ev (J0 (n+15) 9 [.loc 36,tupD [p,p'],prD t.d,md] (hq B s)) Q X :=
 V7 B (f2 37 9) (f1 9) (v1 (prD t.d)) (R:=Er (J0 (n+14) 37 [.loc 30,prD t.d] (hq B s)) (Sx B (prD t.d) fun s0=>Er (J0 (n+12) 9 [.loc 36,p,t.d,md] (hq B s0)) (Sy B fun v s1=>Er (J0 (n+12) 9 [.loc 36,p',u8D,md] (hq B s1)) (Sy B fun v' s2=>Q (fldD (prD t.d) [v,v']) (hq B s2)) nox) nox) nox)
  (er (Abf (t:=.pair t) (m:=n+10) (dl (c:=6) (m:=n+4) (Nat.succ_le_succ ht)) (sx k))) (by kernel_rfl)
noncomputable abbrev parT:D:=.tup [.str [112,97,114,97,109],.str [84]]
theorem AjU {d:D}(k:Q (.lst [.tup [.str [48],d],.tup [.str [49],u8D]]) (hq B ((s.a [.dict [([84],d)]]).a [.dict []]))):Ev (J0 (n+4) 6 [enD d,.int 1,.loc 19] (hq B s)) Q X:=by
 refine Eq.mpr (β:=at_ (hq B ((s.a [.dict [([84],d)]]).a [.dict []])) (s.r.length+37) fun o=>W2 o fun _=>at_ (hq B ((s.a [.dict [([84],d)]]).a [.dict []])) (s.r.length+37) fun o=>W2 o fun kvs=>Q (.lst [.tup [.str [48],(find kvs [84]).getD parT],.tup [.str [49],u8D]]) (hq B ((s.a [.dict [([84],d)]]).a [.dict []]))) (by kernel_rfl) ?_
 have e:((s.a [AO.dict [([84],d)]]).a [AO.dict []]).r[s.r.length]? = some (.dict [([84],d)]):=by
  show ((s.r++[_])++[_])[s.r.length]? = _
  simp
 rw [hq_r,U3 e,AlD,hq_r,U3 e]
 exact k
theorem Asq {t:Ty}{p p' md:D}(hV:s.V.length≤80000)(hN:s.N.length≤80000)(ht:t.dep≤5)
  (k:∀s',s'=((((s.fr.a [.list []]).a [.list []]).v (s.fr.V.set s.V.length t.d)).a [.dict [([84],t.d)]]).a [.dict []]→Er (J0 (n+27) 9 [.loc 36,p,t.d,md] (hq B s')) (Sy B fun v s1=>Er (J0 (n+27) 9 [.loc 36,p',u8D,md] (hq B s1)) (Sy B fun v' s2=>Q (Acv (enD t.d) 1 [v,v']) (hq B s2)) nox) nox) :
  Ev (J0 (n+30) 9 [.loc 36,Aem pQ (.tup [p,p']),enD t.d,md] (hq B s)) Q X:=by
 refine V7 B (fun f=>f3 37 42 9 f||f2 38 6 f) (f1 9) (fun f=>bT (Nat.beq f 37) (enD t.d) (bT (Nat.beq f 42) (.tup [.int 1,ownD s.V.length]) (bT (Nat.beq f 38) .none (.lst [.tup [.str [48],t.d],.tup [.str [49],u8D]]))))
  (R:=Er (J0 (n+29) 37 [.loc 30,enD t.d] (hq B s)) (Sx B (enD t.d) fun s1=>Er (J0 (n+28) 42 [.loc 30,.int 1,pQ] (hq B s1)) (Sx B (.tup [.int 1,ownD s.V.length]) fun s2=>Er (J0 (n+28) 38 [.loc 30,enD t.d,ownD s.V.length,.int 1] (hq B s2)) (Sx B .none fun s3=>Er (J0 (n+28) 37 [.loc 30,ownD s.V.length] (hq B s3)) (Sx B (enD t.d) fun s4=>Er (J0 (n+28) 6 [enD t.d,.int 1,.loc 19] (hq B s4)) (Sx B (.lst [.tup [.str [48],t.d],.tup [.str [49],u8D]]) fun s5=>Er (J0 (n+27) 9 [.loc 36,p,t.d,md] (hq B s5)) (Sy B fun v s6=>Er (J0 (n+27) 9 [.loc 36,p',u8D,md] (hq B s6)) (Sy B fun v' s7=>Q (Acv (enD t.d) 1 [v,v']) (hq B s7)) nox) nox) nox) nox) nox) nox) nox) ?_ (by kernel_rfl)
 have hl:s.fr.V.length≤90000:=by
  show (s.V++[D.none]).length≤90000
  rw [len1];omega
 have hl2:(s.fr.V.set s.V.length t.d).length≤90000:=by rw [List.length_set];exact hl
 have e:s.fr.V[s.V.length]? = some .none:=by show (s.V++[D.none])[s.V.length]? = _;simp
 have e2:(s.fr.V.set s.V.length t.d)[s.V.length]? = some t.d:=by
  show ((s.V++[D.none]).set s.V.length t.d)[s.V.length]? = _
  rw [List.getElem?_set_self (by rw [len1];exact Nat.lt_succ_self _)]
 refine er (Abf (t:=.en t) (m:=n+25) (dl (c:=6) (m:=n+19) (Nat.succ_le_succ ht)) (sx ?_))
 refine er (As2 (by omega) (by omega) (sx ?_))
 refine er (AhF (er (AfD e (Agx hl) (Nat.le_succ_of_le ht) (sx (sx ?_)))))
 refine er (cres (er (AbY (m:=n+23) e2 (Agx hl2) (dl (c:=5) (m:=n+18) ht) (sx (sx ?_)))))
 exact er (AjU (sx (k _ rfl)))
end
section
variable {B:Nat→AO}{h:Hp}{s:RS}{Q:D→Hp→Prop}{X:Nat→Hp→Prop}{n:Nat}
noncomputable abbrev RS.un (s:RS)(d:D):RS:=(((s.fr.a [.list []]).a [.list []]).v (s.fr.V.set s.V.length d))
theorem Ars {t:Ty}{md:D}(hV:s.V.length≤80000)(hN:s.N.length≤80000)(ht:t.dep≤5)(k:Q (Acv (enD t.d) 0 []) (hq B (((s.un t.d).a [.dict [([84],t.d)]]).a [.dict []]))) :
  Ev (J0 (n+30) 9 [.loc 36,Aem pP (.tup []),enD t.d,md] (hq B s)) Q X:=by
 refine V7 B (f3 37 42 38) f0 (fun f=>bT (Nat.beq f 37) (enD t.d) (bT (Nat.beq f 42) (.tup [.int 0,ownD s.V.length]) .none))
  (R:=Er (J0 (n+29) 37 [.loc 30,enD t.d] (hq B s)) (Sx B (enD t.d) fun s1=>Er (J0 (n+28) 42 [.loc 30,.int 1,pP] (hq B s1)) (Sx B (.tup [.int 0,ownD s.V.length]) fun s2=>Er (J0 (n+28) 38 [.loc 30,enD t.d,ownD s.V.length,.int 1] (hq B s2)) (Sx B .none fun s3=>Er (J0 (n+28) 37 [.loc 30,ownD s.V.length] (hq B s3)) (Sx B (enD t.d) fun s4=>Q (Acv (enD t.d) 0 []) (hq B ((s4.a [.dict [([84],t.d)]]).a [.dict []]))) nox) nox) nox) nox) ?_ (by kernel_rfl)
 have hl:s.fr.V.length≤90000:=by
  show (s.V++[D.none]).length≤90000
  rw [len1];omega
 have hl2:(s.fr.V.set s.V.length t.d).length≤90000:=by rw [List.length_set];exact hl
 have e:s.fr.V[s.V.length]? = some .none:=by show (s.V++[D.none])[s.V.length]? = _;simp
 have e2:(s.fr.V.set s.V.length t.d)[s.V.length]? = some t.d:=by
  show ((s.V++[D.none]).set s.V.length t.d)[s.V.length]? = _
  rw [List.getElem?_set_self (by rw [len1];exact Nat.lt_succ_self _)]
 refine er (Abf (t:=.en t) (m:=n+25) (dl (c:=6) (m:=n+19) (Nat.succ_le_succ ht)) (sx ?_))
 refine er (AqJ (by omega) (by omega) (sx ?_))
 refine er (AhF (er (AfD e (Agx hl) (Nat.le_succ_of_le ht) (sx (sx ?_)))))
 exact er (cres (er (AbY (m:=n+23) e2 (Agx hl2) (dl (c:=5) (m:=n+18) ht) (sx (sx k)))))
theorem As1 {spot:D}(k:Q .none (hq B (s.a [.list []]))):Ev (J0 (n+5) 38 [.loc 30,sD,sD,spot] (hq B s)) Q X:=Ab8 (t:=.s) (by decide) k
noncomputable abbrev AgL:D:=.lst [.tup [.str [97],booD],.tup [.str [98],u8D]]
theorem rd_S {told p p' md:D}{b:Bool}
  (k:Er (J0 (n+28) 22 [.loc 36,fpD told b,AgL] (hq B (((s.a [.list []]).a [.dict []]).a [.dict []]))) (Sx B (.tup [p,p']) fun s2=>Er (J0 (n+27) 9 [.loc 36,p,booD,md] (hq B s2)) (Sy B fun v s3=>Er (J0 (n+27) 9 [.loc 36,p',u8D,md] (hq B s3)) (Sy B fun v' s4=>Q (fldD sD [v,v']) (hq B s4)) nox) nox) nox) :
  Ev (J0 (n+30) 9 [.loc 36,fpD told b,sD,md] (hq B s)) Q X :=
 V7 B (f3 38 22 9) (f1 9) (v2 38 .none (.tup [p,p'])) (R:=Er (J0 (n+28) 38 [.loc 30,sD,sD,.int 1] (hq B s)) (Sx B .none fun s1=>Er (J0 (n+28) 22 [.loc 36,fpD told b,AgL] (hq B ((s1.a [.dict []]).a [.dict []]))) (Sx B (.tup [p,p']) fun s2=>Er (J0 (n+27) 9 [.loc 36,p,booD,md] (hq B s2)) (Sy B fun v s3=>Er (J0 (n+27) 9 [.loc 36,p',u8D,md] (hq B s3)) (Sy B fun v' s4=>Q (fldD sD [v,v']) (hq B s4)) nox) nox) nox) nox) (er (As1 (sx k))) (by kernel_rfl)
section
variable {x y z:AO}{K:AO→Prop}
theorem alen:(s.a [x]).r.length=s.r.length+1:=len1
theorem at0:at_ (hq B ((s.a [x]).a [y])) (s.r.length+37) K=K x:=by
 rw [hq_r]
 exact U3 (by show ((s.r++[_])++[_])[s.r.length]? = _;simp)
theorem at1:at_ (hq B ((s.a [x]).a [y])) (s.r.length+1+37) K=K y:=by
 rw [hq_r]
 exact U3 (by show ((s.r++[_])++[_])[s.r.length+1]? = _;simp)
theorem st0:(hq B ((s.a [x]).a [y])).set (s.r.length+37) z=hq B ((s.a [z]).a [y]):=by
 rw [hs_r]
 unfold RS.s RS.a
 rw [List.append_assoc,List.set_append,if_neg (Nat.lt_irrefl _),Nat.sub_self]
 simp
theorem st1:(hq B ((s.a [x]).a [y])).set (s.r.length+1+37) z=hq B ((s.a [x]).a [z]):=by
 rw [hs_r]
 unfold RS.s RS.a
 rw [List.append_assoc,List.set_append,if_neg (by omega)]
 simp
end
theorem AfV {l:Nat}{k:List Nat}{v:D}{K:Hp→Prop}:Aaf (.loc l) (.str k) v h K=at_ h l fun ob=>W2 ob fun kvs=>grd (Nat.ble kvs.length most) (K (h.set l (.dict (putK kvs k v)))):=rfl
theorem bl_0:Nat.blt 0 60=true:=rfl
theorem Ans {p:D}(k:Q (.tup [p,wilD]) (hq B ((s.a [.dict []]).a [.list [p,wilD]]))):Ev (J0 (n+1) 22 [.loc 36,fpD (.tup [.tup [.str [97],p]]) true,AgL] (hq B s)) Q X:=by
 refine Z1 (n:=n) (fi:=J5) (ρ:=[some (.loc 36),some (fpD (.tup [.tup [.str [97],p]]) true),some AgL,none,none,none,none,none,none,none,none,none,none]) rfl rfl ?_
 simp! only [J5,Ac8,AfV,AdA,alen]
 simp! only [at0,at1,st0,st1,AbF,Adw,AjL]
 simp! only [bl_0,at1]
 exact k
theorem AlR {p p':D}(k:Q (.tup [p,p']) (hq B ((s.a [.dict []]).a [.list [p,p']]))):Ev (J0 (n+1) 22 [.loc 36,fpD (.tup [.tup [.str [97],p],.tup [.str [98],p']]) false,AgL] (hq B s)) Q X:=by
 refine Z1 (n:=n) (fi:=J5) (ρ:=[some (.loc 36),some (fpD (.tup [.tup [.str [97],p],.tup [.str [98],p']]) false),some AgL,none,none,none,none,none,none,none,none,none,none]) rfl rfl ?_
 simp! only [J5,Ac8,AfV,AdA,alen]
 simp! only [at0,at1,st0,st1,AbF,Adw,AjL]
 simp! only [bl_0,at1]
 exact k
end
section
set_option maxHeartbeats 4000000
variable {B:Nat→AO}{h:Hp}{s:RS}{Q:D→Hp→Prop}{X:Nat→Hp→Prop}{n:Nat}
theorem Anu {y:List Nat}(hy:y.length≤50)(k:Q .none (hq B s)):Ev (J0 (n+11) 44 [.loc 30,.tup [seg (120::y)],.int 1] (hq B s)) Q X :=
 Eq.mpr (β:=grd (Nat.ble (([120::y].map List.length).sum+[120::y].length * [58,58].length) most) (grd (Nat.ble (17+(AcM [58,58] [120::y]).length) most) (Q .none (hq B s)))) (by kernel_rfl) (g_in (Aab (by simp [most];omega)) (g_in (Aab (by show 17+(y.length+1)≤100000;omega)) k))
theorem Aog {y:List Nat}{t md:D}(hy:y.length≤50)(k:Q .none (hq B s)):Ev (J0 (n+12) 12 [.loc 36,.str (120::y),.int 1,t,md] (hq B s)) Q X :=
 V7 B (f1 44) f0 (v1 .none) (R:=Er (J0 (n+11) 44 [.loc 30,.tup [seg (120::y)],.int 1] (hq B s)) (Sx B .none fun s'=>Q .none (hq B s')) nox) (er (Anu hy (sx k))) (by kernel_rfl)
noncomputable def U6 (r m:Bool)(md:Mo'):Mo':=bT r (bT m .mt .rf) (bT m .mv md)
noncomputable def AeC (w:Mo')(t:D):D:=@Mo'.casesOn (fun _=>D) w t (rfD false t) (rfD true t)
theorem Ah3 {y:List Nat}{t:D}{r m:Bool}{md:Mo'}{l:Int}(hy:y.length≤50)(hr:r=true→md=.mv)
  (k:Er (J0 (n+12) 13 [.loc 36,.str (120::y),AeC (U6 r m md) t,.bool (m&&!r),(U6 r m md).d,.int 1] (hq B s)) (Sx B (.int l) fun s1=>Q (Aap t (.int l) (U6 r m md).d .none) (hq B s1)) nox) :
  Ev (J0 (n+13) 10 [.loc 36,U8 (120::y) r m .none,t,md.d] (hq B s)) Q X:=by
 cases r
 ·cases m
  ·refine V7 B (f2 12 13) f0 (v2 12 .none (.int l)) (R:=Er (J0 (n+12) 12 [.loc 36,.str (120::y),.int 1,t,md.d] (hq B s)) (Sx B .none fun s0=>Er (J0 (n+12) 13 [.loc 36,.str (120::y),AeC md t,.bool false,md.d,.int 1] (hq B s0)) (Sx B (.int l) fun s1=>Q (Aap t (.int l) md.d .none) (hq B s1)) nox) nox) (er (Aog hy (sx (Eq.mp (by kernel_rfl) k)))) (by cases md<;>kernel_rfl)
  ·exact V7 B (f2 12 13) f0 (v2 12 .none (.int l)) (R:=Er (J0 (n+12) 13 [.loc 36,.str (120::y),t,.bool true,(.str [109,111,118,101]),.int 1] (hq B s)) (Sx B (.int l) fun s1=>Q (Aap t (.int l) (.str [109,111,118,101]) .none) (hq B s1)) nox) (Eq.mp (by kernel_rfl) k) (by kernel_rfl)
 ·cases hr rfl
  cases m
  ·exact V7 B (f2 12 13) f0 (v2 12 .none (.int l)) (R:=Er (J0 (n+12) 13 [.loc 36,.str (120::y),rfD false t,.bool false,(.str [114,101,102]),.int 1] (hq B s)) (Sx B (.int l) fun s1=>Q (Aap t (.int l) (.str [114,101,102]) .none) (hq B s1)) nox) (Eq.mp (by kernel_rfl) k) (by kernel_rfl)
  ·exact V7 B (f2 12 13) f0 (v2 12 .none (.int l)) (R:=Er (J0 (n+12) 13 [.loc 36,.str (120::y),rfD true t,.bool false,(.str [109,117,116]),.int 1] (hq B s)) (Sx B (.int l) fun s1=>Q (Aap t (.int l) (.str [109,117,116]) .none) (hq B s1)) nox) (Eq.mp (by kernel_rfl) k) (by kernel_rfl)
theorem Acl {y:List Nat}{t:D}{p:List D}{r m:Bool}{md:Mo'}{l:Int}(hr:r=true→md=.mv)
  (k:Er (J0 (n+12) 13 [.loc 36,.str (120::y),AeC (U6 r m md) t,.bool (m&&!r),(U6 r m md).d,.int 1] (hq B s)) (Sx B (.int l) fun s1=>Er (J0 (n+12) 9 [.loc 36,.tup p,t,md.d] (hq B s1)) (Sy B fun v s2=>Q (Aap t (.int l) (U6 r m md).d v) (hq B s2)) nox) nox) :
  Ev (J0 (n+13) 10 [.loc 36,U8 (120::y) r m (.tup p),t,md.d] (hq B s)) Q X:=by
 cases r
 ·cases m
  ·exact V7 B (f2 13 9) (f1 9) (v1 (.int l)) (R:=Er (J0 (n+12) 13 [.loc 36,.str (120::y),AeC md t,.bool false,md.d,.int 1] (hq B s)) (Sx B (.int l) fun s1=>Er (J0 (n+12) 9 [.loc 36,.tup p,t,md.d] (hq B s1)) (Sy B fun v s2=>Q (Aap t (.int l) md.d v) (hq B s2)) nox) nox) (Eq.mp (by kernel_rfl) k) (by cases md<;>kernel_rfl)
  ·exact V7 B (f2 13 9) (f1 9) (v1 (.int l)) (R:=Er (J0 (n+12) 13 [.loc 36,.str (120::y),t,.bool true,(.str [109,111,118,101]),.int 1] (hq B s)) (Sx B (.int l) fun s1=>Er (J0 (n+12) 9 [.loc 36,.tup p,t,md.d] (hq B s1)) (Sy B fun v s2=>Q (Aap t (.int l) (.str [109,111,118,101]) v) (hq B s2)) nox) nox) (Eq.mp (by kernel_rfl) k) (by kernel_rfl)
 ·cases hr rfl
  cases m
  ·exact V7 B (f2 13 9) (f1 9) (v1 (.int l)) (R:=Er (J0 (n+12) 13 [.loc 36,.str (120::y),rfD false t,.bool false,(.str [114,101,102]),.int 1] (hq B s)) (Sx B (.int l) fun s1=>Er (J0 (n+12) 9 [.loc 36,.tup p,t,(.str [109,111,118,101])] (hq B s1)) (Sy B fun v s2=>Q (Aap t (.int l) (.str [114,101,102]) v) (hq B s2)) nox) nox) (Eq.mp (by kernel_rfl) k) (by kernel_rfl)
  ·exact V7 B (f2 13 9) (f1 9) (v1 (.int l)) (R:=Er (J0 (n+12) 13 [.loc 36,.str (120::y),rfD true t,.bool false,(.str [109,117,116]),.int 1] (hq B s)) (Sx B (.int l) fun s1=>Er (J0 (n+12) 9 [.loc 36,.tup p,t,(.str [109,111,118,101])] (hq B s1)) (Sy B fun v s2=>Q (Aap t (.int l) (.str [109,117,116]) v) (hq B s2)) nox) nox) (Eq.mp (by kernel_rfl) k) (by kernel_rfl)
noncomputable def RS.b (s:RS)(row:D)(x:List Nat)(H:List (List Nat×D)):RS:=⟨s.V,s.N,s.L++[row],putK s.sc x (.int s.L.length),s.k,s.j,s.r.set s.j (.dict H)⟩
theorem AnD {x:List Nat}{td spot:D}{b:Bool}(hL:s.L.length≤1000)(hc:s.sc.length≤1000)(k:Q (.int s.L.length) (hq B ((s.l (s.L++[.lst [.str x,td,.bool b]])).c (putK s.sc x (.int s.L.length))))):Ev (J0 (n+3) 40 [.loc 30,.str x,td,.bool b,spot] (hq B s)) Q X:=by
 refine Eq.mpr (β:=grd (Nat.ble s.L.length most) (grd (Nat.ble (s.L++[D.lst [.str x,td,.bool b]]).length most) (grd (Nat.ble s.sc.length most) (Q (.int (((s.L++[D.lst [.str x,td,.bool b]]).length:Nat) - 1)) (hq B ((s.l (s.L++[.lst [.str x,td,.bool b]])).c (putK s.sc x (.int (((s.L++[D.lst [.str x,td,.bool b]]).length:Nat) - 1))))))))) (by kernel_rfl) (g_in (Aab (Nat.le_trans hL (by decide))) ?_)
 rw [len1,sub1]
 exact g_in (Aab (Nat.le_trans (Nat.succ_le_succ hL) (by decide))) (g_in (Aab (Nat.le_trans hc (by decide))) k)
end
section
set_option maxHeartbeats 4000000
variable {B:Nat→AO}{h:Hp}{s:RS}{Q:D→Hp→Prop}{X:Nat→Hp→Prop}{n:Nat}
structure Kno (s:RS)(K H:List (List Nat×D)):Prop where
 k:s.r[s.k]? = some (.dict K)
 j:s.r[s.j]? = some (.dict H)
 ne:s.k≠s.j
theorem Ani {x:List Nat}{td way spot:D}{b:Bool}{K H:List (List Nat×D)}(e:Kno s K H)(hx:find H x=none)(hx':find K x=none)(hL:s.L.length≤1000)(hc:s.sc.length≤1000)(hH:H.length≤1000)
  (k:Q (.int s.L.length) (hq B (s.b (.lst [.str x,td,.bool b]) x (putK H x (.tup [.int s.L.length,td,way,.bool b]))))):Ev (J0 (n+5) 13 [.loc 36,.str x,td,.bool b,way,spot] (hq B s)) Q X:=by
 refine Z1 (n:=n+4) (fi:=X5) (ρ:=[some (.loc 36),some (.str x),some td,some (.bool b),some way,some spot,none,none,none,none]) rfl rfl ?_
 simp! only [X5,hq_r,U3 e.j,U3 e.k,hx,hx']
 refine AnD hL hc ?_
 have e1:((s.l (s.L++[.lst [.str x,td,.bool b]])).c (putK s.sc x (.int s.L.length))).r[((s.l (s.L++[.lst [.str x,td,.bool b]])).c (putK s.sc x (.int s.L.length))).j]? = some (.dict H):=e.j
 simp! only [AfV,hq_r,hs_r,U3 e1,Aab (show H.length≤most from Nat.le_trans hH (by decide))]
 exact k
theorem As9 {b:Bool}:Eo (cmpD .ne (.bool b) (.bool b) h) Q X=Q (.bool false) h:=by cases b<;>rfl
theorem Art {w:Mo'}:Eo (cmpD .ne w.d w.d h) Q X=Q (.bool false) h:=by cases w<;>rfl
theorem Al6 {x:List Nat}{T:Ty}{w:Mo'}{spot:D}{b:Bool}{l:Nat}{K H:List (List Nat×D)}(e:Kno s K H)(hT:T.dep≤6)(hx:find H x=none)(hx':find K x=some (.tup [.int l,T.d,w.d,.bool b]))(hH:H.length≤1000)
  (k:Q (.int l) (hq B ((s.a [.list []]).s s.j (.dict (putK H x (.tup [.int l,T.d,w.d,.bool b])))))):Ev (J0 (n+7) 13 [.loc 36,.str x,T.d,.bool b,w.d,spot] (hq B s)) Q X:=by
 refine Z1 (n:=n+6) (fi:=X5) (ρ:=[some (.loc 36),some (.str x),some T.d,some (.bool b),some w.d,some spot,none,none,none,none]) rfl rfl ?_
 have e2:(s.a [AO.list []]).r[(s.a [AO.list []]).j]? = some (.dict H):=by
  show (s.r++[_])[s.j]? = _
  rw [List.getElem?_append_left (List.getElem?_eq_some_iff.mp e.j).1];exact e.j
 simp! only [X5,hq_r,U3 e.j,U3 e.k,hx,hx',↓Art,↓As9]
 refine Ab8 hT ?_
 simp! only [AfV,hq_r,hs_r,U3 e2,Aab (show H.length≤most from Nat.le_trans hH (by decide))]
 exact k
end
section
set_option maxHeartbeats 4000000
variable {B:Nat→AO}{h:Hp}{s:RS}{Q:D→Hp→Prop}{X:Nat→Hp→Prop}{n:Nat}
theorem U2 {x:Hp}{i:Nat}{o:AO}(e:s.r[i]? = some o):(s.a x).r[i]? = some o:=by
 show (s.r++x)[i]? = _
 rw [List.getElem?_append_left (List.getElem?_eq_some_iff.mp e).1];exact e
theorem Af5 {o:AO}:(s.a [o]).r[s.r.length]? = some o:=by
 show (s.r++[o])[s.r.length]? = _
 simp
theorem Ady {i j:Nat}{o o':AO}(e:s.r[i]? = some o)(hne:j≠i):(s.s j o').r[i]? = some o:=by
 show (s.r.set j o')[i]? = _
 rw [List.getElem?_set_ne hne];exact e
theorem Aib {i:Nat}{o o':AO}(e:s.r[i]? = some o):(s.s i o').r[i]? = some o':=by
 show (s.r.set i o')[i]? = _
 rw [List.getElem?_set_self (List.getElem?_eq_some_iff.mp e).1]
theorem lt_r {i:Nat}{o:AO}(e:s.r[i]? = some o):i < s.r.length:=(List.getElem?_eq_some_iff.mp e).1
theorem AoW {n m:Nat}(h:n≤m)(k:m≤most):Nat.ble n most=true:=Aab (Nat.le_trans h k)
theorem Am3 {a b:Nat}{A C:List (List Nat×D)}(ea:s.r[a]? = some (.dict A))(eb:s.r[b]? = some (.dict C))(hl:A.length+C.length≤most)(k:Q (.loc (s.r.length+37)) (hq B (s.a [.dict (Y3 A C)]))):Ev (J0 (n+1) 23 [.loc (a+37),.loc (b+37)] (hq B s)) Q X:=by
 refine Z1 (n:=n) (fi:=AaX) (ρ:=[some (.loc (a+37)),some (.loc (b+37)),none]) rfl rfl ?_
 have h1:(!((s.r.length+37)==(b+37)))=true:=by have:=lt_r eb;simp;omega
 simp! only [AaX,hq_r,U3 ea,Aab (Nat.le_trans (Nat.le_add_right A.length C.length) hl),Adw,U3 (Af5 (s:=s) (o:=.dict A)),AoQ,h1,U3 (U2 (x:=[.dict A]) eb),Aab hl,hs_r,AkY]
 exact k
theorem Aiq (l:List (List Nat)):D.plainAll (l.map D.str)=true:=by
 induction l with
 |nil=>rfl
 |cons x l ih=>exact ih
theorem Am2 (l:List (List Nat)):D.shalAll 59 (l.map D.str)=true:=by
 induction l with
 |nil=>rfl
 |cons x l ih=>exact ih
theorem Ahb {l:List (List Nat)}:Eo (cmpD .ne (.lst (l.map D.str)) (.lst (l.map D.str)) h) Q X=Q (.bool false) h:=by
 rw [Ajq (x:=.lst (l.map D.str)) (y:=.lst (l.map D.str)) (fun _=>rfl) (fun _=>rfl) (by unfold okEq;rw [show D.shal 60 (.lst (l.map D.str))=true from Am2 l,show D.plain (.lst (l.map D.str))=true from Aiq l];rfl),Ab5 _ (show D.plain (.lst (l.map D.str))=true from Aiq l)]
 rfl
theorem sk5 {i:Nat}{K:Hp→Prop}:Aa7 (.loc 36) 5 (.loc (i+37)) (hq B s) K=K (hq B (s.p i s.j)):=rfl
theorem sk6 {i:Nat}{K:Hp→Prop}:Aa7 (.loc 36) 6 (.loc (i+37)) (hq B s) K=K (hq B (s.p s.k i)):=rfl
theorem p_r {i j:Nat}:(s.p i j).r=s.r:=rfl
theorem p_k {i j:Nat}:(s.p i j).k=i:=rfl
theorem p_j {i j:Nat}:(s.p i j).j=j:=rfl
theorem a_k {x:Hp}:(s.a x).k=s.k:=rfl
theorem a_j {x:Hp}:(s.a x).j=s.j:=rfl
theorem s_j {i:Nat}{o:AO}:(s.s i o).j=s.j:=rfl
structure FrP (S s':RS)(L1:List D)(H1:List (List Nat×D)):Prop where
 k:s'.k=S.k
 j:s'.j=S.j
 V:s'.V=S.V
 N:s'.N=S.N
 L:s'.L=L1
 c:S.sc.length≤S.L.length→s'.sc.length≤L1.length
 f:∀i o,i≠S.j→S.r[i]? = some o→s'.r[i]? = some o
 h:s'.r[S.j]? = some (.dict H1)
theorem ApZ {a b t md qa qb:D}{L1:List D}{K H H1:List (List Nat×D)}(e:Kno s K H)(hK:K.length≤500)(hH:H.length≤50)(hH1:H1.length≤50)
  (ka:∀S,Kno S K H→S.V=s.V→S.N=s.N→S.L=s.L→S.sc=s.sc→∀Q' X',(∀s',FrP S s' L1 H1→Q' qa (hq B s'))→Ev (J0 (n+1) 9 [.loc 36,a,t,md] (hq B S)) Q' X')
  (kb:∀S,Kno S (Y3 K H1) H→S.V=s.V→S.N=s.N→S.L=L1→∀Q' X',(∀s',FrP S s' L1 H1→Q' qb (hq B s'))→Ev (J0 (n+1) 9 [.loc 36,b,t,md] (hq B S)) Q' X')
  (k:∀s',Kno s' K H1→s'.V=s.V→s'.N=s.N→s'.L=L1→s'.k=s.k→(s.sc.length≤s.L.length→s'.sc.length≤L1.length)→Q (orqD t [qa,qb]) (hq B s')) :
  Ev (J0 (n+2) 14 [.loc 36,orpD [a,b],t,md] (hq B s)) Q X:=by
 refine Z1 (n:=n+1) (fi:=Y4) (ρ:=[some (.loc 36),some (orpD [a,b]),some t,some md,none,none,none,none,none]) rfl rfl ?_
 have e1:(s.a [AO.list []]).r[s.j]? = some (.dict H):=U2 e.j
 have hKm:Nat.ble K.length most=true:=AoW hK (by decide)
 have hHm:Nat.ble H.length most=true:=AoW hH (by decide)
 have e2:(((s.a [AO.list []]).a [AO.dict H]).p s.k (s.r.length+1)).r[s.k]? = some (.dict K):=U2 (s:=s.a _) (U2 e.k)
 simp! only [Y4,hq_r,U3 e1,Adw,hHm,sk6,sk5,alen,p_r,p_k,p_j,a_k,a_j,↓U3 e2,hKm]
 obtain ⟨S,hS⟩:∃S,S=((((s.a [AO.list []]).a [AO.dict H]).p s.k (s.r.length+1)).a [AO.dict K]).p (s.r.length+2) (s.r.length+1):=⟨_,rfl⟩
 rw [←hS]
 have ek:=lt_r e.k
 have ej:=lt_r e.j
 have g0:S.r[s.r.length]? = some (.list []):=by subst hS;exact U2 (s:=(s.a _).a _) (U2 (s:=s.a _) Af5)
 have g1:S.r[s.r.length+1]? = some (.dict H):=by
  subst hS;rw [←alen (x:=AO.list [])];exact U2 (s:=(s.a _).a _) (Af5 (s:=s.a _))
 have g2:S.r[s.r.length+2]? = some (.dict K):=by
  subst hS;have z:=Af5 (s:=(s.a [AO.list []]).a [AO.dict H]) (o:=AO.dict K);rw [alen,alen] at z;exact z
 have gk:S.r[s.k]? = some (.dict K):=by subst hS;exact U2 (s:=(s.a _).a _) (U2 (s:=s.a _) (U2 e.k))
 have gj:S.r[s.j]? = some (.dict H):=by subst hS;exact U2 (s:=(s.a _).a _) (U2 (s:=s.a _) (U2 e.j))
 have gK:S.k=s.r.length+2:=by subst hS;rfl
 have gJ:S.j=s.r.length+1:=by subst hS;rfl
 have gV:S.V=s.V:=by subst hS;rfl
 have gN:S.N=s.N:=by subst hS;rfl
 have gL:S.L=s.L:=by subst hS;rfl
 have gc:S.sc=s.sc:=by subst hS;rfl
 clear hS
 simp! only [hq_r,U3 g0,AbF]
 refine ka S ⟨by rw [gK];exact g2,by rw [gJ];exact g1,by rw [gK,gJ];omega⟩ gV gN gL gc _ _ fun S4 F=>?_
 have t0:S4.r[s.r.length]? = some (.list []):=F.f _ _ (by omega) g0
 have tk:S4.r[s.k]? = some (.dict K):=F.f _ _ (by omega) gk
 have tj:S4.r[s.j]? = some (.dict H):=F.f _ _ (by omega) gj
 have t1:S4.r[s.r.length+1]? = some (.dict H1):=by rw [←gJ];exact F.h
 have tJ:S4.j=s.r.length+1:=by rw [F.j,gJ]
 obtain ⟨S5,h5⟩:∃S5,S5=S4.s s.r.length (AO.list [qa]):=⟨_,rfl⟩
 have u0:S5.r[s.r.length]? = some (.list [qa]):=by rw [h5];exact Aib t0
 have uk:S5.r[s.k]? = some (.dict K):=by rw [h5];exact Ady tk (by omega)
 have uj:S5.r[s.j]? = some (.dict H):=by rw [h5];exact Ady tj (by omega)
 have u1:S5.r[s.r.length+1]? = some (.dict H1):=by rw [h5];exact Ady t1 (by omega)
 have uV:S5.V=s.V:=by rw [h5];exact F.V.trans gV
 have uN:S5.N=s.N:=by rw [h5];exact F.N.trans gN
 have uL:S5.L=L1:=by rw [h5];exact F.L
 have uc:s.sc.length≤s.L.length→S5.sc.length≤L1.length:=by rw [h5,←gc,←gL];exact F.c
 have uJ:S5.j=s.r.length+1:=by rw [h5];exact tJ
 have w1:=lt_r u1
 simp! only [hq_r,U3 t0,AbF,AjL,hs_r,←h5,uJ,U3 uj,hHm,sk6,a_k,alen,sk5]
 have vk:((S5.a [AO.dict H]).p S5.k S5.r.length).r[s.k]? = some (.dict K):=U2 uk
 have v1:((S5.a [AO.dict H]).p S5.k S5.r.length).r[s.r.length+1]? = some (.dict H1):=U2 u1
 refine Am3 vk v1 (Nat.le_trans (Nat.add_le_add hK hH1) (by decide)) ?_
 obtain ⟨S7,h7⟩:∃S7,S7=((((S5.a [AO.dict H]).p S5.k S5.r.length).a [AO.dict (Y3 K H1)]).p (S5.r.length+1) S5.r.length):=⟨_,rfl⟩
 simp! only [sk5,p_r,alen,a_j,p_j,←h7]
 have lk:=lt_r uk
 have z0:S7.r[s.r.length]? = some (.list [qa]):=by rw [h7];exact U2 (s:=(S5.a _).p _ _) (U2 (s:=S5) u0)
 have zk:S7.r[s.k]? = some (.dict K):=by rw [h7];exact U2 (s:=(S5.a _).p _ _) (U2 (s:=S5) uk)
 have z1:S7.r[s.r.length+1]? = some (.dict H1):=by rw [h7];exact U2 (s:=(S5.a _).p _ _) (U2 (s:=S5) u1)
 have zc:S7.r[S5.r.length]? = some (.dict H):=by rw [h7];exact U2 (s:=(S5.a _).p _ _) (Af5 (s:=S5))
 have zd:S7.r[S5.r.length+1]? = some (.dict (Y3 K H1)):=by
  rw [h7];have z:=Af5 (s:=(S5.a [AO.dict H]).p S5.k S5.r.length) (o:=.dict (Y3 K H1));rw [p_r,alen] at z;exact z
 have zK:S7.k=S5.r.length+1:=by rw [h7];rfl
 have zJ:S7.j=S5.r.length:=by rw [h7];rfl
 have zV:S7.V=s.V:=by rw [h7];exact uV
 have zN:S7.N=s.N:=by rw [h7];exact uN
 have zL:S7.L=L1:=by rw [h7];exact uL
 have zs:S7.sc=S5.sc:=by rw [h7];rfl
 clear h7
 simp! only [hq_r,U3 z0,AbF]
 refine kb S7 ⟨by rw [zK];exact zd,by rw [zJ];exact zc,by rw [zK,zJ];omega⟩ zV zN zL _ _ fun S8 G=>?_
 have y0:S8.r[s.r.length]? = some (.list [qa]):=G.f _ _ (by omega) z0
 have yk:S8.r[s.k]? = some (.dict K):=G.f _ _ (by omega) zk
 have y1:S8.r[s.r.length+1]? = some (.dict H1):=G.f _ _ (by omega) z1
 have yc:S8.r[S5.r.length]? = some (.dict H1):=by rw [←zJ];exact G.h
 have yJ:S8.j=S5.r.length:=by rw [G.j,zJ]
 have x0:(S8.s s.r.length (.list [qa,qb])).r[s.r.length]? = some (.list [qa,qb]):=Aib y0
 have x1:(S8.s s.r.length (.list [qa,qb])).r[s.r.length+1]? = some (.dict H1):=Ady y1 (by omega)
 have xc:(S8.s s.r.length (.list [qa,qb])).r[S5.r.length]? = some (.dict H1):=Ady yc (by omega)
 have xk:(S8.s s.r.length (.list [qa,qb])).r[s.k]? = some (.dict K):=Ady yk (by omega)
 have hb:Nat.blt H1.length 60=true:=Aab (by omega)
 simp! only [hq_r,U3 y0,AbF,AjL,hs_r,yJ,s_j,U3 x1,U3 xc,hb,↓Ahb,sk5,p_r,U3 x0]
 exact k _ ⟨xk,xc,by show s.k≠S5.r.length;omega⟩ (G.V.trans zV) (G.N.trans zN) G.L rfl fun q=>G.c (by rw [zs,zL];exact uc q)
end
section
set_option maxHeartbeats 400000
variable {B:Nat→AO}{h:Hp}{s:RS}{Q:D→Hp→Prop}{X:Nat→Hp→Prop}{n:Nat}
noncomputable def litQ (v:Int)(t:Ty):D:=@Ty.rec (fun _=>D) (conD u8D (.int v)) (conD booD (.int v)) (conD sD (.int v)) (fun t _=>conD (prD t.d) (.int v)) (fun t _=>conD (enD t.d) (.int v)) (fun b t q=>derD (rfD b t.d) q) t
noncomputable def uniQ (t:Ty):D:=@Ty.rec (fun _=>D) (Acv u8D 0 []) (Acv booD 0 []) (Acv sD 0 []) (fun t _=>Acv (prD t.d) 0 []) (fun t _=>Acv (enD t.d) 0 []) (fun b t q=>derD (rfD b t.d) q) t
noncomputable def isEn (t:Ty):Bool:=@Ty.casesOn (fun _=>Bool) t false false false (fun _=>false) (fun _=>true) (fun _ _=>false)
noncomputable def isU8 (t:Ty):Bool:=@Ty.casesOn (fun _=>Bool) t true false false (fun _=>false) (fun _=>false) (fun _ _=>false)
theorem Acx {i:Int}{t:Ty}:∀{Q:D→Hp→Prop} {X:Nat→Hp→Prop} {m:Mo'},isU8 t.bot=true→t.dep≤6→Q (litQ i t) (hq B s)→Ev (J0 (n+t.dep+14) 9 [.loc 36,litD (.int i),t.d,m.d] (hq B s)) Q X:=by
 induction t with
 |u8=>exact fun _ _ k=>Alg (n:=n+7) k
 |rf b t ih=>exact fun hb ht k=>Aip (n:=n+t.dep+1) (c:=.lit (.int i)) (t:=t) (Nat.le_of_succ_le_succ ht) (er (ih (Q:=Sy B fun v s'=>_) hb (Nat.le_of_succ_le ht) (sy k)))
 |_=>exact fun hb=>nomatch hb
theorem thr {x:D}{t:Ty}{X:Nat→Ve→Hp→Prop}{Q:Fl→Ve→Hp→Prop}(j:Nat)(ht:t.dep≤6)(k:Q .nx [some (.loc 30),some x,some t.bot.d] (hq B s)) :
  WH (J0 (n+10)) (.cmp .eq (.item (.var 2) (.lit (.int 0))) (.lit (.str [114,101,102]))) (.cons (.asn (.n 2) (.meth 10 (.var 0) (.cons (.item (.var 2) (.lit (.int 3))) .nil))) .nil) (j+t.dep+1) [some (.loc 30),some x,some t.d] (hq B s) Q X:=by
 induction t with
 |rf b t ih =>
  unfold WH;rw [Aij]
  simp! only [show (Ty.rf b t).d=rfD b t.d from rfl]
  exact Abf (t:=t) (m:=n+6) (Nat.le_trans (Nat.le_of_succ_le ht) (Nat.le_add_left 6 n)) (ih (Nat.le_of_succ_le ht) k)
 |_=>exact Eq.mpr (by kernel_rfl) k
theorem Agm {t:Ty}(ht:t.dep≤6)(k:Q t.bot.d (hq B s)):Ev (J0 (n+11) 25 [.loc 30,t.d] (hq B s)) Q X:=by
 refine Z1 (n:=n+10) (fi:=Acu) (ρ:=[some (.loc 30),some t.d,none]) rfl rfl ?_
 simp! only [Acu]
 refine Abf (m:=n+6) (Nat.le_trans ht (Nat.le_add_left 6 n)) ?_
 obtain ⟨j,hj⟩:∃j,Af2=j+t.dep+1:=⟨99 - t.dep,by show 100=_;omega⟩
 simp! only [X7]
 rw [hj]
 refine thr j ht ?_
 simp! only [X7]
 exact k
theorem ApE {t:Ty}{md:Mo'}(hb:isU8 t.bot=true)(ht:t.dep≤6)(k:Q (litQ 7 t) (hq B (s.a [.list []]))):Ev (J0 (n+t.dep+15) 12 [.loc 36,.str [75],.int 1,t.d,md.d] (hq B s)) Q X :=
 V7 B (f3 25 38 9) (f1 9) (v2 25 u8D .none) (R:=Er (J0 (n+t.dep+14) 25 [.loc 30,t.d] (hq B s)) (Sx B u8D fun s1=>Er (J0 (n+t.dep+14) 38 [.loc 30,u8D,u8D,.int 1] (hq B s1)) (Sx B .none fun s2=>Er (J0 (n+t.dep+14) 9 [.loc 36,litD (.int 7),t.d,md.d] (hq B s2)) (Sy B fun v s3=>Q v (hq B s3)) nox) nox) nox)
  (er (Agm (n:=n+t.dep+3) ht (by rw [show t.bot.d=u8D from by cases hh:t.bot<;>first|rfl|(rw [hh] at hb;cases hb)];exact sx (er (Ab8 (t:=.u8) (n:=n+t.dep+9) (by decide) (sx (er (Acx hb ht (sy k))))))))) (by kernel_rfl)
structure Up (s s':RS)(v:Nat):Prop where
 V:s'.V.length≤s.V.length+v
 N:s'.N.length≤s.N.length+v
 L:s'.L=s.L
 c:s'.sc=s.sc
 k:s'.k=s.k
 j:s'.j=s.j
 r:∃x,s'.r=s.r++x
theorem Amd {t:Ty}(hV:s.V.length≤80000)(hN:s.N.length≤80000):∀{Q:D→Hp→Prop} {X:Nat→Hp→Prop} {m:Mo'},isEn t.bot=true→t.dep≤6→(∀s',Up s s' 1→Q (uniQ t) (hq B s'))→Ev (J0 (n+t.dep+30) 9 [.loc 36,Aem pP (.tup []),t.d,m.d] (hq B s)) Q X:=by
 induction t with
 |en t=>exact fun _ ht k=>Ars hV hN (Nat.le_of_succ_le_succ ht) (k _ ⟨by show ((s.V++[D.none]).set _ _).length≤_;rw [List.length_set,len1];exact Nat.le_refl _,Nat.le_of_eq len1,rfl,rfl,rfl,rfl,[.list [],.list [],.dict [([84],t.d)],.dict []],by show (((s.r++[_])++[_])++[_])++[_]=_;rw [List.append_assoc,List.append_assoc,List.append_assoc];rfl⟩)
 |rf b t ih=>exact fun hb ht k=>Aip (n:=n+t.dep+17) (c:=.var pP (.tup [])) (t:=t) (Nat.le_of_succ_le_succ ht) (er (ih (Q:=Sy B fun v s'=>_) hb (Nat.le_of_succ_le ht) fun s' u=>sy (k s' u)))
 |_=>exact fun hb=>nomatch hb
theorem ApI {t:Ty}{md:Mo'}(hV:s.V.length≤80000)(hN:s.N.length≤80000)(hb:isEn t.bot=true)(ht:t.dep≤6)(k:∀s',Up s s' 1→Q (uniQ t) (hq B s')):Ev (J0 (n+t.dep+31) 12 [.loc 36,.str [80],.int 1,t.d,md.d] (hq B s)) Q X :=
 V7 B (f1 9) (f1 9) (v1 .none) (R:=Er (J0 (n+t.dep+30) 9 [.loc 36,Aem pP (.tup []),t.d,md.d] (hq B s)) (Sy B fun v s3=>Q v (hq B s3)) nox)
  (er (Amd hV hN hb ht fun s' u=>sy (k s' u))) (by kernel_rfl)
end
section
set_option maxHeartbeats 400000
variable {B:Nat→AO}{h:Hp}{s:RS}{Q:D→Hp→Prop}{X:Nat→Hp→Prop}{n:Nat}
noncomputable def xn (n:Nat):List Nat:=120::strI n
theorem AlH:(List.range 40).all (fun i=>(strI i).length.ble 50&&(List.range 40).all fun j=>Nat.beq i j||!sEq (xn i) (xn j))=true:=by kernel_rfl
theorem As3 {i j:Nat}(hi:i < 40)(hj:j < 40)(h:i≠j):sEq (xn i) (xn j)=false:=by
 have h1:=List.all_eq_true.mp (Ajc (List.all_eq_true.mp AlH i (List.mem_range.mpr hi))) j (List.mem_range.mpr hj)
 rw [Bool.eq_false_iff.mpr (fun z=>h (Nat.eq_of_beq_eq_true z)),Bool.false_or,Bool.not_eq_true'] at h1
 exact h1
theorem AlI {i:Nat}(hi:i < 40):(strI i).length≤50:=Nat.le_of_ble_eq_true (Aju (List.all_eq_true.mp AlH i (List.mem_range.mpr hi)))
theorem Aeu {H:List (List Nat×D)}{x y:List Nat}{v:D}:find (putK H x v) y=bT (sEq x y) (some v) (find H y):=by
 induction H with
 |nil=>rfl
 |cons p r ih =>
  obtain ⟨k,u⟩:=p
  rw [pk_c]
  cases h1:sEq k x with
  |true =>
   cases sEq_iff.mp h1
   rw [bt_t,fd_c,fd_c]
   cases sEq x y<;>rfl
  |false =>
   rw [bt_f,fd_c,fd_c,ih]
   cases h2:sEq k y with
   |false=>rfl
   |true =>
    cases sEq_iff.mp h2
    rw [ArJ (fun z=>by rw [z,Ae2] at h1;cases h1)]
    rfl
theorem Acb (H:List (List Nat×D))(x:List Nat)(v:D):(putK H x v).length≤H.length+1:=by
 induction H with
 |nil=>exact Nat.le_refl _
 |cons p r ih =>
  obtain ⟨k,u⟩:=p
  rw [pk_c]
  cases sEq k x
  ·exact Nat.succ_le_succ ih
  ·exact Nat.le_succ _
theorem AkO {x:List Nat}{v:D}{H:List (List Nat×D)}(e:find H x=none):∀{A:List (List Nat×D)},find (Y3 A (putK H x v)) x=some v:=by
 induction H with
 |nil=>intro A;rw [pk_n,pa_c,pa_n,Aeu,Ae2];rfl
 |cons p r ih =>
  intro A
  obtain ⟨k,u⟩:=p
  rw [fd_c] at e
  cases h1:sEq k x with
  |true=>rw [h1] at e;cases e
  |false =>
   rw [h1] at e
   rw [pk_c,h1,bt_f,pa_c]
   exact ih e
structure Iv (s:RS)(K H:List (List Nat×D))(n v:Nat):Prop where
 e:Kno s K H
 fH:∀i,n≤i→i < 40→find H (xn i)=none
 fK:∀i,n≤i→i < 40→find K (xn i)=none
 hH:H.length≤n
 hK:K.length≤500
 L:s.L.length=n
 c:s.sc.length≤s.L.length
 V:s.V.length+v≤80000
 N:s.N.length+v≤80000
theorem Iv.le {K H:List (List Nat×D)}{v v':Nat}(i:Iv s K H n v')(h:v≤v'):Iv s K H n v:=⟨i.e,i.fH,i.fK,i.hH,i.hK,i.L,i.c,Nat.le_trans (Nat.add_le_add_left h _) i.V,Nat.le_trans (Nat.add_le_add_left h _) i.N⟩
theorem Iv.up {s':RS}{K H:List (List Nat×D)}{v w:Nat}(i:Iv s K H n (v+w))(u:Up s s' w):Iv s' K H n v:=by
 obtain ⟨x,hx⟩:=u.r
 have z:∀{i o},s.r[i]? = some o→s'.r[i]? = some o:=fun e=>by rw [hx];exact U2 (s:=s) e
 have hV:=u.V;have hN:=u.N;have h1:=i.V;have h2:=i.N
 exact ⟨⟨by rw [u.k];exact z i.e.k,by rw [u.j];exact z i.e.j,by rw [u.k,u.j];exact i.e.ne⟩,i.fH,i.fK,i.hH,i.hK,by rw [u.L];exact i.L,by rw [u.L,u.c];exact i.c,by omega,by omega⟩
def RdP (B:Nat→AO)(d:Nat)(t:Ty)(md:Mo')(n:Nat)(p q:D)(rs:List D):Prop :=
 ∀{s:RS} {K H:List (List Nat×D)} {Q:D→Hp→Prop} {X:Nat→Hp→Prop} {v N:Nat},Iv s K H n (v+t.dep)→n+rs.length≤39→t.dep≤5→d+40≤N →
 (∀s' H',Iv s' K H' (n+rs.length) v→s'.L=s.L++rs→Q q (hq B s'))→Ev (J0 N 9 [.loc 36,p,t.d,md.d] (hq B s)) Q X
variable {d e:Nat}{t:Ty}{md:Mo'}{p q p' q':D}{rs rs':List D}
theorem fu {a c N:Nat}(h:a+40≤N)(hc:c≤40):∃m,N=m+c:=⟨N - c,by omega⟩
theorem Apw:RdP B d t md n wilD (.tup [.str [119,105,108,100],t.d]) []:=by
 intro s K H Q X v N i hn ht hN k
 obtain ⟨m,rfl⟩:=fu (c:=1) hN (by decide)
 exact Aiu (k s H (i.le (Nat.le_add_right _ _)) (List.append_nil _).symm)
theorem ArT {b:Bool}(hd:d+3≤e)(P:RdP B d t .mv n p q rs):RdP B e (.rf b t) md n (refD b p) (derD (rfD b t.d) q) rs:=by
 intro s K H Q X v N i hn ht hN k
 obtain ⟨m,rfl⟩:=fu (c:=14) hN (by decide)
 exact AoZ (m:=0) (Nat.le_of_succ_le ht) (er (P (i.le (Nat.add_le_add_left (Nat.le_succ _) _)) hn (Nat.le_of_succ_le ht) (by omega) fun s' H' i' hL=>sy (k s' H' i' hL)))
theorem AqV {b:Bool}{c:CK}(hd:d+3≤e)(P:RdP B d t (md.beh b) n (coD c) q rs):RdP B e (.rf b t) md n (coD c) (derD (rfD b t.d) q) rs:=by
 intro s K H Q X v N i hn ht hN k
 obtain ⟨m,rfl⟩:=fu (c:=14) hN (by decide)
 exact Aip (Nat.le_of_succ_le ht) (er (P (i.le (Nat.add_le_add_left (Nat.le_succ _) _)) hn (Nat.le_of_succ_le ht) (by omega) fun s' H' i' hL=>sy (k s' H' i' hL)))
theorem Aqn {b:Bool}:RdP B d .bool md n (litD (.bool b)) (conD booD (.bool b)) []:=by
 intro s K H Q X v N i hn ht hN k
 obtain ⟨m,rfl⟩:=fu (c:=7) hN (by decide)
 exact Am9 (k _ H (i.up ⟨Nat.le_refl _,Nat.le_refl _,rfl,rfl,rfl,rfl,_,rfl⟩) (List.append_nil _).symm)
theorem Aov {j:Int}:RdP B d .u8 md n (litD (.int j)) (conD u8D (.int j)) []:=by
 intro s K H Q X v N i hn ht hN k
 obtain ⟨m,rfl⟩:=fu (c:=7) hN (by decide)
 exact Alg (k s H i (List.append_nil _).symm)
theorem Ata:RdP B d .u8 md n rngD (.tup [.str [114,97,110,103,101],u8D,.int 3,.int 200]) []:=by
 intro s K H Q X v N i hn ht hN k
 obtain ⟨m,rfl⟩:=fu (c:=8) hN (by decide)
 exact Aoi (k s H i (List.append_nil _).symm)
theorem twoR (i:n+(rs++rs').length≤39):n+rs.length≤39∧n+rs.length+rs'.length≤39:=by
 rw [List.length_append] at i;omega
theorem Iv.twoR {K H:List (List Nat×D)}{v:Nat}(i:Iv s K H (n+rs.length+rs'.length) v):Iv s K H (n+(rs++rs').length) v:=by
 rw [List.length_append,←Nat.add_assoc];exact i
theorem Asw (hd:d+3≤e)(P1:RdP B d t md n p q rs)(P2:RdP B d .u8 md (n+rs.length) p' q' rs'):RdP B e (.pair t) md n (tupD [p,p']) (fldD (prD t.d) [q,q']) (rs++rs'):=by
 intro s K H Q X v N i hn ht hN k
 obtain ⟨m,rfl⟩:=fu (c:=15) hN (by decide)
 exact AnX (Nat.le_of_succ_le ht) (er (P1 (i.le (Nat.add_le_add_left (Nat.le_succ _) _)) (twoR hn).1 (Nat.le_of_succ_le ht) (by omega) fun s' H' i' hL=>sy (er (P2 i' (twoR hn).2 (by decide) (by omega) fun s2 H2 i2 hL2=>sy (k s2 H2 i2.twoR (by rw [hL2,hL,List.append_assoc]))))))
theorem Aru (hd:d+3≤e)(P1:RdP B d .bool md n p q rs):RdP B e .s md n (fpD (.tup [.tup [.str [97],p]]) true) (fldD sD [q,.tup [.str [119,105,108,100],u8D]]) rs:=by
 intro s K H Q X v N i hn ht hN k
 obtain ⟨m,rfl⟩:=fu (c:=30) hN (by decide)
 exact rd_S (er (Ans (sx (er (P1 (i.up ⟨Nat.le_refl _,Nat.le_refl _,rfl,rfl,rfl,rfl,[.list [],.dict [],.dict [],.dict [],.list [p,wilD]],by show ((((s.r++[_])++[_])++[_])++[_])++[_]=_;rw [List.append_assoc,List.append_assoc,List.append_assoc,List.append_assoc];rfl⟩) hn ht (by omega) fun s' H' i' hL=>sy (er (Aiu (sy (k s' H' i' hL)))))))))
theorem Aqy (hd:d+3≤e)(P1:RdP B d .bool md n p q rs)(P2:RdP B d .u8 md (n+rs.length) p' q' rs'):RdP B e .s md n (fpD (.tup [.tup [.str [97],p],.tup [.str [98],p']]) false) (fldD sD [q,q']) (rs++rs'):=by
 intro s K H Q X v N i hn ht hN k
 obtain ⟨m,rfl⟩:=fu (c:=30) hN (by decide)
 exact rd_S (er (AlR (sx (er (P1 (i.up ⟨Nat.le_refl _,Nat.le_refl _,rfl,rfl,rfl,rfl,[.list [],.dict [],.dict [],.dict [],.list [p,p']],by show ((((s.r++[_])++[_])++[_])++[_])++[_]=_;rw [List.append_assoc,List.append_assoc,List.append_assoc,List.append_assoc];rfl⟩) (twoR hn).1 ht (by omega) fun s' H' i' hL=>sy (er (P2 i' (twoR hn).2 ht (by omega) fun s2 H2 i2 hL2=>sy (k s2 H2 i2.twoR (by rw [hL2,hL,List.append_assoc];rfl)))))))))
theorem r_vq (hd:d+3≤e)(P1:RdP B d t md n p q rs)(P2:RdP B d .u8 md (n+rs.length) p' q' rs'):RdP B e (.en t) md n (Aem pQ (.tup [p,p'])) (Acv (enD t.d) 1 [q,q']) (rs++rs'):=by
 intro s K H Q X v N i hn ht hN k
 obtain ⟨m,rfl⟩:=fu (c:=30) hN (by decide)
 refine Asq (Nat.le_trans (Nat.le_add_right _ _) i.V) (Nat.le_trans (Nat.le_add_right _ _) i.N) (Nat.le_of_succ_le ht) fun s' hs=>?_
 have i':Iv s' K H n (v+t.dep):=Iv.up (v:=v+t.dep) (w:=1) i (by
  subst hs
  exact ⟨by show ((s.V++[D.none]).set _ _).length≤_;rw [List.length_set,len1];exact Nat.le_refl _,Nat.le_of_eq len1,rfl,rfl,rfl,rfl,[.list [],.list [],.dict [([84],t.d)],.dict []],by show (((s.r++[_])++[_])++[_])++[_]=_;rw [List.append_assoc,List.append_assoc,List.append_assoc];rfl⟩)
 have eL:s'.L=s.L:=by subst hs;rfl
 exact er (P1 i' (twoR hn).1 (Nat.le_of_succ_le ht) (by omega) fun s1 H1 i1 hL=>sy (er (P2 i1 (twoR hn).2 (by decide) (by omega) fun s2 H2 i2 hL2=>sy (k s2 H2 i2.twoR (by rw [hL2,hL,eL,List.append_assoc])))))
theorem Aet {x:List Nat}{t md:D}{ds:List D}(k:Er (J0 (n+1) 12 [.loc 36,.str x,.int 1,t,md] (hq B s)) (Sx B (.tup ds) fun s'=>Q (.tup ds) (hq B s')) nox):Ev (J0 (n+2) 10 [.loc 36,U8 x false false .none,t,md] (hq B s)) Q X :=
 V7 B (f1 12) f0 (v1 (.tup ds)) k (by kernel_rfl)
theorem Anc {v:Int}:∃ds,litQ v t=.tup ds:=by cases t<;>exact ⟨_,rfl⟩
theorem Anp:∃ds,uniQ t=.tup ds:=by cases t<;>exact ⟨_,rfl⟩
theorem r_cK (hb:isU8 t.bot=true):RdP B d t md n (U8 [75] false false .none) (litQ 7 t) []:=by
 intro s K H Q X v N i hn ht hN k
 obtain ⟨m,rfl⟩:=fu (c:=22) hN (by decide)
 obtain ⟨j,hj⟩:∃j,m+5=j+t.dep:=⟨m+5 - t.dep,by omega⟩
 obtain ⟨ds,hq⟩:=Anc (v:=7) (t:=t)
 rw [show m+22=(j+t.dep+15)+2 from by omega]
 refine AbE (er (Aet (n:=j+t.dep+14) (ds:=ds) (er (ApE hb (Nat.le_succ_of_le ht) ?_))))
 rw [hq] at k ⊢
 exact sx (sy (k _ H ((i.le (Nat.le_add_right v _)).up (w:=0) ⟨Nat.le_refl _,Nat.le_refl _,rfl,rfl,rfl,rfl,_,rfl⟩) (List.append_nil _).symm))
theorem r_uP (hb:isEn t.bot=true):RdP B d t md n (U8 [80] false false .none) (uniQ t) []:=by
 intro s K H Q X v N i hn ht hN k
 obtain ⟨m,rfl⟩:=fu (c:=38) hN (by decide)
 obtain ⟨j,hj⟩:∃j,m+5=j+t.dep:=⟨m+5 - t.dep,by omega⟩
 obtain ⟨ds,hq⟩:=Anp (t:=t)
 have hd:1≤t.dep:=by cases t<;>first|exact Nat.succ_le_succ (Nat.zero_le _)|cases hb
 rw [show m+38=(j+t.dep+31)+2 from by omega]
 refine AbE (er (Aet (n:=j+t.dep+30) (ds:=ds) (er (ApI (Nat.le_trans (Nat.le_add_right _ _) i.V) (Nat.le_trans (Nat.le_add_right _ _) i.N) hb (Nat.le_succ_of_le ht) fun s' u=>?_))))
 rw [hq] at k ⊢
 exact sx (sy (k s' H ((i.le (Nat.add_le_add_left hd v)).up u) (by rw [u.L];exact (List.append_nil _).symm)))
end
section
set_option maxHeartbeats 400000
variable {B:Nat→AO}{h:Hp}{s:RS}{Q:D→Hp→Prop}{X:Nat→Hp→Prop}{n:Nat}
variable {d e:Nat}{t:Ty}{md:Mo'}{p q p' q':D}{rs rs':List D}{r m:Bool}
noncomputable abbrev rowD (n:Nat)(t:Ty)(r m:Bool)(md:Mo'):D:=.lst [.str (xn n),AeC (U6 r m md) t.d,.bool (m&&!r)]
noncomputable abbrev entD (n:Nat)(t:Ty)(r m:Bool)(md:Mo'):D:=.tup [.int n,AeC (U6 r m md) t.d,(U6 r m md).d,.bool (m&&!r)]
theorem Afh {H:List (List Nat×D)}{ent:D}(f:∀i,n≤i→i < 40→find H (xn i)=none)(i:Nat)(h1:n+1≤i)(h2:i < 40):find (putK H (xn n) ent) (xn i)=none:=by
 rw [Aeu,As3 (Nat.lt_trans h1 h2) h2 (Nat.ne_of_lt h1)]
 exact f i (Nat.le_of_succ_le h1) h2
theorem Iv.b {K H:List (List Nat×D)}{v:Nat}{row ent:D}(i:Iv s K H n v):Iv (s.b row (xn n) (putK H (xn n) ent)) K (putK H (xn n) ent) (n+1) v :=
 ⟨⟨Ady i.e.k i.e.ne.symm,Aib i.e.j,i.e.ne⟩,Afh i.fH,fun j h1 h2=>i.fK j (Nat.le_of_succ_le h1) h2,Nat.le_trans (Acb _ _ _) (Nat.succ_le_succ i.hH),i.hK,by show (s.L++[row]).length=_;rw [len1,i.L],
 by show (putK s.sc _ _).length≤(s.L++[row]).length;rw [len1];exact Nat.le_trans (Acb _ _ _) (Nat.succ_le_succ i.c),i.V,i.N⟩
theorem bnd {K H:List (List Nat×D)}{v:Nat}(i:Iv s K H n v)(hn:n < 40){td way spot:D}{b:Bool}(k:Q (.int n) (hq B (s.b (.lst [.str (xn n),td,.bool b]) (xn n) (putK H (xn n) (.tup [.int n,td,way,.bool b]))))){j:Nat}:Ev (J0 (j+5) 13 [.loc 36,.str (xn n),td,.bool b,way,spot] (hq B s)) Q X:=by
 have hL:=i.L
 have hc:=i.c
 refine Ani i.e (i.fH n (Nat.le_refl _) hn) (i.fK n (Nat.le_refl _) hn) (by omega) (by omega) (Nat.le_trans i.hH (by omega)) ?_
 rw [hL]
 exact k
theorem Aoh (hr:r=true→md=.mv):RdP B d t md n (U8 (xn n) r m .none) (Aap t.d (.int n) (U6 r m md).d .none) [rowD n t r m md]:=by
 intro s K H Q X v N i hn ht hN k
 obtain ⟨j,rfl⟩:=fu (c:=14) hN (by decide)
 have h4:n < 40:=Nat.lt_of_succ_le (Nat.le_succ_of_le hn)
 exact AbE (n:=j+12) (er (Ah3 (AlI h4) hr (er (bnd i h4 (sx (sy (k _ _ (i.b.le (Nat.le_add_right _ _)) rfl)))))))
theorem AqS {ps:List D}(hr:r=true→md=.mv)(hd:d+3≤e)(P:RdP B d t md (n+1) (.tup ps) q rs):RdP B e t md n (U8 (xn n) r m (.tup ps)) (Aap t.d (.int n) (U6 r m md).d q) (rowD n t r m md::rs):=by
 intro s K H Q X v N i hn ht hN k
 obtain ⟨j,rfl⟩:=fu (c:=14) hN (by decide)
 rw [List.length_cons] at hn k
 have h4:n < 40:=by omega
 exact AbE (n:=j+12) (er (Acl hr (er (bnd i h4 (sx (er (P i.b (by omega) ht (by omega) fun s' H' i' hL=>sy (sy (k s' H' (by rw [Nat.add_comm rs.length 1,←Nat.add_assoc];exact i') (by rw [hL];exact List.append_assoc _ _ _))))))))))
end
section
set_option maxHeartbeats 400000
variable {B:Nat→AO}{h:Hp}{s:RS}{Q:D→Hp→Prop}{X:Nat→Hp→Prop}{n:Nat}
variable {d e:Nat}{t:Ty}{md:Mo'}{p q p' q':D}{rs rs':List D}{r m:Bool}
theorem FrP.rfl' {H:List (List Nat×D)}{L:List D}(e:s.r[s.j]? = some (.dict H))(hL:s.L=L):FrP s s L H:=⟨rfl,rfl,rfl,rfl,hL,fun h=>hL▸h,fun _ _ _ h=>h,e⟩
theorem Iv.or {K H H1:List (List Nat×D)}{s':RS}{v:Nat}(i:Iv s K H n v){L1:List D}{l:Nat}(e:Kno s' K H1)(hV:s'.V=s.V)(hN:s'.N=s.N)(hL:s'.L=L1)(hc:s.sc.length≤s.L.length→s'.sc.length≤L1.length)(hl:L1.length=n+l)(f:∀j,n+l≤j→j < 40→find H1 (xn j)=none)(hH:H1.length≤n+l):Iv s' K H1 (n+l) v :=
 ⟨e,f,fun j h1 h2=>i.fK j (Nat.le_trans (Nat.le_add_right _ _) h1) h2,hH,i.hK,by rw [hL,hl],by rw [hL];exact hc i.c,by rw [hV];exact i.V,by rw [hN];exact i.N⟩
theorem AoI {a N x:Nat}(h:a+40≤N)(ht:x≤5):∃j,N=j+x+18:=⟨N - x - 18,by omega⟩
theorem ArO {a b:Int}(hb:isU8 t.bot=true):RdP B d t md n (orpD [litD (.int a),litD (.int b)]) (orqD t.d [litQ a t,litQ b t]) []:=by
 intro s K H Q X v N i hn ht hN k
 obtain ⟨j,rfl⟩:=AoI hN ht
 have hH:H.length≤50:=Nat.le_trans i.hH (Nat.le_trans hn (by decide))
 refine Apv (n:=j+t.dep+16) (er (ApZ (n:=j+t.dep+15) (H1:=H) (L1:=s.L) i.e i.hK hH hH (fun S e _ _ eL _ Q' X' k'=>?_) (fun S e _ _ eL Q' X' k'=>?_) fun s' e eV eN eL _ ec=>sy (k s' H ((i.or (l:=0) e eV eN eL ec i.L i.fH i.hH).le (Nat.le_add_right _ _)) (by rw [eL];exact (List.append_nil _).symm))))
 ·rw [show j+t.dep+15+1=j+2+t.dep+14 from by omega];exact Acx hb (Nat.le_succ_of_le ht) (k' S (FrP.rfl' e.j eL))
 ·rw [show j+t.dep+15+1=j+2+t.dep+14 from by omega];exact Acx hb (Nat.le_succ_of_le ht) (k' S (FrP.rfl' e.j eL))
theorem Aie (ht:t.dep≤5):∃T:Ty,T.dep≤6∧T.d=AeC (U6 r m md) t.d:=by
 cases U6 r m md
 ·exact ⟨t,Nat.le_succ_of_le ht,rfl⟩
 ·exact ⟨.rf false t,Nat.succ_le_succ ht,rfl⟩
 ·exact ⟨.rf true t,Nat.succ_le_succ ht,rfl⟩
theorem AsV {a b:Int}(hr:r=true→md=.mv)(hb:isU8 t.bot=true):RdP B d t md n (orpD [U8 (xn n) r m (litD (.int a)),U8 (xn n) r m (litD (.int b))]) (orqD t.d [Aap t.d (.int n) (U6 r m md).d (litQ a t),Aap t.d (.int n) (U6 r m md).d (litQ b t)]) [rowD n t r m md]:=by
 intro s K H Q X v N i hn ht hN k
 obtain ⟨j,rfl⟩:=AoI hN ht
 have hH:=Nat.le_trans i.hH (Nat.le_of_succ_le hn)
 have h4:n < 40:=Nat.lt_of_succ_le (Nat.le_succ_of_le hn)
 have hx:=i.fH n (Nat.le_refl _) h4
 have hP:=Acb H (xn n) (entD n t r m md)
 refine Apv (n:=j+t.dep+16) (er (ApZ (n:=j+t.dep+15) (H1:=putK H (xn n) (entD n t r m md)) (L1:=s.L++[rowD n t r m md]) i.e i.hK (by omega) (by omega) (fun S e eV eN eL ec Q' X' k'=>?_) (fun S e eV eN eL Q' X' k'=>?_) fun s' e eV eN eL _ ec=>sy (k s' _ ((i.or (l:=1) e eV eN eL ec (by rw [len1,i.L]) (Afh i.fH) (Nat.le_trans hP (Nat.succ_le_succ i.hH))).le (Nat.le_add_right _ _)) eL)))
 ·have iS:Iv S K H n (v+t.dep):=⟨e,i.fH,i.fK,i.hH,i.hK,by rw [eL];exact i.L,by rw [eL,ec];exact i.c,by rw [eV];exact i.V,by rw [eN];exact i.N⟩
  refine AbE (n:=j+t.dep+14) (er (Acl (n:=j+t.dep+2) hr (er (bnd (j:=j+t.dep+9) iS h4 (sx (er ?_))))))
  exact Acx (n:=j) hb (Nat.le_succ_of_le ht) (sy (sy (k' _ ⟨rfl,rfl,rfl,rfl,by rw [←eL];rfl,fun h=>by show (putK S.sc _ _).length≤_;rw [len1,←eL];exact Nat.le_trans (Acb _ _ _) (Nat.succ_le_succ h),fun i o h1 h2=>Ady h2 h1.symm,Aib e.j⟩)))
 ·obtain ⟨T,hT,hd⟩:=Aie (r:=r) (m:=m) (md:=md) ht
  refine AbE (n:=j+t.dep+14) (er (Acl (n:=j+t.dep+2) (l:=n) hr (er ?_)))
  rw [←hd]
  refine Al6 (n:=j+t.dep+7) (l:=n) e hT hx (by rw [hd];exact AkO hx) (Nat.le_trans hH (by decide)) (sx (er ?_))
  exact Acx (n:=j) hb (Nat.le_succ_of_le ht) (sy (sy (k' _ ⟨rfl,rfl,rfl,rfl,eL,fun h=>by rw [←eL];exact h,fun i o h1 h2=>Ady (U2 h2) h1.symm,by rw [hd];exact Aib (U2 e.j)⟩)))
end
section
set_option maxHeartbeats 400000
variable {h:Hp}{Q:D→Hp→Prop}{X:Nat→Hp→Prop}{n:Nat}
structure Dw where
 cs:List Int
 a:Int
 b:Int
 u:Bool
 hl:cs.length≤1000
noncomputable def Dw.m (w:Dw):D:=bT w.u (.loc 1) (.lst [])
noncomputable def dh (w:Dw)(r:Hp):Hp:=.tab::.list (w.cs.map D.int)::.list []::.list []::.list [.int w.a,.int w.b,w.m]::r
variable {w:Dw}{r:Hp}
theorem dh_4 {K:AO→Prop}:at_ (dh w r) 4 K=K (.list [.int w.a,.int w.b,w.m]):=rfl
theorem AmD {x y:Int}:Eo (binD .mul (.int x) (.int y) h) Q X=grd (Nat.blt y.natAbs 4294967296) (Q (.int (x * y)) h):=rfl
theorem Aki {x y:Int}:Eo (binD .mod (.int x) (.int y) h) Q X=grd (!decide (y=0)) (Q (.int (Int.fmod x y)) h):=rfl
theorem AlC {x y:Int}:Eo (binD .fdiv (.int x) (.int y) h) Q X=grd (decide (0 < y)&&decide (y≤1000000)) (Q (.int (Int.fdiv x y)) h):=rfl
theorem Ab4 {x:Int}{top:Nat}(ht:0 < top):∃j:Nat,j < top∧Int.fmod x top=j:=by
 have h1:=Int.fmod_nonneg_of_pos x (Int.ofNat_lt.mpr ht)
 have h2:=Int.fmod_lt_of_pos x (Int.ofNat_lt.mpr ht)
 exact ⟨(Int.fmod x top).toNat,by omega,(Int.toNat_of_nonneg h1).symm⟩
theorem ds_0 {v:Int}{K:Hp→Prop}:Aaf (.loc 4) (.int 0) (.int v) (dh w r) K=K (dh ⟨w.cs,v,w.b,w.u,w.hl⟩ r):=rfl
theorem ds_1 {v:Int}{K:Hp→Prop}:Aaf (.loc 4) (.int 1) (.int v) (dh w r) K=K (dh ⟨w.cs,w.a,v,w.u,w.hl⟩ r):=rfl
theorem tk_0 {top:Nat}(ht:0 < top)(ht':top≤1000)(k:∀(j:Nat) w',j < top→Q (.int j) (dh w' r))(e:∀{Q:D→Hp→Prop} {X:Nat→Hp→Prop},Eo (cmpD .ne w.m (.lst []) (dh w r)) Q X=Q (.bool false) (dh w r)):Ev (J0 (n+1) 70 [.loc 4,.int top] (dh w r)) Q X:=by
 refine Z1 (n:=n) (fi:=AaA) (ρ:=[some (.loc 4),some (.int top),none]) rfl rfl ?_
 have t1:(!decide ((top:Int)=0))=true:=by rw [decide_eq_false (by omega)];rfl
 have t2:(decide (0 < (top:Int))&&decide ((top:Int)≤1000000))=true:=by rw [decide_eq_true (by omega),decide_eq_true (by omega)];rfl
 have t3:(!decide ((2147483647:Int)=0))=true:=rfl
 have t4:(!decide ((2147483629:Int)=0))=true:=rfl
 have t5:(decide (0 < (32:Int))&&decide ((32:Int)≤1000000))=true:=rfl
 have t6:Nat.blt (39373:Int).natAbs 4294967296=true:=rfl
 have t7:∀x:Int,Nat.blt (Int.fmod x 2147483647).natAbs 4294967296=true:=fun x=>by
  obtain ⟨j,h1,h2⟩:=Ab4 (x:=x) (top:=2147483647) (by decide)
  rw [show Int.fmod x 2147483647=(j:Int) from h2]
  exact Aab (by show j+1≤_;omega)
 simp! only [AaA,dh_4,e]
 cases decide (w.a > 0) with
 |true =>
  simp! only [Aki,AlC,t1,t2,dh_4,ds_0]
  obtain ⟨j,h1,h2⟩:=Ab4 (x:=w.a) ht
  rw [h2]
  exact k j _ h1
 |false =>
  simp! only [Aki,AlC,AmD,t1,t2,t3,t4,t5,t6,t7,dh_4,ds_1]
  obtain ⟨j,h1,h2⟩:=Ab4 (x:=Int.fdiv (Int.fmod (Int.fmod (w.b * 39373+7) 2147483647 * Int.fmod (w.b * 39373+7) 2147483647) 2147483629) 32) ht
  rw [h2]
  exact k j _ h1
theorem AiK (l:List Int):D.plainAll (l.map D.int)=true:=by
 induction l with
 |nil=>rfl
 |cons x l ih=>exact ih
theorem Aq5 {c:Int}{cs:List Int}{a b:Int}{hl:(c::cs).length≤1000}:Eo (cmpD .ne (Dw.m ⟨c::cs,a,b,true,hl⟩) (.lst []) (dh ⟨c::cs,a,b,true,hl⟩ r)) Q X=Q (.bool true) (dh ⟨c::cs,a,b,true,hl⟩ r) :=
 (show _=grd (D.plainAll ((c::cs).map D.int)&&true) (Q (.bool true) (dh ⟨c::cs,a,b,true,hl⟩ r)) from rfl).trans (g_of (by rw [AiK];rfl))
theorem ArV {c:Int}{cs:List Int}{a b:Int}{hl:(c::cs).length≤1000}:Eo (bmD .pop0 (Dw.m ⟨c::cs,a,b,true,hl⟩) [.int 0] (dh ⟨c::cs,a,b,true,hl⟩ r)) Q X=Q (.int c) (dh ⟨cs,a,b,true,Nat.le_of_succ_le hl⟩ r) :=
 (show _=grd (Nat.ble (cs.map D.int).length most) (Q (.int c) (dh ⟨cs,a,b,true,Nat.le_of_succ_le hl⟩ r)) from rfl).trans (g_of (Aab (by rw [List.length_map];exact Nat.le_trans (Nat.le_of_succ_le hl) (by decide))))
theorem AsU {P:Prop}{c:Int}{cs:List Int}{a b:Int}{hl:(c::cs).length≤1000}:isK (dh ⟨c::cs,a,b,true,hl⟩ r) (Dw.m ⟨c::cs,a,b,true,hl⟩) .list P=P:=rfl
theorem AdC {top:Nat}(ht:0 < top)(ht':top≤1000)(k:∀(j:Nat) w',j < top→Q (.int j) (dh w' r)):Ev (J0 (n+1) 70 [.loc 4,.int top] (dh w r)) Q X:=by
 obtain ⟨cs,a,b,u,hl⟩:=w
 cases u with
 |false=>exact tk_0 ht ht' k rfl
 |true =>
  cases cs with
  |nil=>exact tk_0 ht ht' k rfl
  |cons c cs =>
   refine Z1 (n:=n) (fi:=AaA) (ρ:=[some (.loc 4),some (.int top),none]) rfl rfl ?_
   have t1:(!decide ((top:Int)=0))=true:=by rw [decide_eq_false (by omega)];rfl
   simp! only [AaA,dh_4,Aq5,ArV,AsU,Aki,t1]
   obtain ⟨j,h1,h2⟩:=Ab4 (x:=c) ht
   rw [h2]
   exact k j _ h1
theorem AkU {ds:List D}(hl:0 < ds.length)(hl':ds.length≤1000)(k:∀(j:Nat) d w',ds[j]? = some d→Q d (dh w' r)):Ev (J0 (n+2) 71 [.loc 4,.lst ds] (dh w r)) Q X:=by
 refine Z1 (n:=n+1) (fi:=AcH) (ρ:=[some (.loc 4),some (.lst ds)]) rfl rfl ?_
 have hb:Nat.ble ds.length most=true:=Aab (Nat.le_trans hl' (by decide))
 simp! only [AcH,hb]
 refine AdC hl hl' fun j w' hj=>?_
 simp! only [AdF hb,List.getElem?_eq_getElem hj]
 exact k j _ w' (List.getElem?_eq_getElem hj)
theorem Any (deep:Nat):∀{w:Dw} {Q:D→Hp→Prop} {X:Nat→Hp→Prop},(∀(t:Ty) w',t.dep≤deep→Q t.d (dh w' r))→Ev (J0 (n+deep+2) 73 [.loc 4,.int deep] (dh w r)) Q X:=by
 induction deep with
 |zero =>
  intro w Q X k
  refine Z1 (n:=n+1) (fi:=AaE) (ρ:=[some (.loc 4),some (.int 0),none,none]) rfl rfl ?_
  simp! only [AaE]
  refine AdC (top:=2) (by decide) (by decide) fun j w' hj=>?_
  match j,hj with
  |0,_=>exact Eq.mpr (by kernel_rfl) (k .u8 w' (Nat.zero_le _))
  |1,_=>exact Eq.mpr (by kernel_rfl) (k .bool w' (Nat.zero_le _))
 |succ d ih =>
  intro w Q X k
  refine Z1 (n:=n+d+2) (fi:=AaE) (ρ:=[some (.loc 4),some (.int ((d+1:Nat):Int)),none,none]) rfl rfl ?_
  have h0:decide (((d+1:Nat):Int) > 0)=true:=decide_eq_true (by omega)
  simp! only [AaE,h0]
  refine AdC (top:=7) (n:=n+d+1) (by decide) (by decide) fun j w' hj=>?_
  match j,hj with
  |0,_=>exact Eq.mpr (by kernel_rfl) (k .u8 w' (Nat.zero_le _))
  |1,_=>exact Eq.mpr (by kernel_rfl) (k .bool w' (Nat.zero_le _))
  |2,_=>exact Eq.mpr (by kernel_rfl) (k .s w' (Nat.zero_le _))
  |3,_ =>
   refine Eq.mpr (β:=Ev (J0 (n+d+2) 73 [.loc 4,.int (((d+1:Nat):Int) - 1)] (dh w' r)) (fun v h'=>Q (prD v) h') X) (by kernel_rfl) ?_
   rw [sub1]
   exact ih fun t w'' ht=>k (.pair t) w'' (Nat.succ_le_succ ht)
  |4,_ =>
   refine Eq.mpr (β:=Ev (J0 (n+d+2) 73 [.loc 4,.int (((d+1:Nat):Int) - 1)] (dh w' r)) (fun v h'=>Q (enD v) h') X) (by kernel_rfl) ?_
   rw [sub1]
   exact ih fun t w'' ht=>k (.en t) w'' (Nat.succ_le_succ ht)
  |5,_ =>
   refine Eq.mpr (β:=Ev (J0 (n+d+2) 73 [.loc 4,.int (((d+1:Nat):Int) - 1)] (dh w' r)) (fun v h'=>Q (rfD false v) h') X) (by kernel_rfl) ?_
   rw [sub1]
   exact ih fun t w'' ht=>k (.rf false t) w'' (Nat.succ_le_succ ht)
  |6,_ =>
   refine Eq.mpr (β:=Ev (J0 (n+d+2) 73 [.loc 4,.int (((d+1:Nat):Int) - 1)] (dh w' r)) (fun v h'=>Q (rfD true v) h') X) (by kernel_rfl) ?_
   rw [sub1]
   exact ih fun t w'' ht=>k (.rf true t) w'' (Nat.succ_le_succ ht)
end
section
set_option maxHeartbeats 400000
variable {h:Hp}{Q:D→Hp→Prop}{X:Nat→Hp→Prop}{n:Nat}{w:Dw}{g:Hp}{rs:List D}{t:Ty}{md:Mo'}
noncomputable abbrev nam5 (x:List Nat)(r m:Bool):D:=.tup [.str [110,97,109,101],.int 1,.str x,.bool r,.bool m]
noncomputable def dr (w:Dw)(rs:List D)(g:Hp):Hp:=dh w (.list rs::g)
theorem tk {top:Nat}(ht:0 < top)(ht':top≤1000)(k:∀(j:Nat) w',j < top→Q (.int j) (dr w' rs g)):Ev (J0 (n+1) 70 [.loc 4,.int top] (dr w rs g)) Q X:=AdC ht ht' k
theorem eq0 {j:Nat}:Eo (cmpD .eq (.int j) (.int 0) h) Q X=Q (.bool (Nat.beq j 0)) h:=by cases j<;>rfl
theorem Acc (hl:rs.length≤39)(k:∀r m w',(r=true→md=.mv)→Q (.tup [nam5 (xn rs.length) r m,.tup [.int rs.length,(U6 r m md).d]]) (dr w' (rs++[rowD rs.length t r m md]) g)):Ev (J0 (n+2) 77 [.loc 4,t.d,md.d,.loc 5] (dr w rs g)) Q X:=by
 refine Z1 (n:=n+1) (fi:=AbO) (ρ:=[some (.loc 4),some t.d,some md.d,some (.loc 5),none,none,none,none]) rfl rfl ?_
 have fin:∀(r m:Bool) (w':Dw),(r=true→md=.mv)→grd (Nat.ble rs.length most) (grd (decide (0≤(rs.length:Int))&&decide ((rs.length:Int) < 1000)) (grd (Nat.ble (1+(strI rs.length).length) most) (grd (Nat.ble rs.length most) (grd (Nat.ble (rs++[rowD rs.length t r m md]).length most) (Q (.tup [nam5 (xn rs.length) r m,.tup [.int (((rs++[rowD rs.length t r m md]).length:Nat) - 1),(U6 r m md).d]]) (dr w' (rs++[rowD rs.length t r m md]) g)))))):=fun r m w' hr=>by
  have h1:Nat.ble rs.length most=true:=Aab (Nat.le_trans hl (by decide))
  rw [len1,sub1]
  exact g_in h1 (g_in (by rw [decide_eq_true (by omega),decide_eq_true (by omega)];rfl) (g_in (Aab (Nat.le_trans (Nat.add_le_add_left (AlI (Nat.lt_succ_of_le hl)) 1) (by decide))) (g_in h1 (g_in (Aab (Nat.le_trans (Nat.succ_le_succ hl) (by decide))) (k r m w' hr)))))
 simp! only [AbO]
 refine tk (top:=3) (by decide) (by decide) fun j w1 hj=>?_
 simp! only [↓eq0]
 generalize Nat.beq j 0=m
 cases md with
 |mv =>
  simp! only [show Mo'.mv.s=[109,111,118,101] from rfl]
  refine tk (top:=3) (by decide) (by decide) fun j w2 hj=>?_
  simp! only [↓eq0]
  generalize Nat.beq j 0=r
  have f:=fin r m w2 fun _=>rfl
  cases r<;>cases m<;>exact Eq.mpr (by kernel_rfl) f
 |rf =>
  have f:=fin false m w1 nofun
  cases m<;>exact Eq.mpr (by kernel_rfl) f
 |mt =>
  have f:=fin false m w1 nofun
  cases m<;>exact Eq.mpr (by kernel_rfl) f
theorem Ad1 {t:Ty}(k:Q t.bot.d h):Ev (J0 (n+t.dep+1) 76 [t.d] h) Q X:=by
 induction t with
 |rf b t ih =>
  refine Z1 (n:=n+t.dep+1) (fi:=Ab1) (ρ:=[some (rfD b t.d)]) rfl rfl ?_
  exact Eq.mpr (β:=Ev (J0 (n+t.dep+1) 76 [t.d] h) Q X) (by kernel_rfl) (ih k)
 |_=>exact Eq.mpr (by kernel_rfl) k
theorem ApJ {t:Ty}{v:Int}:∀{Q:D→Hp→Prop},isU8 t.bot=true→Q (litQ v t) h→Ev (J0 (n+t.dep+1) 75 [t.d,conD u8D (.int v)] h) Q X:=by
 induction t with
 |u8=>exact fun _ k=>Eq.mpr (by kernel_rfl) k
 |rf b t ih =>
  intro Q hb k
  refine Z1 (n:=n+t.dep+1) (fi:=Abt) (ρ:=[some (rfD b t.d),some _]) rfl rfl ?_
  exact Eq.mpr (β:=Ev (J0 (n+t.dep+1) 75 [t.d,conD u8D (.int v)] h) (fun q h'=>Q (derD (rfD b t.d) q) h') X) (by kernel_rfl) (ih hb k)
 |_=>exact fun hb=>nomatch hb
theorem Ao6 {t:Ty}(hb:isU8 t.bot=true):t.bot=.u8:=by
 cases hh:t.bot<;>first|rfl|(rw [hh] at hb;cases hb)
theorem Asf {j:Nat}(hj:j < 2):∃a b:Int,idx [D.tup [.int 5,.int 6],D.tup [.int 0,.int 255]] j=some (.tup [.int a,.int b]):=by
 match j,hj with
 |0,_=>exact ⟨5,6,rfl⟩
 |1,_=>exact ⟨0,255,rfl⟩
theorem AkK {t:Ty}(hb:isU8 t.bot=true)(hl:rs.length≤39)
  (k1:∀a b w',Q (.tup [orpD [litD (.int a),litD (.int b)],orqD t.d [litQ a t,litQ b t]]) (dr w' rs g))
  (k2:∀a b r m w',(r=true→md=.mv)→Q (.tup [orpD [U8 (xn rs.length) r m (litD (.int a)),U8 (xn rs.length) r m (litD (.int b))],orqD t.d [Aap t.d (.int rs.length) (U6 r m md).d (litQ a t),Aap t.d (.int rs.length) (U6 r m md).d (litQ b t)]]) (dr w' (rs++[rowD rs.length t r m md]) g)) :
  Ev (J0 (n+t.dep+3) 78 [.loc 4,t.d,md.d,.loc 5] (dr w rs g)) Q X:=by
 refine Z1 (n:=n+t.dep+2) (fi:=Aao) (ρ:=[some (.loc 4),some t.d,some md.d,some (.loc 5),none,none,none,none,none,none,none,none,none,none,none]) rfl rfl ?_
 have T:∀{v:Int} {h:Hp} {Q:D→Hp→Prop} {X:Nat→Hp→Prop},Q (litQ v t) h→Ev (J0 (n+t.dep+2) 75 [t.d,conD u8D (.int v)] h) Q X:=fun q=>by
  rw [show n+t.dep+2=n+1+t.dep+1 from by omega];exact ApJ hb q
 simp! only [Aao]
 rw [show n+t.dep+2=n+1+t.dep+1 from by omega]
 refine Ad1 ?_
 rw [show n+1+t.dep+1=n+t.dep+2 from by omega,Ao6 hb]
 simp! only [X7]
 refine tk (top:=2) (by decide) (by decide) fun j w1 hj=>?_
 obtain ⟨a,b,hab⟩:=Asf hj
 simp! only [hab]
 refine T ?_
 simp! only [X7]
 refine T ?_
 simp! only [X7]
 refine tk (top:=2) (by decide) (by decide) fun j w2 hj=>?_
 simp! only [↓eq0]
 cases Nat.beq j 0 with
 |false=>exact Eq.mpr (by kernel_rfl) (k1 a b w2)
 |true =>
  simp! only [X7]
  refine Acc (t:=t) (n:=n+t.dep) hl fun r m w3 hr=>?_
  exact Eq.mpr (by kernel_rfl) (k2 a b r m w3 hr)
end
section
set_option maxHeartbeats 400000
variable {h:Hp}{Q:D→Hp→Prop}{X:Nat→Hp→Prop}{n:Nat}{w:Dw}{g:Hp}{rs rs':List D}{t:Ty}{md:Mo'}{m d e:Nat}{p q p' q':D}
def Sh (m:Nat)(q:D):Prop:=D.plain q=true∧∀n,D.shal (n+m) q=true
def Shs (m:Nat)(qs:List D):Prop:=D.plainAll qs=true∧∀n,D.shalAll (n+m) qs=true
theorem sh_s {x:List Nat}:Sh m (.str x):=⟨rfl,fun _=>rfl⟩
theorem sh_i {x:Int}:Sh m (.int x):=⟨rfl,fun _=>rfl⟩
theorem sh_b {x:Bool}:Sh m (.bool x):=⟨rfl,fun _=>rfl⟩
theorem sh_n:Sh m .none:=⟨rfl,fun _=>rfl⟩
theorem sh_0:Shs m []:=⟨rfl,fun _=>rfl⟩
theorem tt {a b:Bool}(ha:a=true)(hb:b=true):(a&&b)=true:=by rw [ha,hb];rfl
theorem sh_c {x:D}{xs:List D}(a:Sh m x)(b:Shs m xs):Shs m (x::xs):=⟨tt a.1 b.1,fun n=>tt (a.2 n) (b.2 n)⟩
theorem sh_t {xs:List D}(a:Shs m xs):Sh (m+1) (.tup xs):=⟨a.1,fun n=>a.2 n⟩
theorem sh_l {xs:List D}(a:Shs m xs):Sh (m+1) (.lst xs):=⟨a.1,fun n=>a.2 n⟩
theorem Sh.le {m':Nat}(a:Sh m q)(h:m≤m'):Sh m' q:=by
 obtain ⟨c,rfl⟩:=Nat.le.dest h
 exact ⟨a.1,fun n=>by rw [Nat.add_comm m c,←Nat.add_assoc];exact a.2 _⟩
theorem Abg (ht:t.dep≤6)(h:14≤m):Sh m t.d:=⟨Y9 t,fun n=>AhV (by omega)⟩
theorem AnQ {xs ys:List D}(a:Shs m xs)(b:Shs m ys):Shs m (xs++ys):=by
 induction xs with
 |nil=>exact b
 |cons x xs ih=>exact sh_c ⟨Aju a.1,fun n=>Aju (a.2 n)⟩ (ih ⟨Ajc a.1,fun n=>Ajc (a.2 n)⟩)
theorem AlV {w:Mo'}:Sh m w.d:=sh_s
theorem AoT {v:Int}:t.dep≤5→Sh (t.dep+15) (litQ v t):=by
 induction t with
 |rf b t ih=>exact fun h=>sh_t (sh_c sh_s (sh_c (Abg (t:=.rf b t) (Nat.le_succ_of_le h) (by omega)) (sh_c (ih (Nat.le_of_succ_le h)) sh_0)))
 |u8=>exact fun h=>sh_t (sh_c sh_s (sh_c (Abg (t:=.u8) (Nat.le_succ_of_le h) (by omega)) (sh_c sh_i sh_0)))
 |bool=>exact fun h=>sh_t (sh_c sh_s (sh_c (Abg (t:=.bool) (Nat.le_succ_of_le h) (by omega)) (sh_c sh_i sh_0)))
 |s=>exact fun h=>sh_t (sh_c sh_s (sh_c (Abg (t:=.s) (Nat.le_succ_of_le h) (by omega)) (sh_c sh_i sh_0)))
 |pair t=>exact fun h=>sh_t (sh_c sh_s (sh_c (Abg (t:=.pair t) (Nat.le_succ_of_le h) (by omega)) (sh_c sh_i sh_0)))
 |en t=>exact fun h=>sh_t (sh_c sh_s (sh_c (Abg (t:=.en t) (Nat.le_succ_of_le h) (by omega)) (sh_c sh_i sh_0)))
structure Rows (rs:List D):Prop where
 sh:Shs 20 rs
 ls:∀r∈rs,∃a b c,r=.lst [a,b,c]
theorem Rows.nil:Rows []:=⟨sh_0,nofun⟩
theorem Rows.app (a:Rows rs)(b:Rows rs'):Rows (rs++rs'):=⟨AnQ a.sh b.sh,fun r hr=>(List.mem_append.mp hr).elim (a.ls r) (b.ls r)⟩
theorem Rows.one {r m:Bool}{n:Nat}(ht:t.dep≤5):Rows [rowD n t r m md]:=by
 obtain ⟨T,hT,hd⟩:=Aie (r:=r) (m:=m) (md:=md) ht
 exact ⟨sh_c (sh_l (m:=19) (sh_c sh_s (sh_c (by rw [←hd];exact Abg hT (by decide)) (sh_c sh_b sh_0)))) sh_0,fun r hr=>by rw [List.mem_singleton.mp hr];exact ⟨_,_,_,rfl⟩⟩
structure Gd (d:Nat)(t:Ty)(md:Mo')(n:Nat)(p q:D)(rs:List D):Prop where
 rd:∀B,RdP B d t md n p q rs
 sh:t.dep≤5→Sh (d+25) q
 rw:t.dep≤5→Rows rs
theorem Acz (ht:t.dep≤5):Sh (d+24) t.d:=Abg (Nat.le_succ_of_le ht) (by omega)
theorem Afw:Gd d t md n wilD (.tup [.str [119,105,108,100],t.d]) []:=⟨fun _=>Apw,fun ht=>sh_t (sh_c sh_s (sh_c (Acz ht) sh_0)),fun _=>Rows.nil⟩
theorem AhR {r m:Bool}(hr:r=true→md=.mv):Gd d t md n (U8 (xn n) r m .none) (Aap t.d (.int n) (U6 r m md).d .none) [rowD n t r m md] :=
 ⟨fun _=>Aoh hr,fun ht=>sh_t (sh_c sh_s (sh_c (Acz ht) (sh_c sh_i (sh_c AlV (sh_c sh_n sh_0))))),fun ht=>Rows.one ht⟩
theorem Aqo {r m:Bool}{ps:List D}(hr:r=true→md=.mv)(hd:d+3≤e)(P:Gd d t md (n+1) (.tup ps) q rs):Gd e t md n (U8 (xn n) r m (.tup ps)) (Aap t.d (.int n) (U6 r m md).d q) (rowD n t r m md::rs) :=
 ⟨fun B=>AqS hr hd (P.rd B),fun ht=>sh_t (sh_c sh_s (sh_c (Acz ht) (sh_c sh_i (sh_c AlV (sh_c ((P.sh ht).le (by omega)) sh_0))))),fun ht=>(Rows.one ht).app (P.rw ht)⟩
theorem Arn {b:Bool}(hd:d+3≤e)(P:Gd d t .mv n p q rs):Gd e (.rf b t) md n (refD b p) (derD (rfD b t.d) q) rs :=
 ⟨fun B=>ArT hd (P.rd B),fun ht=>sh_t (sh_c sh_s (sh_c (Acz (t:=.rf b t) ht) (sh_c ((P.sh (Nat.le_of_succ_le ht)).le (by omega)) sh_0))),fun ht=>P.rw (Nat.le_of_succ_le ht)⟩
theorem AsX {b:Bool}{c:CK}(hd:d+3≤e)(P:Gd d t (md.beh b) n (coD c) q rs):Gd e (.rf b t) md n (coD c) (derD (rfD b t.d) q) rs :=
 ⟨fun B=>AqV hd (P.rd B),fun ht=>sh_t (sh_c sh_s (sh_c (Acz (t:=.rf b t) ht) (sh_c ((P.sh (Nat.le_of_succ_le ht)).le (by omega)) sh_0))),fun ht=>P.rw (Nat.le_of_succ_le ht)⟩
theorem AkS {v:D}(hv:Sh (d+24) v)(ht:t.dep≤5):Sh (d+25) (conD t.d v):=sh_t (sh_c sh_s (sh_c (Acz ht) (sh_c hv sh_0)))
theorem Aoq {b:Bool}:Gd d .bool md n (litD (.bool b)) (conD booD (.bool b)) []:=⟨fun _=>Aqn,AkS (t:=.bool) sh_b,fun _=>Rows.nil⟩
theorem An4 {j:Int}:Gd d .u8 md n (litD (.int j)) (conD u8D (.int j)) []:=⟨fun _=>Aov,AkS (t:=.u8) sh_i,fun _=>Rows.nil⟩
theorem Ar8:Gd d .u8 md n rngD (.tup [.str [114,97,110,103,101],u8D,.int 3,.int 200]) []:=⟨fun _=>Ata,fun ht=>sh_t (sh_c sh_s (sh_c (Acz (t:=.u8) ht) (sh_c sh_i (sh_c sh_i sh_0)))),fun _=>Rows.nil⟩
theorem Afs (a:Sh (d+25) q)(b:Sh (d+25) q')(hd:d+3≤e):Sh (e+24) (.tup [q,q']):=sh_t (m:=e+23) (sh_c (a.le (by omega)) (sh_c (b.le (by omega)) sh_0))
theorem Aha (ht:t.dep≤5)(a:Sh (d+24) (.tup [q,q'])):Sh (d+25) (fldD t.d [q,q']):=sh_t (sh_c sh_s (sh_c (Acz ht) (sh_c a sh_0)))
theorem Ar1 (hd:d+3≤e)(P1:Gd d t md n p q rs)(P2:Gd d .u8 md (n+rs.length) p' q' rs'):Gd e (.pair t) md n (tupD [p,p']) (fldD (prD t.d) [q,q']) (rs++rs') :=
 ⟨fun B=>Asw hd (P1.rd B) (P2.rd B),fun ht=>Aha (t:=.pair t) ht (Afs (P1.sh (Nat.le_of_succ_le ht)) (P2.sh (by decide)) hd),fun ht=>(P1.rw (Nat.le_of_succ_le ht)).app (P2.rw (by decide))⟩
theorem Asp (hd:d+3≤e)(P1:Gd d .bool md n p q rs):Gd e .s md n (fpD (.tup [.tup [.str [97],p]]) true) (fldD sD [q,.tup [.str [119,105,108,100],u8D]]) rs :=
 ⟨fun B=>Aru hd (P1.rd B),fun ht=>Aha (t:=.s) ht (Afs (P1.sh ht) (Afw (d:=d) (t:=.u8) (md:=md) (n:=0) |>.sh ht) hd),fun ht=>P1.rw ht⟩
theorem ArG (hd:d+3≤e)(P1:Gd d .bool md n p q rs)(P2:Gd d .u8 md (n+rs.length) p' q' rs'):Gd e .s md n (fpD (.tup [.tup [.str [97],p],.tup [.str [98],p']]) false) (fldD sD [q,q']) (rs++rs') :=
 ⟨fun B=>Aqy hd (P1.rd B) (P2.rd B),fun ht=>Aha (t:=.s) ht (Afs (P1.sh ht) (P2.sh ht) hd),fun ht=>(P1.rw ht).app (P2.rw ht)⟩
theorem g_vq (hd:d+3≤e)(P1:Gd d t md n p q rs)(P2:Gd d .u8 md (n+rs.length) p' q' rs'):Gd e (.en t) md n (Aem pQ (.tup [p,p'])) (Acv (enD t.d) 1 [q,q']) (rs++rs') :=
 ⟨fun B=>r_vq hd (P1.rd B) (P2.rd B),fun ht=>sh_t (sh_c sh_s (sh_c (Acz (t:=.en t) ht) (sh_c sh_i (sh_c (Afs (P1.sh (Nat.le_of_succ_le ht)) (P2.sh (by decide)) hd) sh_0)))),fun ht=>(P1.rw (Nat.le_of_succ_le ht)).app (P2.rw (by decide))⟩
theorem Ade {v:Int}(ht:t.dep≤5)(h:20≤m):Sh m (litQ v t):=(AoT ht).le (by omega)
theorem ApN:t.dep≤5→Sh (t.dep+15) (uniQ t):=by
 induction t with
 |rf b t ih=>exact fun h=>sh_t (sh_c sh_s (sh_c (Abg (t:=.rf b t) (Nat.le_succ_of_le h) (by omega)) (sh_c (ih (Nat.le_of_succ_le h)) sh_0)))
 |u8=>exact fun h=>sh_t (sh_c sh_s (sh_c (Abg (t:=.u8) (Nat.le_succ_of_le h) (by omega)) (sh_c sh_i (sh_c (sh_t (m:=Ty.dep (.u8)+13) sh_0) sh_0))))
 |bool=>exact fun h=>sh_t (sh_c sh_s (sh_c (Abg (t:=.bool) (Nat.le_succ_of_le h) (by omega)) (sh_c sh_i (sh_c (sh_t (m:=Ty.dep (.bool)+13) sh_0) sh_0))))
 |s=>exact fun h=>sh_t (sh_c sh_s (sh_c (Abg (t:=.s) (Nat.le_succ_of_le h) (by omega)) (sh_c sh_i (sh_c (sh_t (m:=Ty.dep (.s)+13) sh_0) sh_0))))
 |pair t=>exact fun h=>sh_t (sh_c sh_s (sh_c (Abg (t:=.pair t) (Nat.le_succ_of_le h) (by omega)) (sh_c sh_i (sh_c (sh_t (m:=Ty.dep (.pair t)+13) sh_0) sh_0))))
 |en t=>exact fun h=>sh_t (sh_c sh_s (sh_c (Abg (t:=.en t) (Nat.le_succ_of_le h) (by omega)) (sh_c sh_i (sh_c (sh_t (m:=Ty.dep (.en t)+13) sh_0) sh_0))))
theorem g_cK (hb:isU8 t.bot=true):Gd d t md n (U8 [75] false false .none) (litQ 7 t) []:=⟨fun _=>r_cK hb,fun ht=>Ade ht (by omega),fun _=>Rows.nil⟩
theorem ArW {a b:Int}(hb:isU8 t.bot=true):Gd d t md n (orpD [litD (.int a),litD (.int b)]) (orqD t.d [litQ a t,litQ b t]) [] :=
 ⟨fun _=>ArO hb,fun ht=>sh_t (sh_c sh_s (sh_c (Acz ht) (sh_c (sh_t (m:=d+23) (sh_c (Ade ht (by omega)) (sh_c (Ade ht (by omega)) sh_0))) sh_0))),fun _=>Rows.nil⟩
theorem AqK {a b:Int}{r m:Bool}(hr:r=true→md=.mv)(hb:isU8 t.bot=true):Gd d t md n (orpD [U8 (xn n) r m (litD (.int a)),U8 (xn n) r m (litD (.int b))]) (orqD t.d [Aap t.d (.int n) (U6 r m md).d (litQ a t),Aap t.d (.int n) (U6 r m md).d (litQ b t)]) [rowD n t r m md] :=
 ⟨fun _=>AsV hr hb,fun ht =>
  have f:∀v:Int,Sh (d+23) (Aap t.d (.int n) (U6 r m md).d (litQ v t)):=fun v=>sh_t (m:=d+22) (sh_c sh_s (sh_c (Abg (Nat.le_succ_of_le ht) (by omega)) (sh_c sh_i (sh_c AlV (sh_c (Ade ht (by omega)) sh_0)))))
  sh_t (sh_c sh_s (sh_c (Acz ht) (sh_c (sh_t (m:=d+23) (sh_c (f a) (sh_c (f b) sh_0))) sh_0))),fun ht=>Rows.one ht⟩
theorem g_uP (hb:isEn t.bot=true):Gd d t md n (U8 [80] false false .none) (uniQ t) []:=⟨fun _=>r_uP hb,fun ht=>(ApN ht).le (by omega),fun _=>Rows.nil⟩
theorem Gd.le (P:Gd d t md n p q rs)(h:d≤e):Gd e t md n p q rs:=⟨fun B _ _ _ _ _ _ _ i a b c k=>P.rd B i a b (Nat.le_trans (Nat.add_le_add_right h 40) c) k,fun ht=>(P.sh ht).le (Nat.add_le_add_right h 25),P.rw⟩
def Shp (d:Nat)(t:Ty)(md:Mo')(n:Nat)(p q:D)(rs:List D):Prop :=
 (∃c,p=coD c∧Gd d t md n p q rs)∨(isU8 t.bot=true∧p=U8 [75] false false .none∧q=litQ 7 t∧rs=[])∨(isEn t.bot=true∧p=U8 [80] false false .none∧q=uniQ t∧rs=[])
theorem Shp.gd (s:Shp d t md n p q rs):Gd d t md n p q rs:=by
 rcases s with ⟨c,_,G⟩|⟨hb,rfl,rfl,rfl⟩|⟨hb,rfl,rfl,rfl⟩
 ·exact G
 ·exact g_cK hb
 ·exact g_uP hb
theorem Shp.tup (s:Shp d t md n p q rs):∃l,p=.tup l:=by
 rcases s with ⟨c,rfl,_⟩|⟨_,rfl,_⟩|⟨_,rfl,_⟩
 ·cases c<;>exact ⟨_,rfl⟩
 ·exact ⟨_,rfl⟩
 ·exact ⟨_,rfl⟩
theorem Shp.rf {b:Bool}(s:Shp d t (md.beh b) n p q rs)(h:d+3≤e):Shp e (.rf b t) md n p (derD (rfD b t.d) q) rs:=by
 rcases s with ⟨c,rfl,G⟩|⟨hb,rfl,rfl,rfl⟩|⟨hb,rfl,rfl,rfl⟩
 ·exact .inl ⟨c,rfl,AsX h G⟩
 ·exact .inr (.inl ⟨hb,rfl,rfl,rfl⟩)
 ·exact .inr (.inr ⟨hb,rfl,rfl,rfl⟩)
end
section
set_option maxHeartbeats 400000
variable {h:Hp}{Q:D→Hp→Prop}{X:Nat→Hp→Prop}{n:Nat}{w:Dw}{g:Hp}{rs rs':List D}{t:Ty}{md:Mo'}{m d e:Nat}{p q p' q':D}
def DOK (g:Hp)(dp:Int)(c f:Nat):Prop:=∀{t:Ty} {md:Mo'} {rs:List D} {Q:D→Hp→Prop} {X:Nat→Hp→Prop} {w:Dw} {N:Nat},t.dep≤5→rs.length+c≤39→f+t.dep+10≤N →
 (∀p q rs' w',Gd (3 * t.dep+f) t md rs.length p q rs'→(∃l,p=.tup l)→rs'.length≤c→Q (.tup [p,q]) (dr w' (rs++rs') g))→Ev (J0 N 79 [.loc 4,t.d,md.d,.loc 5,.int dp] (dr w rs g)) Q X
variable {dp:Int}{c f:Nat}
theorem Ajg (ih:DOK g dp c f)(hl:rs.length+2 * c≤39)(hn:f+11≤n)(k:∀p q rs' w',Shp (3 * 0+(f+3)) .s md rs.length p q rs'→rs'.length≤2 * c→Q (.tup [p,q]) (dr w' (rs++rs') g)):Ev (J0 (n+1) 81 [.loc 4,sD,md.d,.loc 5,.int (dp+1)] (dr w rs g)) Q X:=by
 obtain ⟨n,rfl⟩:∃j,n=j+1:=⟨n - 1,by omega⟩
 refine Z1 (n:=n+1) (fi:=U0) (ρ:=[some (.loc 4),some sD,some md.d,some (.loc 5),some (.int (dp+1)),none,none,none,none,none,none,none]) rfl rfl ?_
 simp! only [U0]
 refine tk (top:=2) (by decide) (by decide) fun j w1 hj=>?_
 simp! only [↓eq0]
 rw [show dp+1 - 1=dp from Int.add_sub_cancel dp 1]
 refine ih (t:=.bool) (by decide) (by omega) (by show f+0+10≤_;omega) fun p1 q1 rs1 w2 G1 tp1 hl1=>?_
 cases Nat.beq j 0 with
 |true=>exact Eq.mpr (by kernel_rfl) (k _ _ rs1 w2 (.inl ⟨.fld (.tup [.tup [.str [97],p1]]) true,rfl,Asp (by omega) (G1.le (Nat.le_of_eq (Nat.zero_add f)))⟩) (by omega))
 |false =>
  simp! only [X7]
  rw [show dp+1 - 1=dp from Int.add_sub_cancel dp 1]
  refine ih (t:=.u8) (by decide) (by rw [List.length_append];omega) (by show f+0+10≤_;omega) fun p2 q2 rs2 w3 G2 tp2 hl2=>?_
  rw [List.append_assoc]
  exact Eq.mpr (by kernel_rfl) (k _ _ (rs1++rs2) w3 (.inl ⟨.fld (.tup [.tup [.str [97],p1],.tup [.str [98],p2]]) false,rfl,ArG (by omega) (G1.le (Nat.le_of_eq (Nat.zero_add f))) (by rw [←List.length_append];exact G2.le (Nat.le_of_eq (Nat.zero_add f)))⟩) (by rw [List.length_append];omega))
theorem AjT (ih:DOK g dp c f)(ht:t.dep≤4)(hl:rs.length+2 * c≤39)(hn:f+t.dep+11≤n)(k:∀p q rs' w',Shp (3 * (t.dep+1)+(f+3)) (.en t) md rs.length p q rs'→rs'.length≤2 * c→Q (.tup [p,q]) (dr w' (rs++rs') g)):Ev (J0 (n+1) 81 [.loc 4,enD t.d,md.d,.loc 5,.int (dp+1)] (dr w rs g)) Q X:=by
 obtain ⟨n,rfl⟩:∃j,n=j+1:=⟨n - 1,by omega⟩
 refine Z1 (n:=n+1) (fi:=U0) (ρ:=[some (.loc 4),some (enD t.d),some md.d,some (.loc 5),some (.int (dp+1)),none,none,none,none,none,none,none]) rfl rfl ?_
 simp! only [U0]
 refine tk (top:=3) (by decide) (by decide) fun j w1 hj=>?_
 simp! only [↓eq0]
 cases Nat.beq j 0 with
 |true =>
  have z:=k _ _ [] w1 (.inr (.inr ⟨rfl,rfl,rfl,rfl⟩)) (Nat.zero_le _)
  rw [List.append_nil] at z
  exact Eq.mpr (by kernel_rfl) z
 |false =>
  simp! only [X7]
  rw [show dp+1 - 1=dp from Int.add_sub_cancel dp 1]
  refine ih (t:=t) (Nat.le_succ_of_le ht) (by omega) (by omega) fun p1 q1 rs1 w2 G1 tp1 hl1=>?_
  simp! only [X7]
  rw [show dp+1 - 1=dp from Int.add_sub_cancel dp 1]
  refine ih (t:=.u8) (by decide) (by rw [List.length_append];omega) (by show f+0+10≤_;omega) fun p2 q2 rs2 w3 G2 tp2 hl2=>?_
  rw [List.append_assoc]
  exact Eq.mpr (by kernel_rfl) (k _ _ (rs1++rs2) w3 (.inl ⟨.var pQ (.tup [p1,p2]),rfl,g_vq (d:=3 * t.dep+f) (by omega) G1 (by rw [←List.length_append];exact G2.le (by show 0+f≤_;omega))⟩) (by rw [List.length_append];omega))
theorem eq_p {a y:D}(ha:∀K,opK h a K=K a)(hp:D.plain a=true)(e:D.eqb a y=false)(hy:D.plain y=true)(hs:D.shal 60 y=true)(ho:∀K,opK h y K=K y):Eo (cmpD .eq a y h) Q X=Q (.bool false) h:=by
 rw [q_op ha ho (by unfold okEq;rw [hp,hy,hs];rfl),e]
theorem Aqr:Eo (cmpD .eq (prD t.d) booD h) Q X=Q (.bool false) h:=eq_p (fun _=>rfl) (Y9 (.pair t)) rfl rfl rfl fun _=>rfl
theorem ApG:Eo (cmpD .eq (prD t.d) u8D h) Q X=Q (.bool false) h:=eq_p (fun _=>rfl) (Y9 (.pair t)) rfl rfl rfl fun _=>rfl
theorem Aro:Eo (cmpD .eq (enD t.d) booD h) Q X=Q (.bool false) h:=eq_p (fun _=>rfl) (Y9 (.en t)) rfl rfl rfl fun _=>rfl
theorem Aow:Eo (cmpD .eq (enD t.d) u8D h) Q X=Q (.bool false) h:=eq_p (fun _=>rfl) (Y9 (.en t)) rfl rfl rfl fun _=>rfl
theorem AnV {b:Bool}(k:Q (md.beh b).d h):Ev (J0 (n+1) 74 [md.d,.bool b] h) Q X:=by
 cases md<;>cases b<;>exact Eq.mpr (by kernel_rfl) k
theorem AhT (ih:DOK g dp c f)(hc:1≤c):∀{t:Ty} {md:Mo'} {rs:List D} {Q:D→Hp→Prop} {X:Nat→Hp→Prop} {w:Dw} {n:Nat},t.dep≤5→rs.length+2 * c≤39→f+t.dep+12≤n →
  (∀p q rs' w',Shp (3 * t.dep+(f+3)) t md rs.length p q rs'→rs'.length≤2 * c→Q (.tup [p,q]) (dr w' (rs++rs') g))→Ev (J0 (n+1) 80 [.loc 4,t.d,md.d,.loc 5,.int (dp+1)] (dr w rs g)) Q X:=by
 intro t
 induction t with
 |rf b t it =>
  intro md rs Q X w n ht hl hn k
  have hn':f+t.dep+13≤n:=hn
  obtain ⟨n,rfl⟩:∃j,n=j+1:=⟨n - 1,by omega⟩
  refine Z1 (n:=n+1) (fi:=J7) (ρ:=[some (.loc 4),some (rfD b t.d),some md.d,some (.loc 5),some (.int (dp+1)),none,none,none,none,none,none,none,none,none]) rfl rfl ?_
  simp! only [J7]
  refine AnV ?_
  simp! only [X7]
  refine it (Nat.le_of_succ_le ht) hl (by omega) fun p q rs' w' s hl'=>?_
  exact Eq.mpr (by kernel_rfl) (k p _ rs' w' (s.rf (by show _≤3 * (t.dep+1)+(f+3);omega)) hl')
 |bool =>
  intro md rs Q X w n ht hl hn k
  obtain ⟨n,rfl⟩:∃j,n=j+1:=⟨n - 1,by omega⟩
  refine Z1 (n:=n+1) (fi:=J7) (ρ:=[some (.loc 4),some booD,some md.d,some (.loc 5),some (.int (dp+1)),none,none,none,none,none,none,none,none,none]) rfl rfl ?_
  simp! only [J7]
  refine tk (top:=2) (by decide) (by decide) fun j w1 hj=>?_
  have z:=fun b=>k _ _ [] w1 (.inl ⟨.lit (.bool b),rfl,Aoq⟩) (Nat.zero_le _)
  rw [List.append_nil] at z
  cases j with
  |zero=>exact Eq.mpr (by kernel_rfl) (z true)
  |succ j=>exact Eq.mpr (by kernel_rfl) (z false)
 |u8 =>
  intro md rs Q X w n ht hl hn k
  obtain ⟨n,rfl⟩:∃j,n=j+2:=⟨n - 2,by omega⟩
  refine Z1 (n:=n+2) (fi:=J7) (ρ:=[some (.loc 4),some u8D,some md.d,some (.loc 5),some (.int (dp+1)),none,none,none,none,none,none,none,none,none]) rfl rfl ?_
  simp! only [J7]
  refine AkU (w:=w) (r:=.list rs::g) (by decide) (by decide) fun j d w' hd=>?_
  have z:=fun p q s=>k p q [] w' s (Nat.zero_le _)
  rw [List.append_nil] at z
  match j,hd with
  |0,hd=>cases hd;exact Eq.mpr (by kernel_rfl) (z _ _ (.inl ⟨.lit (.int 9),rfl,An4⟩))
  |1,hd=>cases hd;exact Eq.mpr (by kernel_rfl) (z _ _ (.inl ⟨.rng,rfl,Ar8⟩))
  |2,hd=>cases hd;exact Eq.mpr (by kernel_rfl) (z _ _ (.inr (.inl ⟨rfl,rfl,rfl,rfl⟩)))
  |_+3,hd=>cases hd
 |pair t it =>
  intro md rs Q X w n ht hl hn k
  have hn':f+t.dep+13≤n:=hn
  refine Z1 (n:=n) (fi:=J7) (ρ:=[some (.loc 4),some (prD t.d),some md.d,some (.loc 5),some (.int (dp+1)),none,none,none,none,none,none,none,none,none]) rfl rfl ?_
  simp! only [J7,↓Aqr,↓ApG]
  rw [show dp+1 - 1=dp from Int.add_sub_cancel dp 1]
  refine ih (t:=t) (Nat.le_of_succ_le ht) (by omega) (by omega) fun p1 q1 rs1 w2 G1 tp1 hl1=>?_
  simp! only [X7]
  rw [show dp+1 - 1=dp from Int.add_sub_cancel dp 1]
  refine ih (t:=.u8) (by decide) (by rw [List.length_append];omega) (by show f+0+10≤_;omega) fun p2 q2 rs2 w3 G2 tp2 hl2=>?_
  rw [List.append_assoc]
  exact Eq.mpr (by kernel_rfl) (k _ _ (rs1++rs2) w3 (.inl ⟨.tup [p1,p2],rfl,Ar1 (d:=3 * t.dep+f) (by show _≤3 * (t.dep+1)+(f+3);omega) G1 (by rw [←List.length_append];exact G2.le (by show 0+f≤_;omega))⟩) (by rw [List.length_append];omega))
 |s =>
  intro md rs Q X w n ht hl hn k
  have hn':f+0+12≤n:=hn
  obtain ⟨n,rfl⟩:∃j,n=j+1:=⟨n - 1,by omega⟩
  refine Z1 (n:=n+1) (fi:=J7) (ρ:=[some (.loc 4),some sD,some md.d,some (.loc 5),some (.int (dp+1)),none,none,none,none,none,none,none,none,none]) rfl rfl ?_
  exact Eq.mpr (β:=Ev (J0 (n+1) 81 [.loc 4,sD,md.d,.loc 5,.int (dp+1)] (dr w rs g)) Q X) (by kernel_rfl) (Ajg ih hl (by omega) k)
 |en t it =>
  intro md rs Q X w n ht hl hn k
  have hn':f+t.dep+13≤n:=hn
  obtain ⟨n,rfl⟩:∃j,n=j+1:=⟨n - 1,by omega⟩
  refine Z1 (n:=n+1) (fi:=J7) (ρ:=[some (.loc 4),some (enD t.d),some md.d,some (.loc 5),some (.int (dp+1)),none,none,none,none,none,none,none,none,none]) rfl rfl ?_
  simp! only [J7,↓Aro,↓Aow]
  exact AjT ih (Nat.le_of_succ_le_succ ht) hl (by omega) k
end
section
set_option maxHeartbeats 400000
variable {h:Hp}{Q:D→Hp→Prop}{X:Nat→Hp→Prop}{n:Nat}{w:Dw}{g:Hp}{rs rs':List D}{t:Ty}{md:Mo'}{m d e:Nat}{p q p' q':D}
variable {dp:Int}{c f:Nat}
theorem AqG (hd:decide (dp≤0)=true)(h0:(false ^^ (dp==0))=false):DOK g dp 1 f:=by
 intro t md rs Q X w N ht hl hn k
 obtain ⟨n,rfl⟩:∃j,N=j+3:=⟨N - 3,by omega⟩
 refine Z1 (n:=n+2) (fi:=f_law_drawn) (ρ:=[some (.loc 4),some t.d,some md.d,some (.loc 5),some (.int dp),none,none,none,none,none,none]) rfl rfl ?_
 simp! only [f_law_drawn]
 refine tk (top:=7) (by decide) (by decide) fun j w1 hj=>?_
 have z:=k _ _ [] w1 Afw ⟨_,rfl⟩ (Nat.zero_le _)
 rw [List.append_nil] at z
 simp! only [X7]
 cases (false ^^ ((j:Int)==0)) with
 |true =>
  simp! only [X7]
  exact z
 |false =>
  simp! only [X7]
  cases (false ^^ ((j:Int)==1)) <;>
  ·simp! only [hd]
   refine Acc (t:=t) (n:=n) (Nat.le_of_succ_le hl) fun r m w2 hr=>?_
   have z:=k _ _ [rowD rs.length t r m md] w2 (AhR hr) ⟨_,rfl⟩ (Nat.le_refl _)
   simp! only [X7]
   cases (false ^^ ((j:Int)==2)) <;>
   ·simp! only [h0]
    exact z
theorem dok1:DOK g (-1) 1 f:=AqG rfl rfl
theorem Ase (hd:decide (dp≤0)=true)(h0:(false ^^ (dp==0))=true)(ih:DOK g (-1) 1 f):DOK g dp 2 (f+3):=by
 intro t md rs Q X w N ht hl hn k
 obtain ⟨n,rfl⟩:∃j,N=j+3:=⟨N - 3,by omega⟩
 refine Z1 (n:=n+2) (fi:=f_law_drawn) (ρ:=[some (.loc 4),some t.d,some md.d,some (.loc 5),some (.int dp),none,none,none,none,none,none]) rfl rfl ?_
 simp! only [f_law_drawn]
 refine tk (top:=7) (by decide) (by decide) fun j w1 hj=>?_
 have z:=k _ _ [] w1 Afw ⟨_,rfl⟩ (Nat.zero_le _)
 rw [List.append_nil] at z
 simp! only [X7]
 cases (false ^^ ((j:Int)==0)) with
 |true =>
  simp! only [X7]
  exact z
 |false =>
  simp! only [X7]
  cases (false ^^ ((j:Int)==1)) <;>
  ·simp! only [hd]
   refine Acc (t:=t) (n:=n) (by omega) fun r m w2 hr=>?_
   have z:=k _ _ [rowD rs.length t r m md] w2 (AhR hr) ⟨_,rfl⟩ (Nat.le_succ 1)
   simp! only [X7]
   cases (false ^^ ((j:Int)==2)) with
   |false =>
    simp! only [X7]
    exact z
   |true =>
    simp! only [h0]
    refine ih (t:=t) ht (by rw [len1];omega) (by omega) fun p q rs' w3 G tp hl'=>?_
    obtain ⟨l,rfl⟩:=tp
    rw [List.append_assoc]
    rw [len1] at G
    exact Eq.mpr (by kernel_rfl) (k _ _ ([rowD rs.length t r m md]++rs') w3 (Aqo (d:=3 * t.dep+f) hr (by omega) G) ⟨_,rfl⟩ (Nat.succ_le_succ hl'))
theorem dok2:DOK g 0 2 (f+3):=Ase rfl rfl dok1
end
section
set_option maxHeartbeats 400000
variable {h:Hp}{Q:D→Hp→Prop}{X:Nat→Hp→Prop}{n:Nat}{w:Dw}{g:Hp}{rs rs':List D}{t:Ty}{md:Mo'}{m d e:Nat}{p q p' q':D}
variable {c f:Nat}
noncomputable def Sts.tl (s:Sts):Sts:=@Sts.casesOn (fun _=>Sts) s .nil (fun _ r=>r)
noncomputable def drT:Sts:=f_law_drawn.body.tl.tl.tl.tl
theorem tl_c {a:St}{b:Sts}:(Sts.cons a b).tl=b:=rfl
theorem Alo {dp:Int}(ih:DOK g dp c f)(hc:1≤c)(ht:t.dep≤5)(hl:rs.length+2 * c≤39)(hn:f+t.dep+12≤n){j:Nat}{x1 x2 x3 x4 x5:Option D}{Q:Fl→Ve→Hp→Prop}{X:Nat→Ve→Hp→Prop}
  (k:∀p q rs' w' ρ',Gd (3 * t.dep+(f+3)) t md rs.length p q rs'→(∃l,p=.tup l)→rs'.length≤2 * c→Q (.rt (.tup [p,q])) ρ' (dr w' (rs++rs') g)) :
  wSs (J0 (n+1)) drT [some (.loc 4),some t.d,some md.d,some (.loc 5),some (.int (dp+1)),some (.int j),x1,x2,x3,x4,x5] (dr w rs g) Q X:=by
 have S:∀T:Ty,T=t→Ev (J0 (n+1) 80 [.loc 4,T.d,md.d,.loc 5,.int (dp+1)] (dr w rs g)) (fun v h'=>Q (.rt v) [some (.loc 4),some T.d,some md.d,some (.loc 5),some (.int (dp+1)),some (.int j),x1,x2,x3,x4,x5] h') (fun c h'=>X c [some (.loc 4),some T.d,some md.d,some (.loc 5),some (.int (dp+1)),some (.int j),x1,x2,x3,x4,x5] h'):=fun T e=>by
  subst e
  exact AhT ih hc ht hl hn fun p q rs' w' s hl'=>k p q rs' w' _ s.gd s.tup hl'
 cases t with
 |rf b t =>
  have S:=S (.rf b t) rfl
  have hn':f+(t.dep+1)+12≤n:=hn
  refine Eq.mpr (β:=wSs (J0 (n+1)) drT [some (.loc 4),some (rfD b t.d),some md.d,some (.loc 5),some (.int (dp+1)),some (.int j),x1,x2,x3,x4,x5] (dr w rs g) Q X) rfl ?_
  simp! only [drT,f_law_drawn,tl_c]
  cases decide ((j:Int) < 4) with
  |false =>
   simp! only [X7]
   exact S
  |true =>
   simp! only [X7]
   rw [show dp+1 - 1=dp from Int.add_sub_cancel dp 1]
   refine ih (t:=t) (md:=.mv) (Nat.le_of_succ_le ht) (by omega) (by omega) fun p q rs' w' G tp hl'=>?_
   simp! only [X7]
   exact k _ _ rs' w' _ (Arn (d:=3 * t.dep+f) (by show _≤3 * (t.dep+1)+(f+3);omega) G) ⟨_,rfl⟩ (by omega)
 |u8=>exact Eq.mpr (by kernel_rfl) (S .u8 rfl)
 |bool=>exact Eq.mpr (by kernel_rfl) (S .bool rfl)
 |s=>exact Eq.mpr (by kernel_rfl) (S .s rfl)
 |pair t=>exact Eq.mpr (by kernel_rfl) (S (.pair t) rfl)
 |en t=>exact Eq.mpr (by kernel_rfl) (S (.en t) rfl)
theorem Asc:Eo (cmpD .eq t.d u8D h) Q X=Q (.bool (isU8 t)) h:=by
 cases t with
 |pair t=>exact ApG
 |en t=>exact Aow
 |rf b t=>exact eq_p (fun _=>rfl) (Y9 (.rf b t)) rfl rfl rfl fun _=>rfl
 |_=>rfl
theorem dokS {dp:Int}(h1:decide (dp+1≤0)=false)(h2:(false ^^ (dp+1==0))=false)(ih:DOK g dp c f)(hc:1≤c):DOK g (dp+1) (2 * c) (f+4):=by
 intro t md rs Q X w N ht hl hn k
 obtain ⟨n,rfl⟩:∃j,N=j+t.dep+12:=⟨N - t.dep - 12,by omega⟩
 refine Z1 (n:=n+t.dep+11) (fi:=f_law_drawn) (ρ:=[some (.loc 4),some t.d,some md.d,some (.loc 5),some (.int (dp+1)),none,none,none,none,none,none]) rfl rfl ?_
 simp! only [f_law_drawn]
 refine tk (top:=7) (by decide) (by decide) fun j w1 hj=>?_
 have z0':=fun p q G tp w1=>k p q [] w1 G tp (Nat.zero_le _)
 rw [List.append_nil] at z0'
 have z0:=fun p q G tp=>z0' p q G tp w1
 have z1:=fun p q r m w2 G tp=>k p q [rowD rs.length t r m md] w2 G tp (Nat.le_trans hc (Nat.le_mul_of_pos_left c (by decide)))
 simp! only [X7]
 cases (false ^^ ((j:Int)==0)) with
 |true =>
  simp! only [X7]
  exact z0 _ _ Afw ⟨_,rfl⟩
 |false =>
  simp! only [X7]
  cases (false ^^ ((j:Int)==1)) with
  |true =>
   simp! only [X7]
   refine Acc (t:=t) (n:=n+t.dep+9) (by omega) fun r m w2 hr=>?_
   have z:=z1 _ _ r m w2 (AhR hr) ⟨_,rfl⟩
   simp! only [X7]
   cases (false ^^ ((j:Int)==2)) <;>
   ·simp! only [h2]
    exact z
  |false =>
   simp! only [h1]
   cases (false ^^ ((j:Int)==2)) with
   |false =>
    simp! only [X7]
    refine Alo (n:=n+t.dep+10) ih hc ht hl (by omega) fun p q rs' w' ρ' G tp hl'=>?_
    exact k p q rs' w' (G.le (by omega)) tp hl'
   |true =>
    simp! only [X7]
    rw [show n+t.dep+11=n+10+t.dep+1 from by omega]
    refine Ad1 ?_
    rw [show n+10+t.dep+1=n+t.dep+11 from by omega]
    simp! only [↓Asc]
    cases hb:isU8 t.bot with
    |false =>
     simp! only [X7]
     refine Alo (n:=n+t.dep+10) ih hc ht hl (by omega) fun p q rs' w' ρ' G tp hl'=>?_
     exact k p q rs' w' (G.le (by omega)) tp hl'
    |true =>
     simp! only [X7]
     rw [show n+t.dep+11=n+8+t.dep+3 from by omega]
     exact AkK hb (by omega) (fun a b w'=>z0' _ _ (ArW hb) ⟨_,rfl⟩ w') (fun a b r m w' hr=>z1 _ _ r m w' (AqK hr hb) ⟨_,rfl⟩)
theorem dok5:DOK g 3 16 15:=dokS (dp:=2) rfl rfl (dokS (dp:=1) rfl rfl (dokS (dp:=0) rfl rfl (dok2 (f:=0)) (by decide)) (by decide)) (by decide)
end
section
set_option maxHeartbeats 400000
variable {h:Hp}{Q:D→Hp→Prop}{X:Nat→Hp→Prop}{n:Nat}
noncomputable abbrev rowI:List Int:=[5,6,3,0,5,1,2,1,2,0]
noncomputable abbrev bigI (i:Int):Int:=if i < -1 - i then -1 - i else i
noncomputable abbrev oneI (i:Int):Int:=if decide (1000000000000000000≤bigI i) then 1 else 0
theorem Ahy (l:List Int):okEq (.lst (l.map D.int)) (.lst [])=true:=by
 unfold okEq
 rw [show D.plain (.lst (l.map D.int))=true from AiK l]
 rfl
theorem AqR {a c:Int}:Eo (biD .max [.int a,.int c] h) Q X=Q (.int (if a < c then c else a)) h:=rfl
theorem AsK {c:Bool}:Eo (biD .int [.bool c] h) Q X=Q (.int (if c then 1 else 0)) h:=rfl
theorem Ar0:Eo (binD .pow (.int 10) (.int 18) h) Q X=Q (.int 1000000000000000000) h:=rfl
theorem e_ne {i:Int}{is:List Int}{a b:AO}:Eo (cmpD .ne (.lst (.int i::is.map D.int)) (.loc 2) [a,b,.list []]) Q X=Q (.bool true) [a,b,.list []] :=
 Ajq (y:=.lst []) (fun _=>rfl) (fun _=>rfl) (Ahy (i::is))
theorem e_eq {i:Int}{is:List Int}{a b c:AO}:Eo (cmpD .eq (.lst (.int i::is.map D.int)) (.loc 3) [a,b,c,.list []]) Q X=Q (.bool false) [a,b,c,.list []] :=
 q_op (y:=.lst []) (fun _=>rfl) (fun _=>rfl) (Ahy (i::is))
theorem Anr {ns:List Int}(hl:ns.length≤1000)(k:∀w:Dw,Q (.loc 4) (dh w [])):Ev (J0 (n+1) 69 [.lst (ns.map D.int),.loc 1] [.tab,.list (rowI.map D.int)]) Q X:=by
 cases ns with
 |nil=>exact Eq.mpr (by kernel_rfl) (k ⟨rowI,0,820607,true,by decide⟩)
 |cons i is =>
  have hb:Nat.ble ((i::is).map D.int).length most=true:=Aab (by rw [List.length_map];exact Nat.le_trans hl (by decide))
  refine Z1 (n:=n) (fi:=AbT) (ρ:=[some (.lst ((i::is).map D.int)),some (.loc 1),none,none,none]) rfl rfl ?_
  have t3:(!decide ((2147483647:Int)=0))=true:=rfl
  have t4:(!decide ((2147483629:Int)=0))=true:=rfl
  have t6:Nat.blt (48271:Int).natAbs 4294967296=true:=rfl
  have hi0:idx (.int i::is.map D.int) 0=some (.int i):=AdF (k:=0) hb
  simp! only [AbT,↓e_ne,hi0,AqR,Aki,AmD,t3,t4,t6]
  generalize (if i < -1 - i then -1 - i else i)=big
  simp! only [Ar0,AsK]
  have t7:Nat.blt (if decide ((1000000000000000000:Int)≤big)=true then (1:Int) else 0).natAbs 4294967296=true:=by cases decide ((1000000000000000000:Int)≤big)<;>rfl
  simp! only [AmD,t7,↓e_eq]
  exact k ⟨rowI,_,_,false,by decide⟩
end
section
set_option maxHeartbeats 400000
variable {h:Hp}{Q:D→Hp→Prop}{X:Nat→Hp→Prop}{n:Nat}
noncomputable abbrev x6:AO:=.list [.tup [.str [101,110,117,109],.int 1,.str [69],.tup [.tup [],.tup [.tup [.str [84],.tup []]]],.tup [.tup [.str [80],.str [117,110,105,116],.tup []],.tup [.str [81],.str [116,117,112,108,101],.tup []]],.bool false],.tup [.str [115,116,114,117,99,116],.int 1,.str [83],.tup [.tup [],.tup []],.str [110,97,109,101,100],.tup [],.bool false]]
noncomputable def Bx (xs:Hp)(i:Nat):AO:=(xs[i]?).getD .tab
noncomputable abbrev s0:RS:=⟨[],[],[],[],0,0,[]⟩
theorem AnP {x1 x2 x3 x4 x5:AO}(k:Q (.loc 30) (hb (Bx [.tab,x1,x2,x3,x4,x5,x6]) [.list [],.list [],.list [],.dict []])):Ev (J0 (n+60) 72 [] [.tab,x1,x2,x3,x4,x5]) Q X:=Eq.mpr (by kernel_rfl) k
noncomputable abbrev s1:RS:=⟨[],[],[],[],0,1,[.dict [],.dict []]⟩
theorem Al2 {B:Nat→AO}{p t:D}(k:Er (J0 (n+2) 9 [.loc 36,p,t,.str [109,111,118,101]] (hq B s1)) (Sy B fun v s=>Q v (hq B s)) nox):Ev (J0 (n+3) 26 [.loc 30,p,t,.str [109,111,118,101]] (hb B [.list [],.list [],.list [],.dict []])) Q X :=
 V7 B (f1 9) (f1 9) (v1 .none) k (by kernel_rfl)
theorem Aky {B:Nat→AO}{t:Ty}{d:Nat}{p q:D}{rs:List D}(G:Gd d t .mv 0 p q rs)(hl:rs.length≤39)(ht:t.dep≤5)(hn:d+40≤n+2)(k:∀s,s.L=rs→Q q (hq B s)):Ev (J0 (n+3) 26 [.loc 30,p,t.d,.str [109,111,118,101]] (hb B [.list [],.list [],.list [],.dict []])) Q X :=
 Al2 (er (G.rd B (md:=.mv) (s:=s1) (K:=[]) (H:=[]) (v:=0) ⟨⟨rfl,rfl,by decide⟩,fun _ _ _=>rfl,fun _ _ _=>rfl,Nat.le_refl _,Nat.zero_le _,rfl,Nat.le_refl _,by show 0+(0+t.dep)≤80000;omega,by show 0+(0+t.dep)≤80000;omega⟩ (by rw [Nat.zero_add];exact hl) ht hn fun s H _ e=>sy (k s e)))
end
section
set_option maxHeartbeats 400000
variable {h:Hp}{Q:D→Hp→Prop}{X:Nat→Hp→Prop}{n:Nat}
noncomputable def odds:List D:=[
 .tup [tupD [U8 [120] false false .none,U8 [120] false false .none],prD u8D],
 .tup [tupD [U8 [121] true false .none,wilD],rfD true (prD u8D)],
 .tup [tupD [wilD],prD u8D],
 .tup [.tup [.str [114,97,110,103,101],.int 1,.int 9,.int 8],u8D],
 .tup [refD true wilD,rfD false u8D],
 .tup [fpD (.tup [.tup [.str [97],wilD]]) false,sD],
 .tup [orpD [U8 [120] false false .none,wilD],u8D],
 .tup [fpD (.tup [.tup [.str [99],wilD]]) true,sD],
 .tup [fpD (.tup [.tup [.str [97],wilD],.tup [.str [97],wilD]]) true,sD],
 .tup [Aem pQ (.tup [wilD]),enD u8D]]
theorem Amx (k:Q (.lst odds) (.tab::h)):thaw (.tab::h) (J0 (n+60) 82 [] [.tab]) Q:=Eq.mpr (by kernel_rfl) k
structure Ref (n:Nat)(p t:D):Prop where
 pl:D.plainAll [p,t]=true
 r:∀{Q:D→Hp→Prop} {h:Hp},Q (.bool true) (.tab::h)→thaw (.tab::h) (J0 (n+70) 83 [p,t] [.tab]) Q
theorem Apx {j:Nat}{d:D}(e:odds[j]? = some d):∃p t,d=.tup [p,t]∧Ref n p t:=by
 match j,e with
 |0,e=>cases e;exact ⟨_,_,rfl,rfl,fun k=>Eq.mpr (by kernel_rfl) k⟩
 |1,e=>cases e;exact ⟨_,_,rfl,rfl,fun k=>Eq.mpr (by kernel_rfl) k⟩
 |2,e=>cases e;exact ⟨_,_,rfl,rfl,fun k=>Eq.mpr (by kernel_rfl) k⟩
 |3,e=>cases e;exact ⟨_,_,rfl,rfl,fun k=>Eq.mpr (by kernel_rfl) k⟩
 |4,e=>cases e;exact ⟨_,_,rfl,rfl,fun k=>Eq.mpr (by kernel_rfl) k⟩
 |5,e=>cases e;exact ⟨_,_,rfl,rfl,fun k=>Eq.mpr (by kernel_rfl) k⟩
 |6,e=>cases e;exact ⟨_,_,rfl,rfl,fun k=>Eq.mpr (by kernel_rfl) k⟩
 |7,e=>cases e;exact ⟨_,_,rfl,rfl,fun k=>Eq.mpr (by kernel_rfl) k⟩
 |8,e=>cases e;exact ⟨_,_,rfl,rfl,fun k=>Eq.mpr (by kernel_rfl) k⟩
 |9,e=>cases e;exact ⟨_,_,rfl,rfl,fun k=>Eq.mpr (by kernel_rfl) k⟩
 |_+10,e=>cases e
end
section
set_option maxHeartbeats 400000
variable {B:Nat→AO}{s:RS}{h:Hp}{Q:D→Hp→Prop}{X:Nat→Hp→Prop}{n:Nat}
theorem AmE {q:D}(hp:D.plain q=true)(hs:D.shal 60 q=true):Eo (cmpD .ne q q h) Q X=Q (.bool false) h:=by
 have e:∀K,opK h q K=K q:=fun K=>by
  cases q with
  |loc l=>cases hp
  |_=>rfl
 rw [Ajq e e (by unfold okEq;rw [hs,hp];rfl),Ab5 q hp]
 rfl
theorem AhS {cf:CF}{a0 a1 a2 a3 a4 a5 a6 a7 a8 a9:Option D}{X:Nat→Hp→Prop}(hr:∀r∈s.L,∃a b c,r=.lst [a,b,c]):∀(k i:Nat) (Q:List D→Hp→Prop),i+k=s.L.length→Q (s.L.drop i) (hq B s) →
  cmaL (fun ρ h Q X=>wE cf (.bi .list (.cons (.var 9) .nil)) ρ h Q X) (.n 9) [a0,a1,a2,a3,a4,a5,a6,a7,a8,a9] 34 (k+1) i (hq B s) Q X:=by
 intro k
 induction k with
 |zero =>
  intro i Q hi q
  rw [AhH,Amw,Ad5,List.getElem?_eq_none (by omega)]
  rw [List.drop_of_length_le (by omega)] at q
  exact q
 |succ k ih =>
  intro i Q hi q
  have hlt:i < s.L.length:=by omega
  rw [AhH,Amw,Ad5,List.getElem?_eq_getElem hlt]
  obtain ⟨a,b,c,e⟩:=hr s.L[i] (List.getElem_mem hlt)
  rw [List.drop_eq_getElem_cons hlt] at q
  rw [e] at q ⊢
  exact Eq.mpr (β:=cmaL (fun ρ h Q X=>wE cf (.bi .list (.cons (.var 9) .nil)) ρ h Q X) (.n 9) [a0,a1,a2,a3,a4,a5,a6,a7,a8,a9] 34 (k+1) (i+1) (hq B s) (fun xs h=>Q (.lst [a,b,c]::xs) h) X) (by kernel_rfl) (ih (i+1) _ (by omega) q)
noncomputable def lawQ (f:Fl)(_:Ve)(h:Hp):Prop:=f=.rt (.bool true)∧h[0]? = some .tab
noncomputable def gT:Hp:=(hb (fun _=>x6) [.list [],.list [],.list [],.dict []]).drop 6
theorem Aqk {w:Dw}{x:Hp}:dh w []++x=dh w x:=rfl
theorem AkZ {w:Dw}:(dh w []).length=5:=rfl
theorem Api {ns:List Int}(hl:ns.length≤1000):wSs (J0 (n+78)) f_law.body [some (.lst (ns.map D.int)),none,none,none,none,none,none,none,none,none] [.tab] lawQ (fun _ _ _=>False):=by
 simp! only [f_law]
 refine Anr hl fun w=>?_
 simp! only [X7]
 refine Any (n:=n+73) 3 fun t w1 ht=>?_
 simp! only [Aqk,AkZ]
 refine AnP (n:=n+18) ?_
 simp! only [X7]
 have hd:(3 * t.dep+15)+40≤(n+75)+2:=by omega
 refine dok5 (g:=gT) (t:=t) (md:=.mv) (rs:=[]) (w:=w1) (N:=n+78) (Nat.le_trans ht (by decide)) (by decide) (by omega) fun p q rs w2 G tp hl2=>?_
 simp! only [X7]
 refine Aky (n:=n+75) (B:=Bx [.tab,.list (w2.cs.map D.int),.list [],.list [],.list [.int w2.a,.int w2.b,w2.m],.list rs,x6]) G (Nat.le_trans hl2 (by decide)) (Nat.le_trans ht (by decide)) hd fun s hs=>?_
 have Gs:=G.sh (Nat.le_trans ht (by decide))
 have Gr:=G.rw (Nat.le_trans ht (by decide))
 have q60:D.shal 60 q=true:=(Gs.le (m':=60) (by omega)).2 0
 simp! only [↓AmE Gs.1 q60]
 have hb:Nat.ble s.L.length most=true:=Aab (by rw [hs];exact Nat.le_trans hl2 (by decide))
 simp! only [AoK,hb,AkZ]
 refine AhS (fun r hr=>Gr.ls r (hs▸hr)) s.L.length 0 _ (Nat.zero_add _) ?_
 have rp:=Gr.sh.1
 have r60:D.shal 60 (.lst rs)=true:=Gr.sh.2 39
 have e5:∀{Q:D→Hp→Prop} {X:Nat→Hp→Prop},Eo (cmpD .ne (.lst (s.L.drop 0)) (.loc (List.length (dh w1 []))) (hq (Bx [.tab,.list (w2.cs.map D.int),.list [],.list [],.list [.int w2.a,.int w2.b,w2.m],.list rs,x6]) s)) Q X=Q (.bool false) (hq (Bx [.tab,.list (w2.cs.map D.int),.list [],.list [],.list [.int w2.a,.int w2.b,w2.m],.list rs,x6]) s):=by
  intro Q X
  rw [hs,List.drop_zero,Ajq (x:=.lst rs) (y:=.lst rs) (fun _=>rfl) (fun _=>rfl) (by unfold okEq;rw [r60,show D.plain (.lst rs)=true from rp];rfl),Ab5 (.lst rs) rp]
  rfl
 simp! only [↓e5]
 refine Amx (n:=n+18) (h:=.list (w2.cs.map D.int)::.list []::.list []::.list [.int w2.a,.int w2.b,w2.m]::(hq (Bx [.tab,.list (w2.cs.map D.int),.list [],.list [],.list [.int w2.a,.int w2.b,w2.m],.list rs,x6]) s).drop 5) ?_
 simp! only [X7]
 refine AkU (n:=n+76) (w:=w2) (r:=(hq (Bx [.tab,.list (w2.cs.map D.int),.list [],.list [],.list [.int w2.a,.int w2.b,w2.m],.list rs,x6]) s).drop 5) (ds:=odds) (Nat.zero_lt_succ _) (by decide) fun j d w3 hd=>?_
 obtain ⟨a,b,rfl,R⟩:=Apx (n:=n+8) hd
 simp! only [X7]
 refine g_in R.pl (R.r (h:=.list (w3.cs.map D.int)::.list []::.list []::.list [.int w3.a,.int w3.b,w3.m]::(hq (Bx [.tab,.list (w2.cs.map D.int),.list [],.list [],.list [.int w2.a,.int w2.b,w2.m],.list rs,x6]) s).drop 5) ?_)
 exact ⟨rfl,rfl⟩
theorem Aj0 {ns:List Int}(hl:ns.length≤1000):wSs (J0 78) f_law.body (some (.lst (ns.map D.int))::List.replicate 9 none) [.tab] lawQ (fun _ _ _=>False):=Api (n:=0) hl
end
end Mine
section
set_option genInjectivity false
open PySem PySem.Spec PySem.Calls PyProof.Rows PySem.W
section
namespace Mine
structure Wo where
 prog:Program
 w:World
 base:Heap
 K:Frag
 mg:Str→Option Value
 mb:Str→Option Value
noncomputable abbrev Wo.M (Γ:Wo):Model:=model Γ.prog Γ.w
noncomputable abbrev Nu:=List (Nat×Option Nat)
noncomputable def nad (ν:Nu):List Nat:=ν.flatMap fun p=>p.1::p.2.toList
structure Io where
 nums:Nu
 hid:List Nat
noncomputable def adr (ι:Io):List Nat:=nad ι.nums++ι.hid
noncomputable abbrev Io.add (ι:Io)(p:Nat×Option Nat):Io:=⟨ι.nums++[p],ι.hid⟩
noncomputable abbrev Io.hide (ι:Io)(a:Nat):Io:=⟨ι.nums,a::ι.hid⟩
noncomputable def toS (s:List Nat):Str:=⟨s.toArray⟩
theorem Adc {a b:List Nat}(h:toS a=toS b):a=b:=congrArg (fun x:Str=>x.cps.toList) h
noncomputable abbrev tupObj (vs:List Value)(n:Nat):Obj:={ cls:=.type "tuple",data:=.seq vs.toArray n }
noncomputable abbrev X9 (vs:List Value)(n:Nat):Obj:={ cls:=.type "list",data:=.seq vs.toArray n }
noncomputable def tabA:Nat:=151
noncomputable def codA:Nat:=153
noncomputable def defN:Str := "put_in"
noncomputable def J2 (a:Nat):Str:=toS (attrN.getD a [])
inductive ConsR {α:Type} (R:α→Prop) (S:List α→Prop):List α→Prop
 |mk {v:α} {vs:List α}:R v→S vs→ConsR R S (v::vs)
noncomputable def LR {α β:Type}(R:α→β→Prop)(xs:List α)(ys:List β):Prop:=@List.rec β (fun zz=>List α→Prop) (fun xs=>xs=[]) (fun y zz S=>ConsR (fun x=>R x y) S) ys xs
section
variable {α β:Type}{R R':α→β→Prop}{x:α}{xs us:List α}{y:β}{ys zs:List β}
theorem LR.nil:LR R [] []:=rfl
theorem LR.cons (a:R x y)(r:LR R xs ys):LR R (x::xs) (y::ys):=ConsR.mk a r
@[elab_as_elim] theorem LR.nil_i {P:List α→Prop}(r:LR R xs [])(k:P []):P xs:=(show xs=[] from r)▸k
@[elab_as_elim] theorem LR.cons_i {P:List α→Prop}(r:LR R xs (y::ys))(k:∀x xs,R x y→LR R xs ys→P (x::xs)):P xs :=
 ConsR.casesOn (motive:=fun xs zz=>P xs) (show ConsR (fun x=>R x y) (fun xs=>LR R xs ys) xs from r) fun a b=>k _ _ a b
@[elab_as_elim] theorem LR.ind {P:List α→List β→Prop}(r:LR R xs ys)(n:P [] [])(c:∀x xs y ys,R x y→LR R xs ys→P xs ys→P (x::xs) (y::ys)):P xs ys :=
 @List.rec β (fun ys=>∀xs,LR R xs ys→P xs ys) (fun xs (r:LR R xs [])=>LR.nil_i r n) (fun y ys ih xs (r:LR R xs (y::ys))=>LR.cons_i r fun x xs a r=>c x xs y ys a r (ih xs r)) ys xs r
theorem LR.map (f:∀x y,R x y→R' x y)(r:LR R xs ys):LR R' xs ys:=LR.ind r LR.nil fun zz zz zz zz a zz ih=>LR.cons (f _ _ a) ih
theorem LR.length (r:LR R xs ys):xs.length=ys.length:=LR.ind r rfl fun zz zz zz zz zz zz ih=>congrArg Nat.succ ih
theorem LR.append (r:LR R xs ys)(q:LR R us zs):LR R (xs++us) (ys++zs):=LR.ind r q fun zz zz zz zz a zz ih=>LR.cons a ih
theorem LR.split {P:List α→Prop}(r:LR R xs (ys++zs))(k:∀us ws,LR R us ys→LR R ws zs→P (us++ws)):P xs :=
 @List.rec β (fun ys=>∀(P:List α→Prop) xs,LR R xs (ys++zs)→(∀us ws,LR R us ys→LR R ws zs→P (us++ws))→P xs) (fun P xs r k=>k [] xs LR.nil r)
  (fun y ys ih P xs (r:LR R xs (y::(ys++zs))) k=>by
   refine LR.cons_i r ?_ k
   exact fun x xs a r k=>ih (fun l=>P (x::l)) xs r fun us ws p q=>k (x::us) ws (LR.cons a p) q) ys P xs r k
theorem LR.rev (r:LR R xs ys):LR R xs.reverse ys.reverse:=LR.ind r LR.nil fun zz zz zz zz a zz ih=>by
 rw [List.reverse_cons,List.reverse_cons];exact ih.append (LR.cons a LR.nil)
theorem LR.get {k:Nat}(r:LR R xs ys)(e:ys[k]? = some y){G:Prop}(g:∀x,xs[k]? = some x→R x y→G):G:=by
 refine LR.ind (P:=fun xs ys=>∀k,ys[k]? = some y→(∀x,xs[k]? = some x→R x y→G)→G) r (fun k e zz=>by simp at e) (fun x xs z ys a r ih k=>?_) k e g
 cases k with
 |zero=>exact fun e g=>g x rfl (Option.some.inj e▸a)
 |succ k=>exact ih k
theorem LR.set {k:Nat}(r:LR R xs ys)(a:R x y):LR R (xs.set k x) (ys.set k y):=by
 refine LR.ind (P:=fun xs ys=>∀k,LR R (xs.set k x) (ys.set k y)) r (fun k=>LR.nil) (fun w xs z ys b r ih k=>?_) k
 cases k with
 |zero=>exact LR.cons a r
 |succ k=>exact LR.cons b (ih k)
theorem LR.drop (r:LR R xs ys)(k:Nat):LR R (xs.drop k) (ys.drop k):=by
 refine LR.ind (P:=fun xs ys=>∀k,LR R (xs.drop k) (ys.drop k)) r (fun k=>by rw [List.drop_nil,List.drop_nil];exact LR.nil) (fun w xs z ys b r ih k=>?_) k
 cases k with
 |zero=>exact LR.cons b r
 |succ k=>exact ih k
@[elab_as_elim] theorem LR.one_i {P:List α→Prop}(r:LR R xs [y])(k:∀x,R x y→P [x]):P xs:=LR.cons_i r fun x xs a r=>LR.nil_i (P:=fun xs=>P (x::xs)) r (k x a)
@[elab_as_elim] theorem LR.two_i {P:List α→Prop}{z:β}(r:LR R xs [y,z])(k:∀x u,R x y→R u z→P [x,u]):P xs:=LR.cons_i r fun x xs a r=>LR.one_i (P:=fun xs=>P (x::xs)) r fun u b=>k x u a b
theorem LR.mapI (f:∀y∈ys,∀x,R x y→R' x y)(r:LR R xs ys):LR R' xs ys :=
 LR.ind (P:=fun xs ys=>(∀y∈ys,∀x,R x y→R' x y)→LR R' xs ys) r (fun zz=>LR.nil) (fun zz zz zz zz a zz ih f=>LR.cons (f _ List.mem_cons_self _ a) (ih fun z hz=>f z (List.mem_cons_of_mem _ hz))) f
end
noncomputable def IsSq (T:String)(h:Heap)(a:Addr)(xs:Array Value):Prop:=∃o,h.get? a=some o∧o.cls=.type T∧∃n,o.data=.seq xs n
inductive SqR (T:String) (ι:Io) (h:Heap) (R:List Value→Prop):Value→Prop
 |mk {a:Addr} {vs:List Value}:IsSq T h a vs.toArray→a∉adr ι→R vs→SqR T ι h R (.ref a)
inductive IntR (i:Int):Value→Prop
 |mk (t:Tok):IntR i (.int i t)
inductive StrR (x:List Nat):Value→Prop
 |mk (t:Tok):ascN x=true→StrR x (.str (toS x) t)
inductive NumR (ι:Io) (l:Nat):Value→Prop
 |mk {p:Nat×Option Nat}:ι.nums[l]? = some p→NumR ι l (.ref p.1)
inductive OpqR:Value→Prop
 |mk (a:Addr):OpqR (.ref a)
section
variable (ι:Io)(h:Heap)
noncomputable def VR (v:Value)(d:D):Prop:=@D.rec (fun zz=>Value→Prop) (fun zz=>List Value→Prop) (fun v=>v=.none) (fun b v=>v=.bool b) IntR StrR (fun zz R=>SqR "tuple" ι h R) (fun zz R=>SqR "list" ι h R) (NumR ι) OpqR (fun vs=>vs=[]) (fun zz zz R S=>ConsR R S) d v
noncomputable def VQ (ds:List D)(vs:List Value):Prop:=@D.rec_1 (fun zz=>Value→Prop) (fun zz=>List Value→Prop) (fun v=>v=.none) (fun b v=>v=.bool b) IntR StrR (fun zz R=>SqR "tuple" ι h R) (fun zz R=>SqR "list" ι h R) (NumR ι) OpqR (fun vs=>vs=[]) (fun zz zz R S=>ConsR R S) ds vs
noncomputable abbrev VRs (vs:List Value)(ds:List D):Prop:=LR (VR ι h) vs ds
end
section
variable {ι ι':Io}{h h':Heap}{v:Value}{vs:List Value}{ds:List D}
theorem AjQ:∀(ds:List D),VQ ι h ds=fun vs=>VRs ι h vs ds:=@List.rec D _ rfl fun d ds ih=>by
 show ConsR _ (VQ ι h ds)=ConsR _ _
 rw [ih]
 rfl
theorem vInt {i:Int}{t:Tok}:VR ι h (.int i t) (.int i):=IntR.mk t
theorem Ad0:VR ι h .none .none:=rfl
theorem AbD {b:Bool}:VR ι h (.bool b) (.bool b):=rfl
theorem vStr {x:List Nat}{t:Tok}(a:ascN x=true):VR ι h (.str (toS x) t) (.str x):=StrR.mk t a
theorem vOpq {a:Addr}:VR ι h (.ref a) .opq:=OpqR.mk a
theorem vLoc {l:Nat}{p:Nat×Option Nat}(e:ι.nums[l]? = some p):VR ι h (.ref p.1) (.loc l):=NumR.mk e
theorem vTup {a:Addr}(e:IsSq "tuple" h a vs.toArray)(n:a∉adr ι)(r:VRs ι h vs ds):VR ι h (.ref a) (.tup ds):=SqR.mk (R:=VQ ι h ds) e n (by rw [AjQ];exact r)
theorem vLst {a:Addr}(e:IsSq "list" h a vs.toArray)(n:a∉adr ι)(r:VRs ι h vs ds):VR ι h (.ref a) (.lst ds):=SqR.mk (R:=VQ ι h ds) e n (by rw [AjQ];exact r)
variable {P:Value→Prop}
@[elab_as_elim] theorem VR.none_i (r:VR ι h v .none)(k:P .none):P v:=(show v=.none from r)▸k
@[elab_as_elim] theorem VR.bool_i {b:Bool}(r:VR ι h v (.bool b))(k:P (.bool b)):P v:=(show v=.bool b from r)▸k
@[elab_as_elim] theorem VR.int_i {i:Int}(r:VR ι h v (.int i))(k:∀t,P (.int i t)):P v:=IntR.casesOn (motive:=fun v zz=>P v) r k
@[elab_as_elim] theorem VR.str_i {x:List Nat}(r:VR ι h v (.str x))(k:∀t,ascN x=true→P (.str (toS x) t)):P v:=StrR.casesOn (motive:=fun v zz=>P v) r k
@[elab_as_elim] theorem VR.opq_i (r:VR ι h v .opq)(k:∀a,P (.ref a)):P v:=OpqR.casesOn (motive:=fun v zz=>P v) r k
@[elab_as_elim] theorem VR.loc_i {l:Nat}(r:VR ι h v (.loc l))(k:∀p,ι.nums[l]? = some p→P (.ref p.1)):P v:=NumR.casesOn (motive:=fun v zz=>P v) r fun e=>k _ e
@[elab_as_elim] theorem VR.tup_i (r:VR ι h v (.tup ds))(k:∀a vs,IsSq "tuple" h a vs.toArray→a∉adr ι→VRs ι h vs ds→P (.ref a)):P v :=
 SqR.casesOn (motive:=fun v zz=>P v) (show SqR "tuple" ι h (fun vs=>VRs ι h vs ds) v by rw [←AjQ];exact r) fun a b c=>k _ _ a b c
@[elab_as_elim] theorem VR.lst_i (r:VR ι h v (.lst ds))(k:∀a vs,IsSq "list" h a vs.toArray→a∉adr ι→VRs ι h vs ds→P (.ref a)):P v :=
 SqR.casesOn (motive:=fun v zz=>P v) (show SqR "list" ι h (fun vs=>VRs ι h vs ds) v by rw [←AjQ];exact r) fun a b c=>k _ _ a b c
theorem VR.ind {C:D→Prop}(h0:C .none)(h1:∀b,C (.bool b))(h2:∀i,C (.int i))(h3:∀x,C (.str x))(h4:∀ds,(∀d∈ds,C d)→C (.tup ds))(h5:∀ds,(∀d∈ds,C d)→C (.lst ds))(h6:∀l,C (.loc l))(h7:C .opq)(d:D):C d :=
 @D.rec C (fun ds=>∀d∈ds,C d) h0 h1 h2 h3 h4 h5 h6 h7 (fun zz z=>nomatch z) (fun d ds a b e z=>(List.mem_cons.mp z).elim (fun q=>q▸a) (b e)) d
structure Mo (ι ι':Io)(h h':Heap):Prop where
 pre:ι.nums <+: ι'.nums
 new:∀a∈adr ι',a∈adr ι∨∀o xs n,h.get? a=some o→o.data≠.seq xs n
 seq:∀b o xs n,h.get? b=some o→o.data=.seq xs n→b∉adr ι→h'.get? b=some o
theorem Alu {ι ι':Io}(e:ι.nums <+: ι'.nums){l:Nat}{p:Nat×Option Nat}(q:ι.nums[l]? = some p):ι'.nums[l]? = some p :=
 e.elim fun t z=>z▸(List.getElem?_append_left (List.getElem?_eq_some_iff.mp q).1).trans q
theorem IsSq.move {T:String}{a:Addr}{xs:Array Value}(e:IsSq T h a xs)(E:Mo ι ι' h h')(n:a∉adr ι):IsSq T h' a xs∧a∉adr ι' :=
 e.elim fun o e=>e.2.2.elim fun m q=>⟨⟨o,E.seq _ o _ _ e.1 q n,e.2⟩,fun z=>(E.new _ z).elim n fun z=>z o _ m e.1 q⟩
theorem VR.mono (E:Mo ι ι' h h'){d:D}(r:VR ι h v d):VR ι' h' v d :=
 VR.ind (C:=fun d=>∀v,VR ι h v d→VR ι' h' v d) (fun zz r=>r) (fun zz zz r=>r) (fun zz zz r=>r) (fun zz zz r=>r)
  (fun ds ih v r=>r.tup_i fun a vs e n r=>vTup (e.move E n).1 (e.move E n).2 (r.mapI ih)) (fun ds ih v r=>r.lst_i fun a vs e n r=>vLst (e.move E n).1 (e.move E n).2 (r.mapI ih))
  (fun l v r=>r.loc_i fun p e=>vLoc (Alu E.pre e)) (fun zz r=>r) d v r
theorem VRs.mono (E:Mo ι ι' h h')(r:VRs ι h vs ds):VRs ι' h' vs ds:=r.map fun zz zz=>VR.mono E
theorem VR.handed {d:D}(r:VR ι h v d):handedIn v=true :=
 @D.casesOn (fun d=>VR ι h v d→handedIn v=true) d (fun r=>r.none_i rfl) (fun zz r=>r.bool_i rfl) (fun zz r=>r.int_i fun zz=>rfl) (fun zz r=>r.str_i fun zz zz=>rfl) (fun zz r=>r.tup_i fun zz zz zz zz zz=>rfl) (fun zz r=>r.lst_i fun zz zz zz zz zz=>rfl) (fun zz r=>r.loc_i fun zz zz=>rfl) (fun r=>r.opq_i fun zz=>rfl) r
end
inductive FldR (P:Params) (ι:Io) (h:Heap) (ad:Nat×D):DictEntry→Prop
 |mk {v:Value} (t:Tok):VR ι h v ad.2→ad.1∈dataN→FldR P ι h ad ⟨PyData.keyHash P (J2 ad.1),.str (J2 ad.1) t,v⟩
noncomputable abbrev Flds (P:Params)(ι:Io)(h:Heap)(es:List DictEntry)(fs:List (Nat×D)):Prop:=LR (fun e f=>FldR P ι h f e) es fs
inductive EntR (ι:Io) (h:Heap) (kd:List Nat×D):Str×Value→Prop
 |mk {v:Value}:ascN kd.1=true→VR ι h v kd.2→EntR ι h kd (toS kd.1,v)
noncomputable abbrev Ents (ι:Io)(h:Heap)(es:List (Str×Value))(kvs:List (List Nat×D)):Prop:=LR (fun e f=>EntR ι h f e) es kvs
section
variable (Γ:Wo)(ι:Io)(h:Heap)
inductive LstO (ds:List D):Nat×Option Nat→Prop
 |mk {a:Addr} {vs:List Value} {n:Nat}:h.get? a=some (X9 vs n)→VRs ι h vs ds→LstO ds (a,none)
inductive DicO (kvs:List (List Nat×D)):Nat×Option Nat→Prop
 |mk {a:Addr} {es:List (Str×Value)}:h.DictOf (PySem.strKind Γ.prog Γ.w) a es→Ents ι h es kvs→DicO kvs (a,none)
inductive InsO (c:Nat) (fs:List (Nat×D)):Nat×Option Nat→Prop
 |mk {a dx:Addr} {ci:ClsI} {es:List DictEntry} {n:Nat}:clsT[c]? = some ci→ci.isExc=false→h.get? a=some (instObj ci.addr dx)→h.get? dx=some (dictOf es n)→Flds Γ.w.params ι h es fs→InsO c fs (a,some dx)
inductive TabO:Nat×Option Nat→Prop
 |mk {ps:Array Value}:h.get? tabA=some (tabObj ps)→TriplesOk ps.toList→TabO (tabA,none)
noncomputable def ObjR (p:Nat×Option Nat)(o:AO):Prop:=@AO.casesOn (fun zz=>Prop) o (fun ds=>LstO ι h ds p) (fun kvs=>DicO Γ ι h kvs p) (fun c fs=>InsO Γ ι h c fs p) (TabO h p)
end
structure HR (Γ:Wo)(ι:Io)(σ:Hp)(h:Heap):Prop where
 stay:Γ.base.StaysIn h
 len:ι.nums.length=σ.length
 obj:∀(l:Nat) (o:AO),σ[l]? = some o→∃p,ι.nums[l]? = some p∧ObjR Γ ι h p o
 nd:(nad ι.nums).Nodup
 off:∀a∈adr ι,Γ.base.get? a=none
 hids:∀a∈ι.hid,a∉nad ι.nums∧∃o,h.get? a=some o
 sys:∃o,Γ.base.get? mainGlobals=some o
 low:∀a∈nad ι.nums,sysModules < a
end Mine
end
section
namespace Mine
theorem nope {α:Type}{a:α}{G:Prop}(h:none=some a):G:=Option.noConfusion rfl (heq_of_eq h)
theorem two {α:Type}{o:Option α}{a:α}{G:Prop}(h:o=some a)(q:o=none):G:=nope (q.symm.trans h)
noncomputable abbrev X0 (h h':Heap):Prop:=∀b o,h.get? b=some o→h'.get? b=some o
noncomputable abbrev Abw (h h':Heap):Prop:=∀b o,h.get? b=some o→∃o',h'.get? b=some o'
noncomputable abbrev But (W:List Nat)(h h':Heap):Prop:=∀b o,b∉W→h.get? b=some o→h'.get? b=some o
noncomputable abbrev J6 (h:Heap)(b:Nat):Prop:=∃o,h.get? b=some o
noncomputable abbrev W7 (h:Heap)(b:Nat):Prop:=∀o xs n,h.get? b=some o→o.data≠.seq xs n
theorem dead {h h':Heap}(l:Abw h h'){a:Nat}(z:h'.get? a=none):h.get? a=none:=by
 cases e:h.get? a with
 |none=>rfl
 |some o=>exact (l a o e).elim fun zz q=>two q z
theorem AdB {h h':Heap}(k:X0 h h'):Abw h h':=fun b o e=>⟨o,k b o e⟩
theorem Akn {h h':Heap}{e:Nat}(he:J6 h' e)(k:∀b o,b≠e→h.get? b=some o→h'.get? b=some o):Abw h h':=fun b o q =>
 (Classical.em (b=e)).elim (fun z=>z▸he) fun z=>⟨o,k b o z q⟩
theorem Aay {h h':Heap}{e:Nat}(hs:Heap.SameBut e h h'):But [e] h h':=fun b o z q=>(hs.2 b fun y=>z (y▸List.mem_singleton_self b)).trans q
theorem AaT {h:Heap}{b:Nat}(e:h.get? b=none):W7 h b:=fun o xs n q=>two q e
theorem J1 {h:Heap}{ob:Obj}:X0 h (h.push ob):=fun zz zz e=>Heap.get?_push_of_some _ e
theorem X1 {h:Heap}:h.get? h.objs.size=none:=Heap.get?_none_of_le (Nat.le_refl _)
theorem AlM {h h':Heap}(k:X0 h h'):h.get? h'.objs.size=none:=dead (AdB k) X1
structure Ext (FL own:List Nat)(ι ι':Io)(h h':Heap):Prop where
 pre:ι.nums <+: ι'.nums
 same:ι'.hid=ι.hid
 live:Abw h h'
 new:∀a∈nad ι'.nums,a∈nad ι.nums∨h.get? a=none
 keep:∀b o,h.get? b=some o→b∉nad ι.nums→b∉FL→b∉own→h'.get? b=some o
 slot:∀b o,h.get? b=some o→b∈FL→b∉own→∃sl,h'.get? b=some { o with slots:=sl }
section
variable {FL own own':List Nat}{ι ι' ι₁ ι₂ ι₃:Io}{h h' h₁ h₂ h₃:Heap}
theorem Ext.refl:Ext FL own ι ι h h:=⟨List.prefix_refl _,rfl,fun zz o e=>⟨o,e⟩,fun zz h=>.inl h,fun zz zz e zz zz zz=>e,fun zz o e zz zz=>⟨o.slots,e⟩⟩
theorem Ext.drop (x:Ext FL own ι₁ ι₂ h₁ h₂)(y:Ext FL own' ι₂ ι₃ h₂ h₃)(hf:∀b∈own',b∈own∨h₁.get? b=none):Ext FL own ι₁ ι₃ h₁ h₃ :=
 have lt:∀{b o},h₁.get? b=some o→b∉own→b∉own':=fun e h3 q=>(hf _ q).elim h3 (two e)
 ⟨x.pre.trans y.pre,y.same.trans x.same,fun b o e=>(x.live b o e).elim fun o' e'=>y.live b o' e',fun a ha=>(y.new a ha).elim (x.new a) fun z=>.inr (dead x.live z),
 fun b o e h1 h2 h3=>y.keep b o (x.keep b o e h1 h2 h3) (fun q=>(x.new b q).elim h1 (two e)) h2 (lt e h3),
 fun b o e h1 h2=>(x.slot b o e h1 h2).elim fun sl e1=>(y.slot b _ e1 h1 (lt e h2)).elim fun sl' e2=>⟨sl',e2⟩⟩
theorem Ext.trans (x:Ext FL own ι₁ ι₂ h₁ h₂)(y:Ext FL own ι₂ ι₃ h₂ h₃):Ext FL own ι₁ ι₃ h₁ h₃:=x.drop y fun zz=>.inl
theorem Ext.widen (x:Ext FL own ι ι' h h')(hs:∀b∈own,b∈own'):Ext FL own' ι ι' h h' :=
 ⟨x.pre,x.same,x.live,x.new,fun b o e h1 h2 h3=>x.keep b o e h1 h2 fun q=>h3 (hs b q),fun b o e h1 h2=>x.slot b o e h1 fun q=>h2 (hs b q)⟩
theorem Ext.wide (x:Ext FL [] ι ι' h h'):Ext FL own ι ι' h h':=x.widen fun zz q=>nomatch q
theorem J4 {a:Nat}(h:a∈nad ι.nums):a∈adr ι:=List.mem_append_left _ h
theorem J8 {a:Nat}(h:a∈ι.hid):a∈adr ι:=List.mem_append_right _ h
theorem W1 {a:Nat}{G:Prop}(h:a∈adr ι)(l:a∈nad ι.nums→G)(r:a∈ι.hid→G):G:=(List.mem_append.mp h).elim l r
theorem Ext.newA (E:Ext FL own ι ι' h h')(a:Nat)(ha:a∈adr ι'):a∈adr ι∨h.get? a=none:=W1 ha (fun q=>(E.new a q).imp J4 id) fun q=>.inl (J8 (E.same▸q))
theorem Ext.off (E:Ext FL own ι ι' h h'){a:Nat}(e:J6 h a)(n:a∉adr ι):a∉adr ι':=fun q=>(E.newA a q).elim n fun z=>e.elim fun zz e=>two e z
noncomputable abbrev Of (p:Nat×Option Nat)(b:Nat):Prop:=b=p.1∨p.2=some b
theorem of_mem {p:Nat×Option Nat}{b:Nat}:b∈p.1::p.2.toList↔Of p b:=by simp
theorem AaQ {ν:Nu}{l:Nat}{p:Nat×Option Nat}(e:ν[l]? = some p){b:Nat}(hb:Of p b):b∈nad ν:=List.mem_flatMap.mpr ⟨p,List.mem_of_getElem? e,of_mem.mpr hb⟩
theorem Acs {l:Nat}{p:Nat×Option Nat}(e:ι.nums[l]? = some p){b:Nat}(hb:Of p b):b∈adr ι:=J4 (AaQ e hb)
theorem Aid {p:Nat×Option Nat}:nad (ι.add p).nums=nad ι.nums++(p.1::p.2.toList):=by
 show nad (ι.nums++[p])=_
 simp [nad,List.flatMap_append]
theorem AaO {p:Nat×Option Nat}{a:Nat}(ha:a∈nad (ι.add p).nums):a∈nad ι.nums∨Of p a:=(List.mem_append.mp (Aid▸ha)).imp id of_mem.mp
theorem Mo.trans (x:Mo ι₁ ι₂ h₁ h₂)(y:Mo ι₂ ι₃ h₂ h₃):Mo ι₁ ι₃ h₁ h₃ :=
 ⟨x.pre.trans y.pre,fun q hq=>(y.new q hq).elim (x.new q) fun z=>(Classical.em (q∈adr ι₁)).elim .inl fun ya=>.inr fun o xs n e2 d2=>z o xs n (x.seq q o xs n e2 d2 ya) d2,
 fun b o xs n e1 d1 hb=>y.seq b o xs n (x.seq b o xs n e1 d1 hb) d1 fun z=>(x.new b z).elim hb fun z=>z o xs n e1 d1⟩
theorem Mo.but {W:List Nat}(k:But W h h')(hW:∀b∈W,b∈adr ι∨W7 h b):Mo ι ι h h' :=
 ⟨List.prefix_refl _,fun zz z=>.inl z,fun b o xs n e d hb=>k b o (fun z=>(hW b z).elim hb fun q=>q o xs n e d) e⟩
theorem Mo.more (k:X0 h h'):Mo ι ι h h':=Mo.but (W:=[]) (fun b o zz=>k b o) fun zz q=>nomatch q
theorem Mo.one {b:Nat}(hs:Heap.SameBut b h h')(hb:b∈adr ι∨W7 h b):Mo ι ι h h':=Mo.but (Aay hs) fun c hc=>List.mem_singleton.mp hc▸hb
theorem Mo.alloc {p:Nat×Option Nat}(k:X0 h h')(hp:∀b,Of p b→h.get? b=none):Mo ι (ι.add p) h h' :=
 ⟨List.prefix_append ..,fun a ha=>W1 ha (fun q=>(AaO q).imp J4 fun z=>AaT (hp a z)) fun q=>.inl (J8 q),fun b o zz zz e zz zz=>k b o e⟩
theorem Mo.hide {a:Nat}(k:X0 h h')(ha:h.get? a=none):Mo ι (ι.hide a) h h' :=
 ⟨List.prefix_refl _,fun b hb=>W1 hb (fun q=>.inl (J4 q)) fun q=>(List.mem_cons.mp q).elim (fun q=>.inr (AaT (q▸ha))) fun q=>.inl (J8 q),fun b o zz zz e zz zz=>k b o e⟩
theorem Mo.less (hid:List Nat)(hs:∀b∈hid,b∈ι.hid):Mo ι ⟨ι.nums,hid⟩ h h :=
 ⟨List.prefix_refl _,fun b hb=>W1 hb (fun q=>.inl (J4 q)) fun q=>.inl (J8 (hs b q)),fun b o zz zz e zz zz=>e⟩
theorem Ext.mo (E:Ext FL own ι ι' h h')(sF:∀b∈FL,W7 h b)(sO:∀b∈own,b∈adr ι∨W7 h b):Mo ι ι' h h' :=
 ⟨E.pre,fun a ha=>(E.newA a ha).imp id AaT,fun b o xs n e d hb=>E.keep b o e (fun q=>hb (J4 q)) (fun q=>sF b q o _ _ e d) fun q=>(sO b q).elim hb fun z=>z o _ _ e d⟩
theorem Ext.more (k:X0 h h'):Ext FL own ι ι h h':=⟨List.prefix_refl _,rfl,AdB k,fun zz z=>.inl z,fun b o e zz zz zz=>k b o e,fun b o e zz zz=>⟨o.slots,k b o e⟩⟩
theorem Ext.alloc {p:Nat×Option Nat}(k:X0 h h')(hp:∀b,Of p b→h.get? b=none):Ext FL own ι (ι.add p) h h' :=
 ⟨List.prefix_append ..,rfl,AdB k,fun a ha=>(AaO ha).imp id (hp a),fun b o e zz zz zz=>k b o e,fun b o e zz zz=>⟨o.slots,k b o e⟩⟩
theorem Ext.but {W:List Nat}(k:But W h h')(hv:∀b∈W,J6 h' b):Ext FL W ι ι h h' :=
 ⟨List.prefix_refl _,rfl,fun b o e=>(Classical.em (b∈W)).elim (hv b) fun z=>⟨o,k b o z e⟩,fun zz z=>.inl z,fun b o e zz zz q=>k b o q e,fun b o e zz q=>⟨o.slots,k b o q e⟩⟩
theorem Ext.upd {l:Nat}{p:Nat×Option Nat}(e:ι.nums[l]? = some p)(hF:∀b∈FL,b∉adr ι)(hv:∀b,Of p b→J6 h' b)(hs:∀b,¬Of p b→h'.get? b=h.get? b):Ext FL own ι ι h h' :=
 ⟨List.prefix_refl _,rfl,fun b o q=>(Classical.em (Of p b)).elim (hv b) fun z=>⟨o,(hs b z).trans q⟩,fun zz z=>.inl z,fun b zz e1 hb zz zz=>(hs b fun z=>hb (AaQ e z)).trans e1,
 fun b o e1 hb zz=>⟨o.slots,(hs b fun z=>hF b hb (Acs e z)).trans e1⟩⟩
theorem Mo.upd {l:Nat}{p:Nat×Option Nat}(e:ι.nums[l]? = some p)(hs:∀b,¬Of p b→h'.get? b=h.get? b):Mo ι ι h h' :=
 ⟨List.prefix_refl _,fun zz z=>.inl z,fun b zz zz zz e1 zz hb=>(hs b fun z=>hb (Acs e z)).trans e1⟩
theorem Ext.rehid (E:Ext FL own ι ι' h h')(hid:List Nat):Ext FL own ⟨ι.nums,hid⟩ ⟨ι'.nums,hid⟩ h h':=⟨E.pre,rfl,E.live,E.new,E.keep,E.slot⟩
end
section
variable {Γ:Wo}{h h':Heap}{ι ι':Io}{σ:Hp}{p:Nat×Option Nat}{o:AO}
theorem Flds.mono {P:Params}{es:List DictEntry}{fs:List (Nat×D)}(E:Mo ι ι' h h')(r:Flds P ι h es fs):Flds P ι' h' es fs:=r.map fun zz zz a=>FldR.casesOn (motive:=fun e zz=>FldR P ι' h' _ e) a fun t v n=>.mk t (v.mono E) n
theorem Ents.mono {es:List (Str×Value)}{kvs:List (List Nat×D)}(E:Mo ι ι' h h')(r:Ents ι h es kvs):Ents ι' h' es kvs:=r.map fun zz zz a=>EntR.casesOn (motive:=fun e zz=>EntR ι' h' _ e) a fun n v=>.mk n (v.mono E)
theorem ObjR.move (r:ObjR Γ ι h p o)(E:Mo ι ι' h h')(k:∀b,Of p b→∀ob,h.get? b=some ob→h'.get? b=some ob):ObjR Γ ι' h' p o :=
 @AO.casesOn (fun o=>ObjR Γ ι h p o→ObjR Γ ι' h' p o) o
  (fun ds r=>LstO.casesOn (motive:=fun p zz=>(∀b,Of p b→∀ob,h.get? b=some ob→h'.get? b=some ob)→LstO ι' h' ds p) r (fun e v k=>.mk (k _ (.inl rfl) _ e) (v.mono E)) k)
  (fun kvs r=>DicO.casesOn (motive:=fun p zz=>(∀b,Of p b→∀ob,h.get? b=some ob→h'.get? b=some ob)→DicO Γ ι' h' kvs p) r (fun e v k=>.mk (e.elim fun ob e=>e.elim fun es e=>e.elim fun ep e=>⟨ob,es,ep,k _ (.inl rfl) _ e.1,e.2⟩) (Ents.mono E v)) k)
  (fun c fs r=>InsO.casesOn (motive:=fun p zz=>(∀b,Of p b→∀ob,h.get? b=some ob→h'.get? b=some ob)→InsO Γ ι' h' c fs p) r (fun c x e1 e2 v k=>.mk c x (k _ (.inl rfl) _ e1) (k _ (.inr rfl) _ e2) (Flds.mono E v)) k)
  (fun r=>TabO.casesOn (motive:=fun p zz=>(∀b,Of p b→∀ob,h.get? b=some ob→h'.get? b=some ob)→TabO h' p) r (fun e v k=>.mk (k _ (.inl rfl) _ e) v) k) r
noncomputable abbrev Stf (ob:Obj):Prop:=∀vs,ob.data=.fields vs→ob.cls=.none
theorem Ae0 {ob:Obj}{xs:Array Value}{n:Nat}(e:ob.data=.seq xs n):Stf ob:=fun vs q=>by rw [e] at q;cases q
theorem Adm {ob:Obj}{es:Array DictEntry}{n:Nat}(e:ob.data=.dict es n):Stf ob:=fun vs q=>by rw [e] at q;cases q
theorem Ai2 {ob:Obj}(e:ob.data=.plain):Stf ob:=fun vs q=>by rw [e] at q;cases q
theorem AfQ (r:ObjR Γ ι h p o)(b:Nat)(hb:Of p b):∃ob,h.get? b=some ob∧Stf ob :=
 @AO.casesOn (fun o=>ObjR Γ ι h p o→∃ob,h.get? b=some ob∧Stf ob) o
  (fun ds r=>LstO.casesOn (motive:=fun p zz=>Of p b→∃ob,h.get? b=some ob∧Stf ob) r (fun e zz hb=>hb.elim (fun q=>⟨_,(congrArg h.get? q).trans e,Ae0 rfl⟩) nope) hb)
  (fun kvs r=>DicO.casesOn (motive:=fun p zz=>Of p b→∃ob,h.get? b=some ob∧Stf ob) r (fun e zz hb=>hb.elim (fun q=>e.elim fun ob e=>e.elim fun es e=>e.elim fun ep e=>⟨ob,(congrArg h.get? q).trans e.1,Adm e.2.2.1⟩) nope) hb)
  (fun c fs r=>InsO.casesOn (motive:=fun p zz=>Of p b→∃ob,h.get? b=some ob∧Stf ob) r (fun c x e1 e2 zz hb=>hb.elim (fun q=>⟨_,(congrArg h.get? q).trans e1,Ai2 rfl⟩) fun q=>⟨_,(congrArg h.get? (Option.some.inj q).symm).trans e2,Adm rfl⟩) hb)
  (fun r=>TabO.casesOn (motive:=fun p zz=>Of p b→∃ob,h.get? b=some ob∧Stf ob) r (fun e zz hb=>hb.elim (fun q=>⟨_,(congrArg h.get? q).trans e,fun zz zz=>rfl⟩) nope) hb) r
theorem HR.objE (H:HR Γ ι σ h){l:Nat}(e:ι.nums[l]? = some p)(q:σ[l]? = some o):ObjR Γ ι h p o:=(H.obj l o q).elim fun p' z=>Option.some.inj (e.symm.trans z.1)▸z.2
theorem HR.cls (H:HR Γ ι σ h){b:Nat}(hb:b∈nad ι.nums):∃ob,h.get? b=some ob∧Stf ob :=
 (List.mem_flatMap.mp hb).elim fun p hp=>(List.getElem?_of_mem hp.1).elim fun l hl=>by
  have hlt:l < σ.length:=H.len▸(List.getElem?_eq_some_iff.mp hl).1
  exact AfQ (H.objE hl (List.getElem?_eq_getElem hlt)) b (of_mem.mp hp.2)
theorem HR.alive (H:HR Γ ι σ h){b:Nat}(hb:b∈adr ι):J6 h b:=W1 hb (fun q=>(H.cls q).elim fun o e=>⟨o,e.1⟩) fun q=>(H.hids b q).2
theorem HR.fresh (H:HR Γ ι σ h){b:Nat}(e:h.get? b=none):b∉adr ι:=fun q=>(H.alive q).elim fun zz z=>two z e
theorem Adn {b:Nat}(st:Γ.base.StaysIn h)(e:h.get? b=none):Γ.base.get? b=none:=dead (fun b o q=>⟨o,st b o q⟩) e
theorem AoG (H:HR Γ ι σ h){b:Nat}(hb:b∈adr ι):b < h.objs.size:=(H.alive hb).elim fun zz e=>Heap.lt_size e
theorem HR.mainLt (H:HR Γ ι σ h):mainGlobals < h.objs.size:=H.sys.elim fun zz e=>Heap.lt_size (H.stay _ _ e)
theorem Ace {ν:Nu}(hn:(nad ν).Nodup){l l':Nat}{p p':Nat×Option Nat}(e:ν[l]? = some p)(e':ν[l']? = some p'){b:Nat}(hb:Of p b)(hb':Of p' b):l=l':=by
 induction ν generalizing l l' with
 |nil=>simp at e
 |cons q r ih =>
  have h:=List.nodup_append.mp (show ((q.1::q.2.toList)++nad r).Nodup from hn)
  cases l with
  |zero=>cases l' with
   |zero=>rfl
   |succ l'=>exact absurd rfl (h.2.2 b (of_mem.mpr (Option.some.inj e▸hb)) b (AaQ (ν:=r) (l:=l') e' hb'))
  |succ l=>cases l' with
   |zero=>exact absurd rfl (h.2.2 b (of_mem.mpr (Option.some.inj e'▸hb')) b (AaQ (ν:=r) (l:=l) e hb))
   |succ l'=>exact congrArg _ (ih h.2.1 e e')
theorem HR.upd {l:Nat}{o':AO}(H:HR Γ ι σ h)(e:ι.nums[l]? = some p)(eo:σ[l]? = some o)(hs:∀b,¬Of p b→h'.get? b=h.get? b)(r:ObjR Γ ι h' p o'):HR Γ ι (σ.set l o') h' where
 stay:=fun b ob q=>(hs b fun z=>two q (H.off b (Acs e z))).trans (H.stay b ob q)
 len:=by rw [List.length_set];exact H.len
 obj:=fun l' o'' q=>by
  by_cases hl:l=l'
  ·subst hl
   rw [List.getElem?_set_self (List.getElem?_eq_some_iff.mp eo).1] at q
   exact ⟨p,e,Option.some.inj q▸r⟩
  ·rw [List.getElem?_set_ne hl] at q
   exact (H.obj l' o'' q).elim fun p' z=>⟨p',z.1,z.2.move (Mo.upd e hs) fun b hb ob e1=>(hs b fun y=>hl (Ace H.nd e z.1 y hb)).trans e1⟩
 nd:=H.nd
 off:=H.off
 hids:=fun a ha=>⟨(H.hids a ha).1,(H.hids a ha).2.elim fun o z=>⟨o,(hs a fun y=>(H.hids a ha).1 (AaQ e y)).trans z⟩⟩
 sys:=H.sys
 low:=H.low
theorem HR.butLess {W hid:List Nat}(H:HR Γ ι σ h)(k:But W h h')(hW:∀b∈W,b∈adr ι∨W7 h b)(hn:∀b∈W,b∉nad ι.nums∧Γ.base.get? b=none)(hs:∀b∈hid,b∈ι.hid∧(b∈W→J6 h' b)):HR Γ ⟨ι.nums,hid⟩ σ h' where
 stay:=fun b o e=>k b o (fun z=>two e (hn b z).2) (H.stay b o e)
 len:=H.len
 obj:=fun l o e=>(H.obj l o e).elim fun p z=>⟨p,z.1,z.2.move ((Mo.but k hW).trans (Mo.less hid fun b hb=>(hs b hb).1)) fun b hb ob=>k b ob fun y=>(hn b y).1 (AaQ z.1 hb)⟩
 nd:=H.nd
 off:=fun b hb=>W1 hb (fun q=>H.off b (J4 q)) fun q=>H.off b (J8 (hs b q).1)
 hids:=fun b hb=>⟨(H.hids b (hs b hb).1).1,(Classical.em (b∈W)).elim (hs b hb).2 fun y=>(H.hids b (hs b hb).1).2.elim fun o e=>⟨o,k b o y e⟩⟩
 sys:=H.sys
 low:=H.low
theorem HR.but {W:List Nat}(H:HR Γ ι σ h)(k:But W h h')(hW:∀b∈W,b∈adr ι∨W7 h b)(hn:∀b∈W,b∉nad ι.nums∧Γ.base.get? b=none)(hv:∀b∈W,b∈ι.hid→J6 h' b):HR Γ ι σ h' :=
 H.butLess (hid:=ι.hid) k hW hn fun b q=>⟨q,fun z=>hv b z q⟩
theorem HR.more (H:HR Γ ι σ h)(k:X0 h h'):HR Γ ι σ h':=H.but (W:=[]) (fun b o zz=>k b o) (fun zz q=>nomatch q) (fun zz q=>nomatch q) fun zz q=>nomatch q
theorem HR.less (H:HR Γ ι σ h)(hid:List Nat)(hs:∀b∈hid,b∈ι.hid):HR Γ ⟨ι.nums,hid⟩ σ h:=H.butLess (W:=[]) (fun b o zz e=>e) (fun zz q=>nomatch q) (fun zz q=>nomatch q) fun b q=>⟨hs b q,fun z=>nomatch z⟩
theorem HR.hide {a:Nat}(H:HR Γ ι σ h)(k:X0 h h')(ha:h.get? a=none)(hv:J6 h' a):HR Γ (ι.hide a) σ h' :=
 have K:=H.more k
 have nm:∀b∈nad ι.nums,h.get? b≠none:=fun b q z=>(H.cls q).elim fun o e=>two e.1 z
 ⟨K.stay,K.len,fun l o e=>(H.obj l o e).elim fun p z=>⟨p,z.1,z.2.move (Mo.hide k ha) fun b zz ob=>k b ob⟩,K.nd,
 fun b hb=>W1 hb (fun q=>K.off b (J4 q)) fun q=>(List.mem_cons.mp q).elim (fun q=>Adn H.stay (q▸ha)) fun q=>K.off b (J8 q),
 fun b hb=>(List.mem_cons.mp hb).elim (fun q=>⟨fun z=>nm b z (q▸ha),q▸hv⟩) (K.hids b),K.sys,K.low⟩
theorem HR.allocG (H:HR Γ ι σ h)(k:∀b o,¬Of p b→h.get? b=some o→h'.get? b=some o)(hp:∀b,Of p b→b∉adr ι∧Γ.base.get? b=none∧mainGlobals < b∧W7 h b)(hd:p.2≠some p.1)
  (r:Mo ι (ι.add p) h h'→ObjR Γ (ι.add p) h' p o):HR Γ (ι.add p) (σ++[o]) h':=by
 have m:Mo ι (ι.add p) h h':=⟨List.prefix_append ..,fun a ha=>W1 ha (fun q=>(AaO q).imp J4 fun z=>(hp a z).2.2.2) fun q=>.inl (J8 q),fun b o xs n e d zz=>k b o (fun z=>(hp b z).2.2.2 o xs n e d) e⟩
 refine ⟨fun b o e=>k b o (fun z=>two e (hp b z).2.1) (H.stay b o e),by simp [H.len],fun l o' e=>?_,?_,fun a ha=>W1 ha (fun q=>(AaO q).elim (fun q=>H.off a (J4 q)) fun z=>(hp a z).2.1) fun q=>H.off a (J8 q),fun a ha=>?_,H.sys,fun a ha=>(AaO ha).elim (H.low a) fun q=>Nat.lt_trans (by decide) (hp a q).2.2.1⟩
 ·by_cases hl:l < σ.length
  ·rw [List.getElem?_append_left hl] at e
   exact (H.obj l o' e).elim fun p' z=>⟨p',(List.getElem?_append_left (H.len▸hl)).trans z.1,z.2.move m fun b hb ob q=>k b ob (fun y=>(hp b y).1 (Acs z.1 hb)) q⟩
  ·have hl':l=σ.length:=Nat.le_antisymm (Nat.le_of_lt_succ (by simpa using (List.getElem?_eq_some_iff.mp e).1)) (Nat.le_of_not_lt hl)
   subst hl'
   rw [List.getElem?_concat_length] at e
   exact ⟨p,by show (ι.nums++[p])[_]? = _;rw [←H.len,List.getElem?_concat_length],Option.some.inj e▸r m⟩
 ·rw [Aid,List.nodup_append]
  refine ⟨H.nd,?_,fun a ha b hb q=>(hp a (of_mem.mp (q▸hb))).1 (J4 ha)⟩
  revert hd
  cases p.2 with
  |none=>simp
  |some d=>simp;exact fun q z=>q z.symm
 ·exact ⟨fun z=>(AaO z).elim (H.hids a ha).1 fun z=>(hp a z).1 (J8 ha),(H.hids a ha).2.elim fun ob e=>⟨ob,k a ob (fun z=>(hp a z).1 (J8 ha)) e⟩⟩
theorem HR.alloc (H:HR Γ ι σ h)(k:X0 h h')(hp:∀b,Of p b→h.get? b=none∧mainGlobals < b)(hd:p.2≠some p.1)(r:Mo ι (ι.add p) h h'→ObjR Γ (ι.add p) h' p o):HR Γ (ι.add p) (σ++[o]) h' :=
 H.allocG (fun b o zz e=>k b o e) (fun b hb=>⟨H.fresh (hp b hb).1,Adn H.stay (hp b hb).1,(hp b hb).2,AaT (hp b hb).1⟩) hd r
theorem AeZ (H:HR Γ ι σ h):(ι.add p).nums[σ.length]? = some p:=by
 show (ι.nums++[p])[_]? = _
 rw [←H.len,List.getElem?_concat_length]
end
end Mine
end
section
namespace Mine
noncomputable abbrev PEnv:=PySem.Env
noncomputable abbrev NEt:=List (List Nat×Nat)
noncomputable abbrev fls (fl:List PEnv):List Nat:=fl.filterMap (·.frame)
noncomputable def AaG (l:NEt)(x:List Nat):Option Nat:=@List.rec _ (fun zz=>Option Nat) none (fun p zz r=>if p.1=x then some p.2 else r) l
structure Room (A:Around)(n:Nat):Prop where
 hh:A.handled=none
 dep:A.depth+8 * n+4 < recursionLimit
 uni:A.units+64 * n+100 < cLine
structure Fx (n:Nat) where
 fl:List PEnv
 A:Around
 env:PEnv
 NE:NEt
 hf:A.frames=some fl
 Rm:Room A n
noncomputable abbrev Fx.F {n:Nat}(Φ:Fx n):List Nat:=fls Φ.fl
structure FramesR (Γ:Wo)(fl:List PEnv)(ι:Io)(h:Heap):Prop where
 ff:h.FunFrames Γ.base fl
 ns:∀b∈fls fl,∃m,h.Ns b m
 off:∀b∈fls fl,b∉adr ι
inductive VarIs (ι:Io) (h:Heap) (env:PEnv) (x:Str) (d:D):Prop
 |loc {m:Str→Option Value} {v:Value}:env.kindOf x=some .local→h.Ns env.locals m→m x=some v→VR ι h v d→VarIs ι h env x d
 |cell {c:Addr} {v:Value}:(env.kindOf x=some .cell∨env.kindOf x=some .free)→env.cells.lookup x=some c→h.IsCell c (some v)→VR ι h v d→VarIs ι h env x d
structure FrR (Γ:Wo)(env:PEnv)(ι:Io)(h:Heap):Prop where
 kind:env.scope.kind=.function
 glob:env.globals=mainGlobals
 blt:env.builtins=builtinsNs
 ns:∃m,h.Ns env.locals m
 cell:∀x c,env.cells.lookup x=some c→∃v,h.IsCell c v
 cinj:∀x y c,env.cells.lookup x=some c→env.cells.lookup y=some c→x=y
 cov:∀x,(env.kindOf x=some .cell∨env.kindOf x=some .free)→∃c,env.cells.lookup x=some c
 offL:env.locals∉adr ι∧Γ.base.get? env.locals=none
 offC:∀x c,env.cells.lookup x=some c→c∉adr ι∧Γ.base.get? c=none
 cd:(env.scope.names.lookup defN=some .cell∨env.scope.names.lookup defN=some .free)→env.code=.ref codA
noncomputable def LocR (NE:NEt)(ρ:Ve)(ι:Io)(h:Heap)(env:PEnv):Prop:=∀(x:Str) (i:Nat) (d:D),AaG NE x.cps.toList=some i→ρ[i]? = some (some d)→VarIs ι h env x d
noncomputable def Aej (env:PEnv)(b:Nat):Prop:=b≠env.locals∧∀x c,env.cells.lookup x=some c→b≠c
noncomputable abbrev AcF (ι:Io)(h:Heap)(own:List Nat):Prop:=∀b∈own,b∈adr ι∨W7 h b
noncomputable def Tp (fl:List PEnv)(env:PEnv):Prop:=∃e0 r L,fl=e0::r∧e0.frame=env.frame∧env.frame=some L
structure SR {n:Nat}(Γ:Wo)(Φ:Fx n)(ι:Io)(σ:Hp)(ρ:Ve)(h:Heap):Prop where
 hr:HR Γ ι σ h
 ff:FramesR Γ Φ.fl ι h
 fr:FrR Γ Φ.env ι h
 lc:LocR Φ.NE ρ ι h Φ.env
 tp:Tp Φ.fl Φ.env
section
variable {Γ:Wo}{h h':Heap}{ι ι':Io}{b c:Nat}{m:Str→Option Value}{v:Option Value}
theorem AaZ (n:h.Ns b m):J6 h b:=n.elim fun o n=>n.elim fun zz n=>n.elim fun zz n=>⟨o,n.1⟩
theorem Aaw (n:h.IsCell b v):J6 h b:=n.elim fun o n=>⟨o,n.1⟩
theorem Aa8 (n:h.Ns b m):W7 h b:=n.elim fun o n=>n.elim fun zz n=>n.elim fun zz n=>fun o' xs k e q=>by
 rw [n.1] at e;cases e;rw [n.2.1] at q;cases q
theorem Aeo (n:h.IsCell b v):W7 h b:=n.elim fun o n=>fun o' xs k e q=>by
 rw [n.1] at e;cases e;rw [n.2] at q;cases q
theorem W9 (n:h.Ns b m)(c':h.IsCell c v):b≠c:=n.elim fun o n=>n.elim fun zz n=>n.elim fun zz n=>c'.elim fun o' e q=>by
 rw [q,e.1] at n;cases n.1;rw [e.2] at n;cases n.2.1
theorem Adh (n:h.Ns b m)(k:∀o,h.get? b=some o→∃sl,h'.get? b=some { o with slots:=sl }):h'.Ns b m :=
 n.elim fun o n=>n.elim fun es n=>n.elim fun ep n=>(k o n.1).elim fun sl e=>⟨_,es,ep,e,n.2⟩
theorem Abj (n:h.Ns b m)(k:∀o,h.get? b=some o→h'.get? b=some o):h'.Ns b m:=n.elim fun o n=>n.elim fun es n=>n.elim fun ep n=>⟨o,es,ep,k o n.1,n.2⟩
theorem AeQ (n:h.IsCell b v)(k:∀o,h.get? b=some o→h'.get? b=some o):h'.IsCell b v:=n.elim fun o n=>⟨o,k o n.1,n.2⟩
theorem AiC {base:Heap}{l:List PEnv}(F:h.FunFrames base l)(k:∀b∈fls l,∃m,h'.Ns b m):h'.FunFrames base l:=by
 induction l with
 |nil=>trivial
 |cons e r ih =>
  obtain ⟨a,⟨L,o,hf,hn,ho,hd⟩,q⟩:=F
  have he:fls (e::r)=L::fls r:=by show List.filterMap _ (e::r)=_;rw [List.filterMap_cons,hf]
  obtain ⟨m,o',es,ep,e',d',_⟩:=k L (he▸List.mem_cons_self)
  exact ⟨a,⟨L,o',hf,hn,e',fun vs z=>by rw [d'] at z;cases z⟩,ih q fun b hb=>k b (he▸List.mem_cons_of_mem _ hb)⟩
variable {fl:List PEnv}{own:List Nat}
theorem FramesR.soft (F:FramesR Γ fl ι h):∀b∈fls fl,W7 h b:=fun b hb=>(F.ns b hb).elim fun zz n=>Aa8 n
theorem FramesR.alive (F:FramesR Γ fl ι h){b:Nat}(hb:b∈fls fl):J6 h b:=(F.ns b hb).elim fun zz n=>AaZ n
theorem FramesR.dead (F:FramesR Γ fl ι h){b:Nat}(e:h.get? b=none):b∉fls fl:=fun q=>(F.alive q).elim fun zz z=>two z e
theorem FramesR.mk' (F:FramesR Γ fl ι h)(ns:∀b∈fls fl,∀m,h.Ns b m→∃m,h'.Ns b m)(o:∀b∈fls fl,b∉adr ι'):FramesR Γ fl ι' h' :=
 have k:∀b∈fls fl,∃m,h'.Ns b m:=fun b hb=>(F.ns b hb).elim fun m n=>ns b hb m n
 ⟨AiC F.ff k,k,o⟩
theorem FramesR.ext (F:FramesR Γ fl ι h)(E:Ext (fls fl) own ι ι' h h')(ho:∀b∈own,b∈fls fl→∃m,h'.Ns b m):FramesR Γ fl ι' h' :=
 F.mk' (fun b hb m n=>(Classical.em (b∈own)).elim (fun q=>ho b q hb) fun q=>⟨m,Adh n fun o e=>E.slot b o e hb q⟩) fun b hb=>E.off (F.alive hb) (F.off b hb)
variable {env:PEnv}{NE:NEt}{ρ:Ve}
theorem Ak7 (n:h.Ns b m)(E:Ext (fls fl) own ι ι' h h')(hb:b∉adr ι)(ho:b∉own):h'.Ns b m :=
 (Classical.em (b∈fls fl)).elim (fun q=>Adh n fun o e=>E.slot b o e q ho) fun q=>Abj n fun o e=>E.keep b o e (fun z=>hb (J4 z)) q ho
theorem AjS (F:FramesR Γ fl ι h)(n:h.IsCell b v)(E:Ext (fls fl) own ι ι' h h')(hb:b∉adr ι)(ho:b∉own):h'.IsCell b v :=
 AeQ n fun o e=>E.keep b o e (fun z=>hb (J4 z)) (fun q=>(F.ns b q).elim fun zz z=>W9 z n rfl) ho
theorem FrR.move (R:FrR Γ env ι h)(kn:∀m,h.Ns env.locals m→∃m,h'.Ns env.locals m)(kc:∀x c,env.cells.lookup x=some c→∀v,h.IsCell c v→∃v,h'.IsCell c v)(ko:∀b,J6 h b→b∉adr ι→b∉adr ι'):FrR Γ env ι' h' where
 kind:=R.kind
 glob:=R.glob
 blt:=R.blt
 ns:=R.ns.elim kn
 cell:=fun x c e=>(R.cell x c e).elim (kc x c e)
 cinj:=R.cinj
 cov:=R.cov
 offL:=⟨R.ns.elim fun zz n=>ko _ (AaZ n) R.offL.1,R.offL.2⟩
 offC:=fun x c e=>⟨(R.cell x c e).elim fun zz n=>ko c (Aaw n) (R.offC x c e).1,(R.offC x c e).2⟩
 cd:=R.cd
theorem VarIs.move {x:Str}{d:D}(V:VarIs ι h env x d)(kn:∀m,h.Ns env.locals m→h'.Ns env.locals m)(kc:∀c,env.cells.lookup x=some c→∀v,h.IsCell c v→h'.IsCell c v)(E:Mo ι ι' h h'):VarIs ι' h' env x d :=
 VarIs.casesOn V (fun k n e v=>.loc k (kn _ n) e (v.mono E)) fun k c n v=>.cell k c (kc _ c _ n) (v.mono E)
end
section
variable {Γ:Wo}{n:Nat}{Φ:Fx n}{h h':Heap}{ι ι':Io}{σ σ':Hp}{ρ:Ve}{own:List Nat}
theorem SR.move (S:SR Γ Φ ι σ ρ h)(H:HR Γ ι' σ' h')(F:FramesR Γ Φ.fl ι' h')(kn:∀m,h.Ns Φ.env.locals m→h'.Ns Φ.env.locals m)(kc:∀x c,Φ.env.cells.lookup x=some c→∀v,h.IsCell c v→h'.IsCell c v)(ko:∀b,J6 h b→b∉adr ι→b∉adr ι')(E:Mo ι ι' h h'):SR Γ Φ ι' σ' ρ h' :=
 ⟨H,F,S.fr.move (fun m n=>⟨m,kn m n⟩) (fun x c e v n=>⟨v,kc x c e v n⟩) ko,fun x i d a b=>(S.lc x i d a b).move kn (fun c e=>kc x c e) E,S.tp⟩
theorem SR.extO (S:SR Γ Φ ι σ ρ h)(E:Ext Φ.F own ι ι' h h')(H:HR Γ ι' σ' h')(ho:∀b∈own,Aej Φ.env b∧b∉Φ.F)(hk:AcF ι h own):SR Γ Φ ι' σ' ρ h' :=
 S.move H (S.ff.ext E fun b q z=>absurd z (ho b q).2) (fun m n=>Ak7 n E S.fr.offL.1 fun q=>(ho _ q).1.1 rfl) (fun x c e v n=>AjS S.ff n E (S.fr.offC x c e).1 fun q=>(ho _ q).1.2 x c e rfl) (fun b al=>E.off al) (E.mo S.ff.soft hk)
theorem SR.ext (S:SR Γ Φ ι σ ρ h)(E:Ext Φ.F [] ι ι' h h')(H:HR Γ ι' σ' h'):SR Γ Φ ι' σ' ρ h':=S.extO E H (fun zz q=>nomatch q) fun zz q=>nomatch q
theorem SR.mo (S:SR Γ Φ ι σ ρ h)(E:Ext Φ.F [] ι ι' h h'):Mo ι ι' h h':=E.mo S.ff.soft fun zz q=>nomatch q
theorem SR.more (S:SR Γ Φ ι σ ρ h)(k:X0 h h'):SR Γ Φ ι σ ρ h':=S.ext (Ext.more k) (S.hr.more k)
theorem SR.grow (S:SR Γ Φ ι σ ρ h)(H:HR Γ ι' σ h')(k:X0 h h')(M:Mo ι ι' h h')(hA:∀b,J6 h b→b∉adr ι→b∉adr ι'):SR Γ Φ ι' σ ρ h' :=
 S.move H (S.ff.mk' (fun b hb m n=>⟨m,Abj n (k b)⟩) fun b hb=>hA b (S.ff.alive hb) (S.ff.off b hb)) (fun m n=>Abj n (k _)) (fun x c e v n=>AeQ n (k c)) hA M
end
section
variable {Γ:Wo}{n:Nat}{Φ:Fx n}{ι:Io}{σ:Hp}{ρ:Ve}{A:Around}{s:Shared}{Ev:Value→Shared→Prop}
theorem AkL {x:Str}{d:D}{Q:Value→Shared→Prop}(V:VarIs ι s.heap Φ.env x d)(hk:Φ.env.scope.kind=.function)(h:∀v,VR ι s.heap v d→Q v s)(hn:(x==("__classdict__" : Str))=false) :
  wpAny Γ.M A (loadName Φ.env x) Q Ev s :=
 VarIs.casesOn V (fun k n e v=>wpAny_loadName_local hk k n e (h _ v)) fun k c n v=>k.elim (fun k=>wpAny_loadName_cell hk k c n (h _ v)) fun k=>wpAny_loadName_free hk k c n (h _ v) hn
theorem SR.same {h':Heap}{b:Nat}{ρ':Ve}(S:SR Γ Φ ι σ ρ s.heap)(hs:Heap.SameBut b s.heap h')(h1:b∉adr ι)(h2:Γ.base.get? b=none)(h3:W7 s.heap b)
  (hv:J6 h' b) (hF:b∈Φ.F→∃m,h'.Ns b m) (hL:∃m,h'.Ns Φ.env.locals m) (hC:∀x c,Φ.env.cells.lookup x=some c→∃v,h'.IsCell c v) (hl:Mo ι ι s.heap h'→LocR Φ.NE ρ' ι h' Φ.env):SR Γ Φ ι σ ρ' h' :=
 have e:∀a∈[b],a=b:=fun b hb=>List.mem_singleton.mp hb
 have E:Ext Φ.F [b] ι ι s.heap h':=Ext.but (Aay hs) fun a ha=>e a ha▸hv
 ⟨S.hr.but (Aay hs) (fun a ha=>.inr (e a ha▸h3)) (fun a ha=>⟨fun z=>h1 (e a ha▸J4 z),e a ha▸h2⟩) (fun a ha zz=>e a ha▸hv),S.ff.ext E (fun a ha hf=>e a ha▸hF (e a ha▸hf)),
 S.fr.move (fun zz zz=>hL) (fun x c e zz zz=>hC x c e) (fun zz zz q=>q),hl (Mo.one hs (.inr h3)),S.tp⟩
theorem AfF {NE:NEt}{x y:Str}{i j:Nat}{d e:D}(hinj:∀y j,AaG NE y=some j→j=i→y=x.cps.toList)(hy:y≠x)(hj:AaG NE y.cps.toList=some j)(q:(ρ.set i (some d))[j]? = some (some e)):ρ[j]? = some (some e) :=
 (List.getElem?_set_ne fun z=>hy (congrArg toS (hinj _ _ hj z.symm))).symm.trans q
theorem AgM {NE:NEt}{x:Str}{i j:Nat}{d e:D}(hi:AaG NE x.cps.toList=some i)(hj:AaG NE x.cps.toList=some j)(q:(ρ.set i (some d))[j]? = some (some e)):d=e:=by
 cases hi.symm.trans hj
 have hlt:=(List.getElem?_eq_some_iff.mp q).1
 rw [List.length_set] at hlt
 exact Option.some.inj (Option.some.inj ((List.getElem?_set_self hlt).symm.trans q))
theorem Ao5 {h:Heap}{b:Nat}{m m':Str→Option Value}(n:h.Ns b m)(n':h.Ns b m')(x:Str):m x=m' x:=n.elim fun o n=>n.elim fun es n=>n.elim fun ep n=>n'.elim fun o' n'=>n'.elim fun es' n'=>n'.elim fun ep' n'=>by
 cases n.1.symm.trans n'.1
 cases n.2.1.symm.trans n'.2.1
 exact (n.2.2.2 x).symm.trans (n'.2.2.2 x)
theorem AgT {x:Str}{i:Nat}{d:D}{v:Value}{Q:Unit→Shared→Prop}(S:SR Γ Φ ι σ ρ s.heap)(hi:AaG Φ.NE x.cps.toList=some i)(hinj:∀y j,AaG Φ.NE y=some j→j=i→y=x.cps.toList)
  (hk:Φ.env.kindOf x=some .local∨(Φ.env.kindOf x=some .cell∧∃c,Φ.env.cells.lookup x=some c)) (hv:VR ι s.heap v d)
  (h:∀h' tk' b,(b=Φ.env.locals∨∃y,Φ.env.cells.lookup y=some b)→(Φ.env.kindOf x=some .local→b=Φ.env.locals)→Ext Φ.F [b] ι ι s.heap h'→SR Γ Φ ι σ (ρ.set i (some d)) h'→Q () { s with heap:=h',toks:=tk' }) :
  wpAny Γ.M A (storeName Φ.env x v) Q Ev s:=by
 have ext:∀(b:Nat) (h':Heap),Heap.SameBut b s.heap h'→J6 h' b→Ext Φ.F [b] ι ι s.heap h':=fun b h' hs hv=>Ext.but (Aay hs) fun a ha=>(List.mem_singleton.mp ha)▸hv
 rcases hk with k|⟨k,c,hc⟩
 ·obtain ⟨m,n⟩:=S.fr.ns
  refine wpAny_storeName_local k n (fun h' hn' hs'=>?_) (by rw [S.fr.kind];rfl)
  refine h h' _ Φ.env.locals (.inl rfl) (fun zz=>rfl) (ext _ _ hs' (AaZ hn')) (S.same hs' S.fr.offL.1 S.fr.offL.2 (Aa8 n) (AaZ hn') (fun zz=>⟨_,hn'⟩) ⟨_,hn'⟩ (fun y c e=>(S.fr.cell y c e).elim fun u z=>⟨u,z.sameBut hs' (W9 n z).symm⟩) fun mo=>?_)
  intro y j e hj q
  by_cases hy:y=x
  ·subst hy
   exact AgM hi hj q▸.loc k hn' (if_pos rfl) (hv.mono mo)
  ·exact VarIs.casesOn (S.lc y j e hj (AfF hinj hy hj q)) (fun k' n' e' v'=>.loc k' hn' ((if_neg hy).trans ((Ao5 n n' y).trans e')) (v'.mono mo)) fun k' c' n' v'=>.cell k' c' (n'.sameBut hs' (W9 n n').symm) (v'.mono mo)
 ·obtain ⟨v₀,n⟩:=S.fr.cell x c hc
  obtain ⟨mL,nL⟩:=S.fr.ns
  refine wpAny_storeName_cell S.fr.kind k hc n fun h' hn' hs'=>?_
  refine h h' _ c (.inr ⟨x,hc⟩) (fun q=>Option.noConfusion rfl (heq_of_eq (show Option.some NameKind.cell=some .local from k.symm.trans q)) fun z=>nomatch z) (ext _ _ hs' (Aaw hn')) (S.same hs' (S.fr.offC x c hc).1 (S.fr.offC x c hc).2 (Aeo n) (Aaw hn') (fun q=>(S.ff.ns c q).elim fun m z=>absurd rfl (W9 z n)) ⟨mL,nL.sameBut hs' (W9 nL n)⟩
   (fun y c' e=>(Classical.em (c'=c)).elim (fun q=>q▸⟨_,hn'⟩) fun q=>(S.fr.cell y c' e).elim fun u z=>⟨u,z.sameBut hs' q⟩) fun mo=>?_)
  intro y j e hj q
  by_cases hy:y=x
  ·subst hy
   exact AgM hi hj q▸.cell (.inl k) hc hn' (hv.mono mo)
  ·exact VarIs.casesOn (S.lc y j e hj (AfF hinj hy hj q)) (fun k' n' e' v'=>.loc k' (n'.sameBut hs' (W9 n' n)) e' (v'.mono mo)) fun k' c' n' v'=>.cell k' c' (n'.sameBut hs' fun z=>hy (S.fr.cinj y x c (z▸c') hc)) (v'.mono mo)
end
end Mine
end
section
namespace Mine
structure Trc (base lo h:Heap)(e T:Nat)(vs ts:Array Value)(oT:Obj)(fv:Value):Prop where
 v:vs[1]? = some (.ref T)
 low:lo.get? T=none
 ne:T≠e
 bas:base.get? T=none
 obj:h.get? T=some oT
 dat:oT.data=.fields ts
 t3:ts[3]? = some fv
 cls:oT.cls≠.none
inductive ExcR (base lo h:Heap) (e C:Nat) (tr:Bool):Prop
 |mk {oe:Obj} {vs:Array Value}:h.get? e=some oe→oe.cls=.ref C→oe.data=.fields vs→lo.get? e=none→base.get? e=none→((tr=false∧vs[1]? = some .none)∨∃T ts oT fv,Trc base lo h e T vs ts oT fv)→ExcR base lo h e C tr
section
variable {base h h' lo lo':Heap}{e C:Nat}{tr:Bool}
theorem ExcR.lower (X:ExcR base lo h e C tr)(hl:Abw lo' lo):ExcR base lo' h e C tr :=
 ExcR.casesOn X fun a b c d f g=>.mk a b c (dead hl d) f (g.imp id fun g=>g.elim fun T g=>g.elim fun ts g=>g.elim fun oT g=>g.elim fun fv g=>⟨T,ts,oT,fv,⟨g.v,dead hl g.low,g.ne,g.bas,g.obj,g.dat,g.t3,g.cls⟩⟩)
theorem ExcR.loose (X:ExcR base lo h e C tr):ExcR base lo h e C false:=ExcR.casesOn X fun a b c d f g=>.mk a b c d f (g.imp (fun g=>⟨rfl,g.2⟩) id)
theorem ExcR.but {b:Nat}(X:ExcR base lo h e C tr)(hs:Heap.SameBut b h h')(hb:∀o,h.get? b=some o→∀vs,o.data≠.fields vs):ExcR base lo h' e C tr :=
 ExcR.casesOn X fun e1 c1 d1 l1 b1 q=>.mk ((hs.2 e fun z=>hb _ (z▸e1) _ d1).trans e1) c1 d1 l1 b1 (q.imp id fun g=>g.elim fun T g=>g.elim fun ts g=>g.elim fun oT g=>g.elim fun fv g=>⟨T,ts,oT,fv,⟨g.v,g.low,g.ne,g.bas,(hs.2 T fun z=>hb oT (z▸g.obj) ts g.dat).trans g.obj,g.dat,g.t3,g.cls⟩⟩)
end
structure Touch (lo:Heap)(FL:List Nat)(h h':Heap):Prop where
 live:Abw h h'
 old:∀b o,h.get? b=some o→J6 lo b→b∉FL→h'.get? b=some o
 nf:∀b o,h.get? b=some o→b∉FL→Stf o→h'.get? b=some o
 slot:∀b o,h.get? b=some o→b∈FL→∃sl,h'.get? b=some { o with slots:=sl }
section
variable {lo lo' a b c:Heap}{FL:List Nat}
theorem Touch.refl:Touch lo FL a a:=⟨fun zz o e=>⟨o,e⟩,fun zz zz e zz zz=>e,fun zz zz e zz zz=>e,fun zz o e zz=>⟨o.slots,e⟩⟩
theorem Touch.trans (x:Touch lo FL a b)(y:Touch lo FL b c):Touch lo FL a c :=
 ⟨fun d o e=>(x.live d o e).elim fun o' e'=>y.live d o' e',fun d o e h1 h2=>y.old d o (x.old d o e h1 h2) h1 h2,fun d o e h1 h2=>y.nf d o (x.nf d o e h1 h2) h1 h2,
 fun d o e h1=>(x.slot d o e h1).elim fun sl e1=>(y.slot d _ e1 h1).elim fun sl' e2=>⟨sl',e2⟩⟩
theorem Acg (x:Heap.SlotsOnly FL a b):Touch lo FL a b :=
 ⟨fun b o e=>(Classical.em (b∈FL)).elim (fun q=>(x.2.2 b o e).elim fun sl e'=>⟨_,e'⟩) fun q=>⟨o,(x.2.1 b q).trans e⟩,fun b zz e zz q=>(x.2.1 b q).trans e,fun b zz e q zz=>(x.2.1 b q).trans e,fun b o e zz=>x.2.2 b o e⟩
theorem Touch.one {T:Nat}{oT:Obj}{ts:Array Value}(hT:a.get? T=some oT)(hd:oT.data=.fields ts)(hc:oT.cls≠.none)(hl:lo.get? T=none)(hF:T∉FL)(hv:J6 b T)(k:∀d o,d≠T→a.get? d=some o→b.get? d=some o):Touch lo FL a b :=
 ⟨Akn hv k,fun d o e1 h1 zz=>k d o (fun q=>h1.elim fun zz z=>two (q▸z) hl) e1,fun d o e1 zz h2=>k d o (fun q=>hc (Option.some.inj ((q▸e1).symm.trans hT)▸h2 ts (Option.some.inj ((q▸e1).symm.trans hT)▸hd))) e1,
 fun d o e1 h1=>⟨o.slots,k d o (fun q=>hF (q▸h1)) e1⟩⟩
end
section
variable {Γ:Wo}{h h' h₀ lo:Heap}{ι ι₀:Io}{σ:Hp}{fl:List PEnv}{own:List Nat}
theorem Touch.mo (x:Touch lo (fls fl) h h')(F:FramesR Γ fl ι h):Mo ι ι h h':=⟨List.prefix_refl _,fun zz z=>.inl z,fun b o xs n e d zz=>x.nf b o e (fun q=>F.soft b q o xs n e d) (Ae0 d)⟩
theorem Touch.ext (E:Ext (fls fl) own ι₀ ι h₀ h)(x:Touch h₀ (fls fl) h h'):Ext (fls fl) own ι₀ ι h₀ h' :=
 ⟨E.pre,E.same,fun b o e=>(E.live b o e).elim fun o' e'=>x.live b o' e',E.new,fun b o e h1 h2 h3=>x.old b o (E.keep b o e h1 h2 h3) ⟨o,e⟩ h2,fun b o e h1 h2=>(E.slot b o e h1 h2).elim fun sl e1=>(x.slot b _ e1 h1).elim fun sl' e2=>⟨sl',e2⟩⟩
theorem HR.touch (H:HR Γ ι σ h)(x:Touch lo (fls fl) h h')(F:FramesR Γ fl ι h)(hlo:Abw Γ.base lo):HR Γ ι σ h' where
 stay:=fun b o e=>x.old b o (H.stay b o e) (hlo b o e) fun q=>two e (F.ff.mem q).1
 len:=H.len
 obj:=fun l o e=>(H.obj l o e).elim fun p z=>⟨p,z.1,z.2.move (x.mo F) fun b hb ob q=>(AfQ z.2 b hb).elim fun ob' y=>x.nf b ob q (fun w=>F.off b w (Acs z.1 hb)) (Option.some.inj (y.1.symm.trans q)▸y.2)⟩
 nd:=H.nd
 off:=H.off
 hids:=fun a ha=>⟨(H.hids a ha).1,(H.hids a ha).2.elim fun o e=>x.live a o e⟩
 sys:=H.sys
 low:=H.low
theorem FramesR.touch (F:FramesR Γ fl ι h)(x:Touch lo (fls fl) h h'):FramesR Γ fl ι h':=F.mk' (fun b hb m n=>⟨m,Adh n fun o e=>x.slot b o e hb⟩) F.off
theorem Touch.ns (x:Touch lo (fls fl) h h'){b:Nat}{m:Str→Option Value}(n:h.Ns b m):h'.Ns b m :=
 (Classical.em (b∈fls fl)).elim (fun q=>Adh n fun o e=>x.slot b o e q) fun q=>n.elim fun o n=>n.elim fun es n=>n.elim fun ep n=>⟨o,es,ep,x.nf b o n.1 q (Adm n.2.1),n.2⟩
theorem AjP {ob:Obj}{v:Option Value}(e:ob.data=.cell v):Stf ob:=fun vs q=>by rw [e] at q;cases q
theorem Touch.cell (F:FramesR Γ fl ι h)(x:Touch lo (fls fl) h h'){b:Nat}{v:Option Value}(n:h.IsCell b v):h'.IsCell b v :=
 n.elim fun o z=>⟨o,x.nf b o z.1 (fun q=>(F.ns b q).elim fun zz w=>W9 w n rfl) (AjP z.2),z.2⟩
variable {n:Nat}{Φ:Fx n}{ρ:Ve}
theorem SR.touch (S:SR Γ Φ ι σ ρ h)(t:Touch lo Φ.F h h')(hb0:Abw Γ.base lo):SR Γ Φ ι σ ρ h':=S.move (S.hr.touch t S.ff hb0) (S.ff.touch t) (fun zz=>t.ns) (fun zz zz zz zz=>t.cell S.ff) (fun zz zz q=>q) (t.mo S.ff)
theorem SR.base0 (S:SR Γ Φ ι σ ρ h):Abw Γ.base h:=fun b o e=>⟨o,S.hr.stay b o e⟩
end
section
variable {M:Model}{base lo:Heap}{fl:List PEnv}{A:Around}{s:Shared}{Ev:Value→Shared→Prop}{env:PEnv}{L e C:Nat}{tr:Bool}
theorem Agk {Q:Value→Shared→Prop}(hfr:A.frames=some fl)(hd:∃e0 r,fl=e0::r∧e0.frame=env.frame)(hl:s.heap.FunFrames base fl)(hf:env.frame=some L)
  (h:∀h',Heap.SlotsOnly (fls fl) s.heap h'→Q (.ref L) { s with heap:=h' }):wpAny M A (PySem.frameOf env) Q Ev s:=by
 obtain ⟨e0,r,rfl,h0⟩:=hd
 unfold PySem.frameOf
 refine wpAny_bind (wpAny_frameEnvs hfr ?_)
 have hdw:((e0::r).dropWhile fun x=>x.frame != env.frame)=e0::r:=by simp [List.dropWhile,h0]
 rw [hdw]
 unfold frameObject
 refine wpAny_bind (wpAny_bind (wpAny_readyFrames_fun hl fun h₁ hs₁=>wpAny_pure ?_))
 rw [h0,hf]
 exact wpAny_pure (h h₁ hs₁)
theorem Frames.noF (hl:s.heap.FunFrames base fl){e:Nat}{oe:Obj}{vs:Array Value}(he:s.heap.get? e=some oe)(hd:oe.data=.fields vs):e∉fls fl:=fun hm=>(hl.mem hm).2.elim fun o z=>z.2 vs (Option.some.inj (he.symm.trans z.1)▸hd)
theorem Acp {Q:Unit→Shared→Prop}{oe:Obj}{vs:Array Value}{head:Value}{hn:Bool}(hfr:A.frames=some fl)(hd:∃e0 r,fl=e0::r∧e0.frame=env.frame)(hl:s.heap.FunFrames base fl)(hf:env.frame=some L)
  (he:s.heap.get? e=some oe) (hc:oe.cls=.ref C) (hdat:oe.data=.fields vs) (hsz:1 < vs.size) (hlo:lo.get? e=none) (hb:base.get? e=none) (hbase:base.StaysIn s.heap) (hz:Abw lo s.heap)
  (h:∀h',Touch lo (fls fl) s.heap h'→ExcR base lo h' e C true→Q () { s with heap:=h' }) :
  wpAny M A (do setField (.ref e) 1 (←EntryCells.newEntry head (←PySem.frameOf env) .none (rawInt L) .none (←entryPlaceOf L hn))) Q Ev s:=by
 have hene:=Frames.noF hl he hdat
 refine wpAny_bind (Agk hfr hd hl hf fun h₁ hs₁=>?_)
 refine wpAny_bind (wpAny_entryPlaceOf fun pl hpl=>?_)
 unfold EntryCells.newEntry newFields
 refine wpAny_bind (wpAny_newObj_type ?_ (hpl.sizeOk5 _ _ _ _ _))
 have he₁:h₁.get? e=some oe:=(hs₁.2.1 e hene).trans he
 dsimp only
 generalize hT:({ cls:=.type "traceback",dict:=none,data:=.fields ([head,.ref L,.none,rawInt L,.none]++(if pl.isEmpty then List.replicate 6 Value.none else pl)).toArray }:Obj)=oT
 have hTd:oT.data=.fields ([head,.ref L,.none,rawInt L,.none]++(if pl.isEmpty then List.replicate 6 Value.none else pl)).toArray:=by rw [←hT]
 refine wpAny_setField (Heap.get?_push_of_some (h:=h₁) oT he₁) hdat hsz ?_
 have hTe:h₁.objs.size≠e:=Nat.ne_of_gt (Heap.lt_size he₁)
 have hd₃:=Obj.data_mapFields hdat (·.setIfInBounds 1 (Value.ref h₁.objs.size))
 have he₃:=Heap.get?_update_self (Obj.mapFields (·.setIfInBounds 1 (Value.ref h₁.objs.size))) (Heap.get?_push_of_some (h:=h₁) oT he₁) (Obj.isFreed_of_fields hd₃)
 have keep:∀b o,b≠e→h₁.get? b=some o→((h₁.push oT).update e (Obj.mapFields (·.setIfInBounds 1 (Value.ref h₁.objs.size)))).get? b=some o:=fun b o hbe hb =>
  (Heap.get?_update_other _ _ (Ne.symm hbe)).trans (Heap.get?_push_of_some _ hb)
 have b1:base.StaysIn h₁:=fun b o hbo=>(hs₁.2.1 b fun hm=>two hbo (hl.mem hm).1).trans (hbase b o hbo)
 have e3:([head,.ref L,.none,rawInt L,.none]++(if pl.isEmpty then List.replicate 6 Value.none else pl)).toArray[3]? = some (rawInt L):=by
  first|(simp;done)|(rcases hpl with rfl|⟨_,_,_,_,_,_,_,rfl⟩<;>simp)
 exact h _ ((Acg hs₁).trans (Touch.one he₁ hdat (by rw [hc];exact fun q=>nomatch q) hlo hene ⟨_,he₃⟩ keep)) (.mk he₃ ((Obj.cls_mapFields _ _).trans hc) hd₃ hlo hb (.inr ⟨h₁.objs.size,_,oT,rawInt L,by simp [hsz],dead hz (by rw [hs₁.1];exact X1),hTe,b1.fresh,
  (Heap.get?_update_other _ _ (Ne.symm hTe)).trans (Heap.get?_push_size h₁ (by rw [←hT];rfl)),hTd,e3,by rw [←hT];exact fun q=>nomatch q⟩))
theorem Aai {Q:Unit→Shared→Prop}(hfr:A.frames=some fl)(hd:∃e0 r,fl=e0::r∧e0.frame=env.frame)(hl:s.heap.FunFrames base fl)(hf:env.frame=some L)(X:ExcR base lo s.heap e C tr)(hbase:base.StaysIn s.heap)(hz:Abw lo s.heap)
  (h:∀h',Touch lo (fls fl) s.heap h'→ExcR base lo h' e C true→Q () { s with heap:=h' }):wpAny M A (noteFrame (.ref e) env) Q Ev s:=by
 obtain @⟨oe,vs,he,hc,hdat,hlo,hb,ht⟩:=X
 unfold noteFrame
 simp only [hf]
 rcases ht with ⟨_,h1⟩|⟨T,ts,oT,fv,t⟩
 ·refine wpAny_bind (wpAny_field he hdat h1 ?_)
  rw [if_neg (by decide)]
  exact Acp hfr hd hl hf he hc hdat (Array.getElem?_eq_some_iff.mp h1).1 hlo hb hbase hz h
 ·refine wpAny_bind (wpAny_field he hdat t.v ?_)
  rw [if_pos (show (Value.ref T != Value.none)=true from by simp)]
  refine wpAny_bind (wpAny_field t.obj t.dat t.t3 ?_)
  by_cases q:(fv==rawInt L)=true
  ·rw [if_pos q]
   exact wpAny_pure (h _ Touch.refl (.mk he hc hdat hlo hb (.inr ⟨T,ts,oT,fv,t⟩)))
  ·rw [if_neg q]
   refine wpAny_bind (wpAny_setField t.obj t.dat (Array.getElem?_eq_some_iff.mp t.t3).1 ?_)
   have other:∀b,b≠T→(s.heap.update T (Obj.mapFields (·.setIfInBounds 3 Value.none))).get? b=s.heap.get? b:=fun b hb=>Heap.get?_update_other _ _ (Ne.symm hb)
   have t1:Touch lo (fls fl) s.heap (s.heap.update T (Obj.mapFields (·.setIfInBounds 3 Value.none))) :=
    Touch.one t.obj t.dat t.cls t.low (Frames.noF hl t.obj t.dat) ⟨_,Heap.get?_update_self _ t.obj (Obj.isFreed_of_fields (Obj.data_mapFields t.dat _))⟩ fun b o q e1=>(other b q).trans e1
   exact Acp (s:={ s with heap:=s.heap.update T (Obj.mapFields (·.setIfInBounds 3 Value.none)) }) hfr hd (hl.of_keeps fun b o e1 h2=>⟨o,(other b fun q=>h2 ts (Option.some.inj ((q▸e1).symm.trans t.obj)▸t.dat)).trans e1,rfl⟩) hf ((other e (Ne.symm t.ne)).trans he) hc hdat
    (Array.getElem?_eq_some_iff.mp t.v).1 hlo hb (fun b o e1=>(other b fun q=>two (q▸e1) t.bas).trans (hbase b o e1)) (fun b o e1=>(hz b o e1).elim fun o' e'=>t1.live b o' e') fun h' t x=>h h' (t1.trans t) x
theorem V5 {Q:Unit→Shared→Prop}{fr:Option Addr}(hl:s.heap.FunFrames base fl)(X:ExcR base lo s.heap e C tr)
  (h:∀h',Touch lo (fls fl) s.heap h'→ExcR base lo h' e C tr→Q () { s with heap:=h' }):wpAny M A (setFlight (.ref e) fr) Q Ev s:=by
 obtain @⟨oe,vs,he,hc,hdat,hlo,hb,ht⟩:=X
 unfold setFlight
 rcases ht with ⟨z,h1⟩|⟨T,ts,oT,fv,t⟩
 ·refine wpAny_bind (wpAny_field he hdat h1 ?_)
  rw [if_neg (by decide)]
  exact wpAny_pure (h _ Touch.refl (.mk he hc hdat hlo hb (.inl ⟨z,h1⟩)))
 ·refine wpAny_bind (wpAny_field he hdat t.v ?_)
  rw [if_pos (show (Value.ref T != Value.none)=true from by simp)]
  have hsz3:=(Array.getElem?_eq_some_iff.mp t.t3).1
  have self:=Heap.get?_update_self (Obj.mapFields (·.setIfInBounds 3 (fr.elim Value.none fun f=>rawInt f))) t.obj (Obj.isFreed_of_fields (Obj.data_mapFields t.dat _))
  have other:∀b,b≠T→(s.heap.update T (Obj.mapFields (·.setIfInBounds 3 (fr.elim Value.none fun f=>rawInt f)))).get? b=s.heap.get? b:=fun b hb=>Heap.get?_update_other _ _ (Ne.symm hb)
  exact wpAny_setField t.obj t.dat hsz3 (h _ (Touch.one t.obj t.dat t.cls t.low (Frames.noF hl t.obj t.dat) ⟨_,self⟩ fun b o q e1=>(other b q).trans e1)
   (.mk ((other e (Ne.symm t.ne)).trans he) hc hdat hlo hb (.inr ⟨T,_,_,_,t.v,t.low,t.ne,t.bas,self,Obj.data_mapFields t.dat _,by simp [hsz3];exact rfl,by rw [Obj.cls_mapFields];exact t.cls⟩)))
theorem Ab0 {Q:Value→Shared→Prop}(X:ExcR base lo s.heap e C true)(h:∀T,Q (.ref T) s):wpAny M A (field (.ref e) 1) Q Ev s :=
 ExcR.casesOn X fun he hc hdat hlo hb ht=>ht.elim (fun z=>nomatch z.1) fun g=>g.elim fun T g=>g.elim fun ts g=>g.elim fun oT g=>g.elim fun fv g=>wpAny_field he hdat g.v (h T)
end
end Mine
end
section
namespace Mine
theorem ffE {P:Prop}(h:false=true):P:=Bool.noConfusion h
noncomputable def V9 (e:PySem.Expr)(f:Str→Pos→Bool):Bool:=@PySem.Expr.casesOn (fun e=>Bool) e (fun x0 x1 x2=>false) (fun x0 x1 x2=>false) (fun x0 x1 x2 x3=>false) (fun x0 x1 x2=>false) (fun x0 x1 x2 x3=>false) (fun x0 x1 x2 x3=>false) (fun x0 x1 x2=>false) (fun x0 x1 x2=>false) (fun x0 x1 x2 x3=>false) (fun x0 x1 x2 x3=>false) (fun x0 x1 x2 x3 x4=>false) (fun x0 x1 x2 x3=>false) (fun x0 x1=>false) (fun x0 x1=>false) (fun x0 x1=>false) (fun x0 x1 x2 x3=>false) (fun x0 x1 x2 x3=>false) (fun x0 x1 x2 x3=>false) (fun x0 x1=>false) (fun x0 x1 x2=>false) (fun x0 x1 x2=>false) (fun x0 x1 x2=>false) (fun x0 x1=>false) f (fun x0 x1=>false) (fun x0 x1 x2=>false) (fun x0 x1 x2 x3=>false)
@[elab_as_elim] theorem X3 {P:PySem.Expr→Prop}{e:PySem.Expr}{f:Str→Pos→Bool}(h:V9 e f=true)(k:∀x0 x1,f x0 x1=true→P (.Name x0 x1)):P e :=
 @PySem.Expr.casesOn (fun e=>V9 e f=true→P e) e (fun x0 x1 x2 (h:false=true)=>ffE h) (fun x0 x1 x2 (h:false=true)=>ffE h) (fun x0 x1 x2 x3 (h:false=true)=>ffE h) (fun x0 x1 x2 (h:false=true)=>ffE h) (fun x0 x1 x2 x3 (h:false=true)=>ffE h) (fun x0 x1 x2 x3 (h:false=true)=>ffE h) (fun x0 x1 x2 (h:false=true)=>ffE h) (fun x0 x1 x2 (h:false=true)=>ffE h) (fun x0 x1 x2 x3 (h:false=true)=>ffE h) (fun x0 x1 x2 x3 (h:false=true)=>ffE h) (fun x0 x1 x2 x3 x4 (h:false=true)=>ffE h) (fun x0 x1 x2 x3 (h:false=true)=>ffE h) (fun x0 x1 (h:false=true)=>ffE h) (fun x0 x1 (h:false=true)=>ffE h) (fun x0 x1 (h:false=true)=>ffE h) (fun x0 x1 x2 x3 (h:false=true)=>ffE h) (fun x0 x1 x2 x3 (h:false=true)=>ffE h) (fun x0 x1 x2 x3 (h:false=true)=>ffE h) (fun x0 x1 (h:false=true)=>ffE h) (fun x0 x1 x2 (h:false=true)=>ffE h) (fun x0 x1 x2 (h:false=true)=>ffE h) (fun x0 x1 x2 (h:false=true)=>ffE h) (fun x0 x1 (h:false=true)=>ffE h) k (fun x0 x1 (h:false=true)=>ffE h) (fun x0 x1 x2 (h:false=true)=>ffE h) (fun x0 x1 x2 x3 (h:false=true)=>ffE h) h
noncomputable def V8 (e:PySem.Expr)(f:Const→Nat→Pos→Bool):Bool:=@PySem.Expr.casesOn (fun e=>Bool) e (fun x0 x1 x2=>false) (fun x0 x1 x2=>false) (fun x0 x1 x2 x3=>false) (fun x0 x1 x2=>false) (fun x0 x1 x2 x3=>false) (fun x0 x1 x2 x3=>false) (fun x0 x1 x2=>false) (fun x0 x1 x2=>false) (fun x0 x1 x2 x3=>false) (fun x0 x1 x2 x3=>false) (fun x0 x1 x2 x3 x4=>false) (fun x0 x1 x2 x3=>false) (fun x0 x1=>false) (fun x0 x1=>false) (fun x0 x1=>false) (fun x0 x1 x2 x3=>false) (fun x0 x1 x2 x3=>false) (fun x0 x1 x2 x3=>false) (fun x0 x1=>false) f (fun x0 x1 x2=>false) (fun x0 x1 x2=>false) (fun x0 x1=>false) (fun x0 x1=>false) (fun x0 x1=>false) (fun x0 x1 x2=>false) (fun x0 x1 x2 x3=>false)
@[elab_as_elim] theorem W0 {P:PySem.Expr→Prop}{e:PySem.Expr}{f:Const→Nat→Pos→Bool}(h:V8 e f=true)(k:∀x0 x1 x2,f x0 x1 x2=true→P (.Constant x0 x1 x2)):P e :=
 @PySem.Expr.casesOn (fun e=>V8 e f=true→P e) e (fun x0 x1 x2 (h:false=true)=>ffE h) (fun x0 x1 x2 (h:false=true)=>ffE h) (fun x0 x1 x2 x3 (h:false=true)=>ffE h) (fun x0 x1 x2 (h:false=true)=>ffE h) (fun x0 x1 x2 x3 (h:false=true)=>ffE h) (fun x0 x1 x2 x3 (h:false=true)=>ffE h) (fun x0 x1 x2 (h:false=true)=>ffE h) (fun x0 x1 x2 (h:false=true)=>ffE h) (fun x0 x1 x2 x3 (h:false=true)=>ffE h) (fun x0 x1 x2 x3 (h:false=true)=>ffE h) (fun x0 x1 x2 x3 x4 (h:false=true)=>ffE h) (fun x0 x1 x2 x3 (h:false=true)=>ffE h) (fun x0 x1 (h:false=true)=>ffE h) (fun x0 x1 (h:false=true)=>ffE h) (fun x0 x1 (h:false=true)=>ffE h) (fun x0 x1 x2 x3 (h:false=true)=>ffE h) (fun x0 x1 x2 x3 (h:false=true)=>ffE h) (fun x0 x1 x2 x3 (h:false=true)=>ffE h) (fun x0 x1 (h:false=true)=>ffE h) k (fun x0 x1 x2 (h:false=true)=>ffE h) (fun x0 x1 x2 (h:false=true)=>ffE h) (fun x0 x1 (h:false=true)=>ffE h) (fun x0 x1 (h:false=true)=>ffE h) (fun x0 x1 (h:false=true)=>ffE h) (fun x0 x1 x2 (h:false=true)=>ffE h) (fun x0 x1 x2 x3 (h:false=true)=>ffE h) h
noncomputable def V1 (e:PySem.Expr)(f:PySem.Expr→Str→Pos→Bool):Bool:=@PySem.Expr.casesOn (fun e=>Bool) e (fun x0 x1 x2=>false) (fun x0 x1 x2=>false) (fun x0 x1 x2 x3=>false) (fun x0 x1 x2=>false) (fun x0 x1 x2 x3=>false) (fun x0 x1 x2 x3=>false) (fun x0 x1 x2=>false) (fun x0 x1 x2=>false) (fun x0 x1 x2 x3=>false) (fun x0 x1 x2 x3=>false) (fun x0 x1 x2 x3 x4=>false) (fun x0 x1 x2 x3=>false) (fun x0 x1=>false) (fun x0 x1=>false) (fun x0 x1=>false) (fun x0 x1 x2 x3=>false) (fun x0 x1 x2 x3=>false) (fun x0 x1 x2 x3=>false) (fun x0 x1=>false) (fun x0 x1 x2=>false) f (fun x0 x1 x2=>false) (fun x0 x1=>false) (fun x0 x1=>false) (fun x0 x1=>false) (fun x0 x1 x2=>false) (fun x0 x1 x2 x3=>false)
@[elab_as_elim] theorem Z3 {P:PySem.Expr→Prop}{e:PySem.Expr}{f:PySem.Expr→Str→Pos→Bool}(h:V1 e f=true)(k:∀x0 x1 x2,f x0 x1 x2=true→P (.Attribute x0 x1 x2)):P e :=
 @PySem.Expr.casesOn (fun e=>V1 e f=true→P e) e (fun x0 x1 x2 (h:false=true)=>ffE h) (fun x0 x1 x2 (h:false=true)=>ffE h) (fun x0 x1 x2 x3 (h:false=true)=>ffE h) (fun x0 x1 x2 (h:false=true)=>ffE h) (fun x0 x1 x2 x3 (h:false=true)=>ffE h) (fun x0 x1 x2 x3 (h:false=true)=>ffE h) (fun x0 x1 x2 (h:false=true)=>ffE h) (fun x0 x1 x2 (h:false=true)=>ffE h) (fun x0 x1 x2 x3 (h:false=true)=>ffE h) (fun x0 x1 x2 x3 (h:false=true)=>ffE h) (fun x0 x1 x2 x3 x4 (h:false=true)=>ffE h) (fun x0 x1 x2 x3 (h:false=true)=>ffE h) (fun x0 x1 (h:false=true)=>ffE h) (fun x0 x1 (h:false=true)=>ffE h) (fun x0 x1 (h:false=true)=>ffE h) (fun x0 x1 x2 x3 (h:false=true)=>ffE h) (fun x0 x1 x2 x3 (h:false=true)=>ffE h) (fun x0 x1 x2 x3 (h:false=true)=>ffE h) (fun x0 x1 (h:false=true)=>ffE h) (fun x0 x1 x2 (h:false=true)=>ffE h) k (fun x0 x1 x2 (h:false=true)=>ffE h) (fun x0 x1 (h:false=true)=>ffE h) (fun x0 x1 (h:false=true)=>ffE h) (fun x0 x1 (h:false=true)=>ffE h) (fun x0 x1 x2 (h:false=true)=>ffE h) (fun x0 x1 x2 x3 (h:false=true)=>ffE h) h
noncomputable def AbJ (e:PySem.Expr)(f:PySem.Expr→List PySem.Expr→List Keyword→Pos→Bool):Bool:=@PySem.Expr.casesOn (fun e=>Bool) e (fun x0 x1 x2=>false) (fun x0 x1 x2=>false) (fun x0 x1 x2 x3=>false) (fun x0 x1 x2=>false) (fun x0 x1 x2 x3=>false) (fun x0 x1 x2 x3=>false) (fun x0 x1 x2=>false) (fun x0 x1 x2=>false) (fun x0 x1 x2 x3=>false) (fun x0 x1 x2 x3=>false) (fun x0 x1 x2 x3 x4=>false) (fun x0 x1 x2 x3=>false) (fun x0 x1=>false) (fun x0 x1=>false) (fun x0 x1=>false) (fun x0 x1 x2 x3=>false) f (fun x0 x1 x2 x3=>false) (fun x0 x1=>false) (fun x0 x1 x2=>false) (fun x0 x1 x2=>false) (fun x0 x1 x2=>false) (fun x0 x1=>false) (fun x0 x1=>false) (fun x0 x1=>false) (fun x0 x1 x2=>false) (fun x0 x1 x2 x3=>false)
@[elab_as_elim] theorem W4 {P:PySem.Expr→Prop}{e:PySem.Expr}{f:PySem.Expr→List PySem.Expr→List Keyword→Pos→Bool}(h:AbJ e f=true)(k:∀x0 x1 x2 x3,f x0 x1 x2 x3=true→P (.Call x0 x1 x2 x3)):P e :=
 @PySem.Expr.casesOn (fun e=>AbJ e f=true→P e) e (fun x0 x1 x2 (h:false=true)=>ffE h) (fun x0 x1 x2 (h:false=true)=>ffE h) (fun x0 x1 x2 x3 (h:false=true)=>ffE h) (fun x0 x1 x2 (h:false=true)=>ffE h) (fun x0 x1 x2 x3 (h:false=true)=>ffE h) (fun x0 x1 x2 x3 (h:false=true)=>ffE h) (fun x0 x1 x2 (h:false=true)=>ffE h) (fun x0 x1 x2 (h:false=true)=>ffE h) (fun x0 x1 x2 x3 (h:false=true)=>ffE h) (fun x0 x1 x2 x3 (h:false=true)=>ffE h) (fun x0 x1 x2 x3 x4 (h:false=true)=>ffE h) (fun x0 x1 x2 x3 (h:false=true)=>ffE h) (fun x0 x1 (h:false=true)=>ffE h) (fun x0 x1 (h:false=true)=>ffE h) (fun x0 x1 (h:false=true)=>ffE h) (fun x0 x1 x2 x3 (h:false=true)=>ffE h) k (fun x0 x1 x2 x3 (h:false=true)=>ffE h) (fun x0 x1 (h:false=true)=>ffE h) (fun x0 x1 x2 (h:false=true)=>ffE h) (fun x0 x1 x2 (h:false=true)=>ffE h) (fun x0 x1 x2 (h:false=true)=>ffE h) (fun x0 x1 (h:false=true)=>ffE h) (fun x0 x1 (h:false=true)=>ffE h) (fun x0 x1 (h:false=true)=>ffE h) (fun x0 x1 x2 (h:false=true)=>ffE h) (fun x0 x1 x2 x3 (h:false=true)=>ffE h) h
noncomputable def V2 (e:PySem.Expr)(f:PySem.Expr→PySem.Expr→Pos→Bool):Bool:=@PySem.Expr.casesOn (fun e=>Bool) e (fun x0 x1 x2=>false) (fun x0 x1 x2=>false) (fun x0 x1 x2 x3=>false) (fun x0 x1 x2=>false) (fun x0 x1 x2 x3=>false) (fun x0 x1 x2 x3=>false) (fun x0 x1 x2=>false) (fun x0 x1 x2=>false) (fun x0 x1 x2 x3=>false) (fun x0 x1 x2 x3=>false) (fun x0 x1 x2 x3 x4=>false) (fun x0 x1 x2 x3=>false) (fun x0 x1=>false) (fun x0 x1=>false) (fun x0 x1=>false) (fun x0 x1 x2 x3=>false) (fun x0 x1 x2 x3=>false) (fun x0 x1 x2 x3=>false) (fun x0 x1=>false) (fun x0 x1 x2=>false) (fun x0 x1 x2=>false) f (fun x0 x1=>false) (fun x0 x1=>false) (fun x0 x1=>false) (fun x0 x1 x2=>false) (fun x0 x1 x2 x3=>false)
@[elab_as_elim] theorem V6 {P:PySem.Expr→Prop}{e:PySem.Expr}{f:PySem.Expr→PySem.Expr→Pos→Bool}(h:V2 e f=true)(k:∀x0 x1 x2,f x0 x1 x2=true→P (.Subscript x0 x1 x2)):P e :=
 @PySem.Expr.casesOn (fun e=>V2 e f=true→P e) e (fun x0 x1 x2 (h:false=true)=>ffE h) (fun x0 x1 x2 (h:false=true)=>ffE h) (fun x0 x1 x2 x3 (h:false=true)=>ffE h) (fun x0 x1 x2 (h:false=true)=>ffE h) (fun x0 x1 x2 x3 (h:false=true)=>ffE h) (fun x0 x1 x2 x3 (h:false=true)=>ffE h) (fun x0 x1 x2 (h:false=true)=>ffE h) (fun x0 x1 x2 (h:false=true)=>ffE h) (fun x0 x1 x2 x3 (h:false=true)=>ffE h) (fun x0 x1 x2 x3 (h:false=true)=>ffE h) (fun x0 x1 x2 x3 x4 (h:false=true)=>ffE h) (fun x0 x1 x2 x3 (h:false=true)=>ffE h) (fun x0 x1 (h:false=true)=>ffE h) (fun x0 x1 (h:false=true)=>ffE h) (fun x0 x1 (h:false=true)=>ffE h) (fun x0 x1 x2 x3 (h:false=true)=>ffE h) (fun x0 x1 x2 x3 (h:false=true)=>ffE h) (fun x0 x1 x2 x3 (h:false=true)=>ffE h) (fun x0 x1 (h:false=true)=>ffE h) (fun x0 x1 x2 (h:false=true)=>ffE h) (fun x0 x1 x2 (h:false=true)=>ffE h) k (fun x0 x1 (h:false=true)=>ffE h) (fun x0 x1 (h:false=true)=>ffE h) (fun x0 x1 (h:false=true)=>ffE h) (fun x0 x1 x2 (h:false=true)=>ffE h) (fun x0 x1 x2 x3 (h:false=true)=>ffE h) h
noncomputable def Abp (e:PySem.Expr)(f:List PySem.Expr→Nat→Pos→Bool):Bool:=@PySem.Expr.casesOn (fun e=>Bool) e (fun x0 x1 x2=>false) (fun x0 x1 x2=>false) (fun x0 x1 x2 x3=>false) (fun x0 x1 x2=>false) (fun x0 x1 x2 x3=>false) (fun x0 x1 x2 x3=>false) (fun x0 x1 x2=>false) (fun x0 x1 x2=>false) (fun x0 x1 x2 x3=>false) (fun x0 x1 x2 x3=>false) (fun x0 x1 x2 x3 x4=>false) (fun x0 x1 x2 x3=>false) (fun x0 x1=>false) (fun x0 x1=>false) (fun x0 x1=>false) (fun x0 x1 x2 x3=>false) (fun x0 x1 x2 x3=>false) (fun x0 x1 x2 x3=>false) (fun x0 x1=>false) (fun x0 x1 x2=>false) (fun x0 x1 x2=>false) (fun x0 x1 x2=>false) (fun x0 x1=>false) (fun x0 x1=>false) (fun x0 x1=>false) f (fun x0 x1 x2 x3=>false)
@[elab_as_elim] theorem Aan {P:PySem.Expr→Prop}{e:PySem.Expr}{f:List PySem.Expr→Nat→Pos→Bool}(h:Abp e f=true)(k:∀x0 x1 x2,f x0 x1 x2=true→P (.Tuple x0 x1 x2)):P e :=
 @PySem.Expr.casesOn (fun e=>Abp e f=true→P e) e (fun x0 x1 x2 (h:false=true)=>ffE h) (fun x0 x1 x2 (h:false=true)=>ffE h) (fun x0 x1 x2 x3 (h:false=true)=>ffE h) (fun x0 x1 x2 (h:false=true)=>ffE h) (fun x0 x1 x2 x3 (h:false=true)=>ffE h) (fun x0 x1 x2 x3 (h:false=true)=>ffE h) (fun x0 x1 x2 (h:false=true)=>ffE h) (fun x0 x1 x2 (h:false=true)=>ffE h) (fun x0 x1 x2 x3 (h:false=true)=>ffE h) (fun x0 x1 x2 x3 (h:false=true)=>ffE h) (fun x0 x1 x2 x3 x4 (h:false=true)=>ffE h) (fun x0 x1 x2 x3 (h:false=true)=>ffE h) (fun x0 x1 (h:false=true)=>ffE h) (fun x0 x1 (h:false=true)=>ffE h) (fun x0 x1 (h:false=true)=>ffE h) (fun x0 x1 x2 x3 (h:false=true)=>ffE h) (fun x0 x1 x2 x3 (h:false=true)=>ffE h) (fun x0 x1 x2 x3 (h:false=true)=>ffE h) (fun x0 x1 (h:false=true)=>ffE h) (fun x0 x1 x2 (h:false=true)=>ffE h) (fun x0 x1 x2 (h:false=true)=>ffE h) (fun x0 x1 x2 (h:false=true)=>ffE h) (fun x0 x1 (h:false=true)=>ffE h) (fun x0 x1 (h:false=true)=>ffE h) (fun x0 x1 (h:false=true)=>ffE h) k (fun x0 x1 x2 x3 (h:false=true)=>ffE h) h
noncomputable def AiA (e:PySem.Expr)(f:List PySem.Expr→Pos→Bool):Bool:=@PySem.Expr.casesOn (fun e=>Bool) e (fun x0 x1 x2=>false) (fun x0 x1 x2=>false) (fun x0 x1 x2 x3=>false) (fun x0 x1 x2=>false) (fun x0 x1 x2 x3=>false) (fun x0 x1 x2 x3=>false) (fun x0 x1 x2=>false) (fun x0 x1 x2=>false) (fun x0 x1 x2 x3=>false) (fun x0 x1 x2 x3=>false) (fun x0 x1 x2 x3 x4=>false) (fun x0 x1 x2 x3=>false) (fun x0 x1=>false) (fun x0 x1=>false) (fun x0 x1=>false) (fun x0 x1 x2 x3=>false) (fun x0 x1 x2 x3=>false) (fun x0 x1 x2 x3=>false) (fun x0 x1=>false) (fun x0 x1 x2=>false) (fun x0 x1 x2=>false) (fun x0 x1 x2=>false) (fun x0 x1=>false) (fun x0 x1=>false) f (fun x0 x1 x2=>false) (fun x0 x1 x2 x3=>false)
@[elab_as_elim] theorem Adx {P:PySem.Expr→Prop}{e:PySem.Expr}{f:List PySem.Expr→Pos→Bool}(h:AiA e f=true)(k:∀x0 x1,f x0 x1=true→P (.List x0 x1)):P e :=
 @PySem.Expr.casesOn (fun e=>AiA e f=true→P e) e (fun x0 x1 x2 (h:false=true)=>ffE h) (fun x0 x1 x2 (h:false=true)=>ffE h) (fun x0 x1 x2 x3 (h:false=true)=>ffE h) (fun x0 x1 x2 (h:false=true)=>ffE h) (fun x0 x1 x2 x3 (h:false=true)=>ffE h) (fun x0 x1 x2 x3 (h:false=true)=>ffE h) (fun x0 x1 x2 (h:false=true)=>ffE h) (fun x0 x1 x2 (h:false=true)=>ffE h) (fun x0 x1 x2 x3 (h:false=true)=>ffE h) (fun x0 x1 x2 x3 (h:false=true)=>ffE h) (fun x0 x1 x2 x3 x4 (h:false=true)=>ffE h) (fun x0 x1 x2 x3 (h:false=true)=>ffE h) (fun x0 x1 (h:false=true)=>ffE h) (fun x0 x1 (h:false=true)=>ffE h) (fun x0 x1 (h:false=true)=>ffE h) (fun x0 x1 x2 x3 (h:false=true)=>ffE h) (fun x0 x1 x2 x3 (h:false=true)=>ffE h) (fun x0 x1 x2 x3 (h:false=true)=>ffE h) (fun x0 x1 (h:false=true)=>ffE h) (fun x0 x1 x2 (h:false=true)=>ffE h) (fun x0 x1 x2 (h:false=true)=>ffE h) (fun x0 x1 x2 (h:false=true)=>ffE h) (fun x0 x1 (h:false=true)=>ffE h) (fun x0 x1 (h:false=true)=>ffE h) k (fun x0 x1 x2 (h:false=true)=>ffE h) (fun x0 x1 x2 x3 (h:false=true)=>ffE h) h
noncomputable def Amg (e:PySem.Expr)(f:List (Option PySem.Expr)→List PySem.Expr→Pos→Bool):Bool:=@PySem.Expr.casesOn (fun e=>Bool) e (fun x0 x1 x2=>false) (fun x0 x1 x2=>false) (fun x0 x1 x2 x3=>false) (fun x0 x1 x2=>false) (fun x0 x1 x2 x3=>false) (fun x0 x1 x2 x3=>false) f (fun x0 x1 x2=>false) (fun x0 x1 x2 x3=>false) (fun x0 x1 x2 x3=>false) (fun x0 x1 x2 x3 x4=>false) (fun x0 x1 x2 x3=>false) (fun x0 x1=>false) (fun x0 x1=>false) (fun x0 x1=>false) (fun x0 x1 x2 x3=>false) (fun x0 x1 x2 x3=>false) (fun x0 x1 x2 x3=>false) (fun x0 x1=>false) (fun x0 x1 x2=>false) (fun x0 x1 x2=>false) (fun x0 x1 x2=>false) (fun x0 x1=>false) (fun x0 x1=>false) (fun x0 x1=>false) (fun x0 x1 x2=>false) (fun x0 x1 x2 x3=>false)
@[elab_as_elim] theorem AgW {P:PySem.Expr→Prop}{e:PySem.Expr}{f:List (Option PySem.Expr)→List PySem.Expr→Pos→Bool}(h:Amg e f=true)(k:∀x0 x1 x2,f x0 x1 x2=true→P (.Dict x0 x1 x2)):P e :=
 @PySem.Expr.casesOn (fun e=>Amg e f=true→P e) e (fun x0 x1 x2 (h:false=true)=>ffE h) (fun x0 x1 x2 (h:false=true)=>ffE h) (fun x0 x1 x2 x3 (h:false=true)=>ffE h) (fun x0 x1 x2 (h:false=true)=>ffE h) (fun x0 x1 x2 x3 (h:false=true)=>ffE h) (fun x0 x1 x2 x3 (h:false=true)=>ffE h) k (fun x0 x1 x2 (h:false=true)=>ffE h) (fun x0 x1 x2 x3 (h:false=true)=>ffE h) (fun x0 x1 x2 x3 (h:false=true)=>ffE h) (fun x0 x1 x2 x3 x4 (h:false=true)=>ffE h) (fun x0 x1 x2 x3 (h:false=true)=>ffE h) (fun x0 x1 (h:false=true)=>ffE h) (fun x0 x1 (h:false=true)=>ffE h) (fun x0 x1 (h:false=true)=>ffE h) (fun x0 x1 x2 x3 (h:false=true)=>ffE h) (fun x0 x1 x2 x3 (h:false=true)=>ffE h) (fun x0 x1 x2 x3 (h:false=true)=>ffE h) (fun x0 x1 (h:false=true)=>ffE h) (fun x0 x1 x2 (h:false=true)=>ffE h) (fun x0 x1 x2 (h:false=true)=>ffE h) (fun x0 x1 x2 (h:false=true)=>ffE h) (fun x0 x1 (h:false=true)=>ffE h) (fun x0 x1 (h:false=true)=>ffE h) (fun x0 x1 (h:false=true)=>ffE h) (fun x0 x1 x2 (h:false=true)=>ffE h) (fun x0 x1 x2 x3 (h:false=true)=>ffE h) h
noncomputable def Abo (e:PySem.Expr)(f:UnaryOp→PySem.Expr→Pos→Bool):Bool:=@PySem.Expr.casesOn (fun e=>Bool) e (fun x0 x1 x2=>false) (fun x0 x1 x2=>false) (fun x0 x1 x2 x3=>false) f (fun x0 x1 x2 x3=>false) (fun x0 x1 x2 x3=>false) (fun x0 x1 x2=>false) (fun x0 x1 x2=>false) (fun x0 x1 x2 x3=>false) (fun x0 x1 x2 x3=>false) (fun x0 x1 x2 x3 x4=>false) (fun x0 x1 x2 x3=>false) (fun x0 x1=>false) (fun x0 x1=>false) (fun x0 x1=>false) (fun x0 x1 x2 x3=>false) (fun x0 x1 x2 x3=>false) (fun x0 x1 x2 x3=>false) (fun x0 x1=>false) (fun x0 x1 x2=>false) (fun x0 x1 x2=>false) (fun x0 x1 x2=>false) (fun x0 x1=>false) (fun x0 x1=>false) (fun x0 x1=>false) (fun x0 x1 x2=>false) (fun x0 x1 x2 x3=>false)
@[elab_as_elim] theorem Aax {P:PySem.Expr→Prop}{e:PySem.Expr}{f:UnaryOp→PySem.Expr→Pos→Bool}(h:Abo e f=true)(k:∀x0 x1 x2,f x0 x1 x2=true→P (.UnaryOp x0 x1 x2)):P e :=
 @PySem.Expr.casesOn (fun e=>Abo e f=true→P e) e (fun x0 x1 x2 (h:false=true)=>ffE h) (fun x0 x1 x2 (h:false=true)=>ffE h) (fun x0 x1 x2 x3 (h:false=true)=>ffE h) k (fun x0 x1 x2 x3 (h:false=true)=>ffE h) (fun x0 x1 x2 x3 (h:false=true)=>ffE h) (fun x0 x1 x2 (h:false=true)=>ffE h) (fun x0 x1 x2 (h:false=true)=>ffE h) (fun x0 x1 x2 x3 (h:false=true)=>ffE h) (fun x0 x1 x2 x3 (h:false=true)=>ffE h) (fun x0 x1 x2 x3 x4 (h:false=true)=>ffE h) (fun x0 x1 x2 x3 (h:false=true)=>ffE h) (fun x0 x1 (h:false=true)=>ffE h) (fun x0 x1 (h:false=true)=>ffE h) (fun x0 x1 (h:false=true)=>ffE h) (fun x0 x1 x2 x3 (h:false=true)=>ffE h) (fun x0 x1 x2 x3 (h:false=true)=>ffE h) (fun x0 x1 x2 x3 (h:false=true)=>ffE h) (fun x0 x1 (h:false=true)=>ffE h) (fun x0 x1 x2 (h:false=true)=>ffE h) (fun x0 x1 x2 (h:false=true)=>ffE h) (fun x0 x1 x2 (h:false=true)=>ffE h) (fun x0 x1 (h:false=true)=>ffE h) (fun x0 x1 (h:false=true)=>ffE h) (fun x0 x1 (h:false=true)=>ffE h) (fun x0 x1 x2 (h:false=true)=>ffE h) (fun x0 x1 x2 x3 (h:false=true)=>ffE h) h
noncomputable def Aig (e:PySem.Expr)(f:PySem.Expr→Operator→PySem.Expr→Pos→Bool):Bool:=@PySem.Expr.casesOn (fun e=>Bool) e (fun x0 x1 x2=>false) (fun x0 x1 x2=>false) f (fun x0 x1 x2=>false) (fun x0 x1 x2 x3=>false) (fun x0 x1 x2 x3=>false) (fun x0 x1 x2=>false) (fun x0 x1 x2=>false) (fun x0 x1 x2 x3=>false) (fun x0 x1 x2 x3=>false) (fun x0 x1 x2 x3 x4=>false) (fun x0 x1 x2 x3=>false) (fun x0 x1=>false) (fun x0 x1=>false) (fun x0 x1=>false) (fun x0 x1 x2 x3=>false) (fun x0 x1 x2 x3=>false) (fun x0 x1 x2 x3=>false) (fun x0 x1=>false) (fun x0 x1 x2=>false) (fun x0 x1 x2=>false) (fun x0 x1 x2=>false) (fun x0 x1=>false) (fun x0 x1=>false) (fun x0 x1=>false) (fun x0 x1 x2=>false) (fun x0 x1 x2 x3=>false)
@[elab_as_elim] theorem AfY {P:PySem.Expr→Prop}{e:PySem.Expr}{f:PySem.Expr→Operator→PySem.Expr→Pos→Bool}(h:Aig e f=true)(k:∀x0 x1 x2 x3,f x0 x1 x2 x3=true→P (.BinOp x0 x1 x2 x3)):P e :=
 @PySem.Expr.casesOn (fun e=>Aig e f=true→P e) e (fun x0 x1 x2 (h:false=true)=>ffE h) (fun x0 x1 x2 (h:false=true)=>ffE h) k (fun x0 x1 x2 (h:false=true)=>ffE h) (fun x0 x1 x2 x3 (h:false=true)=>ffE h) (fun x0 x1 x2 x3 (h:false=true)=>ffE h) (fun x0 x1 x2 (h:false=true)=>ffE h) (fun x0 x1 x2 (h:false=true)=>ffE h) (fun x0 x1 x2 x3 (h:false=true)=>ffE h) (fun x0 x1 x2 x3 (h:false=true)=>ffE h) (fun x0 x1 x2 x3 x4 (h:false=true)=>ffE h) (fun x0 x1 x2 x3 (h:false=true)=>ffE h) (fun x0 x1 (h:false=true)=>ffE h) (fun x0 x1 (h:false=true)=>ffE h) (fun x0 x1 (h:false=true)=>ffE h) (fun x0 x1 x2 x3 (h:false=true)=>ffE h) (fun x0 x1 x2 x3 (h:false=true)=>ffE h) (fun x0 x1 x2 x3 (h:false=true)=>ffE h) (fun x0 x1 (h:false=true)=>ffE h) (fun x0 x1 x2 (h:false=true)=>ffE h) (fun x0 x1 x2 (h:false=true)=>ffE h) (fun x0 x1 x2 (h:false=true)=>ffE h) (fun x0 x1 (h:false=true)=>ffE h) (fun x0 x1 (h:false=true)=>ffE h) (fun x0 x1 (h:false=true)=>ffE h) (fun x0 x1 x2 (h:false=true)=>ffE h) (fun x0 x1 x2 x3 (h:false=true)=>ffE h) h
noncomputable def AeH (e:PySem.Expr)(f:BoolOp→List PySem.Expr→Pos→Bool):Bool:=@PySem.Expr.casesOn (fun e=>Bool) e f (fun x0 x1 x2=>false) (fun x0 x1 x2 x3=>false) (fun x0 x1 x2=>false) (fun x0 x1 x2 x3=>false) (fun x0 x1 x2 x3=>false) (fun x0 x1 x2=>false) (fun x0 x1 x2=>false) (fun x0 x1 x2 x3=>false) (fun x0 x1 x2 x3=>false) (fun x0 x1 x2 x3 x4=>false) (fun x0 x1 x2 x3=>false) (fun x0 x1=>false) (fun x0 x1=>false) (fun x0 x1=>false) (fun x0 x1 x2 x3=>false) (fun x0 x1 x2 x3=>false) (fun x0 x1 x2 x3=>false) (fun x0 x1=>false) (fun x0 x1 x2=>false) (fun x0 x1 x2=>false) (fun x0 x1 x2=>false) (fun x0 x1=>false) (fun x0 x1=>false) (fun x0 x1=>false) (fun x0 x1 x2=>false) (fun x0 x1 x2 x3=>false)
@[elab_as_elim] theorem AdR {P:PySem.Expr→Prop}{e:PySem.Expr}{f:BoolOp→List PySem.Expr→Pos→Bool}(h:AeH e f=true)(k:∀x0 x1 x2,f x0 x1 x2=true→P (.BoolOp x0 x1 x2)):P e :=
 @PySem.Expr.casesOn (fun e=>AeH e f=true→P e) e k (fun x0 x1 x2 (h:false=true)=>ffE h) (fun x0 x1 x2 x3 (h:false=true)=>ffE h) (fun x0 x1 x2 (h:false=true)=>ffE h) (fun x0 x1 x2 x3 (h:false=true)=>ffE h) (fun x0 x1 x2 x3 (h:false=true)=>ffE h) (fun x0 x1 x2 (h:false=true)=>ffE h) (fun x0 x1 x2 (h:false=true)=>ffE h) (fun x0 x1 x2 x3 (h:false=true)=>ffE h) (fun x0 x1 x2 x3 (h:false=true)=>ffE h) (fun x0 x1 x2 x3 x4 (h:false=true)=>ffE h) (fun x0 x1 x2 x3 (h:false=true)=>ffE h) (fun x0 x1 (h:false=true)=>ffE h) (fun x0 x1 (h:false=true)=>ffE h) (fun x0 x1 (h:false=true)=>ffE h) (fun x0 x1 x2 x3 (h:false=true)=>ffE h) (fun x0 x1 x2 x3 (h:false=true)=>ffE h) (fun x0 x1 x2 x3 (h:false=true)=>ffE h) (fun x0 x1 (h:false=true)=>ffE h) (fun x0 x1 x2 (h:false=true)=>ffE h) (fun x0 x1 x2 (h:false=true)=>ffE h) (fun x0 x1 x2 (h:false=true)=>ffE h) (fun x0 x1 (h:false=true)=>ffE h) (fun x0 x1 (h:false=true)=>ffE h) (fun x0 x1 (h:false=true)=>ffE h) (fun x0 x1 x2 (h:false=true)=>ffE h) (fun x0 x1 x2 x3 (h:false=true)=>ffE h) h
noncomputable def AdI (e:PySem.Expr)(f:PySem.Expr→List CmpOp→List PySem.Expr→Pos→Bool):Bool:=@PySem.Expr.casesOn (fun e=>Bool) e (fun x0 x1 x2=>false) (fun x0 x1 x2=>false) (fun x0 x1 x2 x3=>false) (fun x0 x1 x2=>false) (fun x0 x1 x2 x3=>false) (fun x0 x1 x2 x3=>false) (fun x0 x1 x2=>false) (fun x0 x1 x2=>false) (fun x0 x1 x2 x3=>false) (fun x0 x1 x2 x3=>false) (fun x0 x1 x2 x3 x4=>false) (fun x0 x1 x2 x3=>false) (fun x0 x1=>false) (fun x0 x1=>false) (fun x0 x1=>false) f (fun x0 x1 x2 x3=>false) (fun x0 x1 x2 x3=>false) (fun x0 x1=>false) (fun x0 x1 x2=>false) (fun x0 x1 x2=>false) (fun x0 x1 x2=>false) (fun x0 x1=>false) (fun x0 x1=>false) (fun x0 x1=>false) (fun x0 x1 x2=>false) (fun x0 x1 x2 x3=>false)
@[elab_as_elim] theorem AcZ {P:PySem.Expr→Prop}{e:PySem.Expr}{f:PySem.Expr→List CmpOp→List PySem.Expr→Pos→Bool}(h:AdI e f=true)(k:∀x0 x1 x2 x3,f x0 x1 x2 x3=true→P (.Compare x0 x1 x2 x3)):P e :=
 @PySem.Expr.casesOn (fun e=>AdI e f=true→P e) e (fun x0 x1 x2 (h:false=true)=>ffE h) (fun x0 x1 x2 (h:false=true)=>ffE h) (fun x0 x1 x2 x3 (h:false=true)=>ffE h) (fun x0 x1 x2 (h:false=true)=>ffE h) (fun x0 x1 x2 x3 (h:false=true)=>ffE h) (fun x0 x1 x2 x3 (h:false=true)=>ffE h) (fun x0 x1 x2 (h:false=true)=>ffE h) (fun x0 x1 x2 (h:false=true)=>ffE h) (fun x0 x1 x2 x3 (h:false=true)=>ffE h) (fun x0 x1 x2 x3 (h:false=true)=>ffE h) (fun x0 x1 x2 x3 x4 (h:false=true)=>ffE h) (fun x0 x1 x2 x3 (h:false=true)=>ffE h) (fun x0 x1 (h:false=true)=>ffE h) (fun x0 x1 (h:false=true)=>ffE h) (fun x0 x1 (h:false=true)=>ffE h) k (fun x0 x1 x2 x3 (h:false=true)=>ffE h) (fun x0 x1 x2 x3 (h:false=true)=>ffE h) (fun x0 x1 (h:false=true)=>ffE h) (fun x0 x1 x2 (h:false=true)=>ffE h) (fun x0 x1 x2 (h:false=true)=>ffE h) (fun x0 x1 x2 (h:false=true)=>ffE h) (fun x0 x1 (h:false=true)=>ffE h) (fun x0 x1 (h:false=true)=>ffE h) (fun x0 x1 (h:false=true)=>ffE h) (fun x0 x1 x2 (h:false=true)=>ffE h) (fun x0 x1 x2 x3 (h:false=true)=>ffE h) h
noncomputable def Aiz (e:PySem.Expr)(f:PySem.Expr→PySem.Expr→PySem.Expr→Pos→Bool):Bool:=@PySem.Expr.casesOn (fun e=>Bool) e (fun x0 x1 x2=>false) (fun x0 x1 x2=>false) (fun x0 x1 x2 x3=>false) (fun x0 x1 x2=>false) (fun x0 x1 x2 x3=>false) f (fun x0 x1 x2=>false) (fun x0 x1 x2=>false) (fun x0 x1 x2 x3=>false) (fun x0 x1 x2 x3=>false) (fun x0 x1 x2 x3 x4=>false) (fun x0 x1 x2 x3=>false) (fun x0 x1=>false) (fun x0 x1=>false) (fun x0 x1=>false) (fun x0 x1 x2 x3=>false) (fun x0 x1 x2 x3=>false) (fun x0 x1 x2 x3=>false) (fun x0 x1=>false) (fun x0 x1 x2=>false) (fun x0 x1 x2=>false) (fun x0 x1 x2=>false) (fun x0 x1=>false) (fun x0 x1=>false) (fun x0 x1=>false) (fun x0 x1 x2=>false) (fun x0 x1 x2 x3=>false)
@[elab_as_elim] theorem Afu {P:PySem.Expr→Prop}{e:PySem.Expr}{f:PySem.Expr→PySem.Expr→PySem.Expr→Pos→Bool}(h:Aiz e f=true)(k:∀x0 x1 x2 x3,f x0 x1 x2 x3=true→P (.IfExp x0 x1 x2 x3)):P e :=
 @PySem.Expr.casesOn (fun e=>Aiz e f=true→P e) e (fun x0 x1 x2 (h:false=true)=>ffE h) (fun x0 x1 x2 (h:false=true)=>ffE h) (fun x0 x1 x2 x3 (h:false=true)=>ffE h) (fun x0 x1 x2 (h:false=true)=>ffE h) (fun x0 x1 x2 x3 (h:false=true)=>ffE h) k (fun x0 x1 x2 (h:false=true)=>ffE h) (fun x0 x1 x2 (h:false=true)=>ffE h) (fun x0 x1 x2 x3 (h:false=true)=>ffE h) (fun x0 x1 x2 x3 (h:false=true)=>ffE h) (fun x0 x1 x2 x3 x4 (h:false=true)=>ffE h) (fun x0 x1 x2 x3 (h:false=true)=>ffE h) (fun x0 x1 (h:false=true)=>ffE h) (fun x0 x1 (h:false=true)=>ffE h) (fun x0 x1 (h:false=true)=>ffE h) (fun x0 x1 x2 x3 (h:false=true)=>ffE h) (fun x0 x1 x2 x3 (h:false=true)=>ffE h) (fun x0 x1 x2 x3 (h:false=true)=>ffE h) (fun x0 x1 (h:false=true)=>ffE h) (fun x0 x1 x2 (h:false=true)=>ffE h) (fun x0 x1 x2 (h:false=true)=>ffE h) (fun x0 x1 x2 (h:false=true)=>ffE h) (fun x0 x1 (h:false=true)=>ffE h) (fun x0 x1 (h:false=true)=>ffE h) (fun x0 x1 (h:false=true)=>ffE h) (fun x0 x1 x2 (h:false=true)=>ffE h) (fun x0 x1 x2 x3 (h:false=true)=>ffE h) h
noncomputable def Aaa (e:PySem.Expr)(f:PySem.Expr→List Comprehension→PySem.Scope→Pos→Bool):Bool:=@PySem.Expr.casesOn (fun e=>Bool) e (fun x0 x1 x2=>false) (fun x0 x1 x2=>false) (fun x0 x1 x2 x3=>false) (fun x0 x1 x2=>false) (fun x0 x1 x2 x3=>false) (fun x0 x1 x2 x3=>false) (fun x0 x1 x2=>false) (fun x0 x1 x2=>false) f (fun x0 x1 x2 x3=>false) (fun x0 x1 x2 x3 x4=>false) (fun x0 x1 x2 x3=>false) (fun x0 x1=>false) (fun x0 x1=>false) (fun x0 x1=>false) (fun x0 x1 x2 x3=>false) (fun x0 x1 x2 x3=>false) (fun x0 x1 x2 x3=>false) (fun x0 x1=>false) (fun x0 x1 x2=>false) (fun x0 x1 x2=>false) (fun x0 x1 x2=>false) (fun x0 x1=>false) (fun x0 x1=>false) (fun x0 x1=>false) (fun x0 x1 x2=>false) (fun x0 x1 x2 x3=>false)
@[elab_as_elim] theorem AaI {P:PySem.Expr→Prop}{e:PySem.Expr}{f:PySem.Expr→List Comprehension→PySem.Scope→Pos→Bool}(h:Aaa e f=true)(k:∀x0 x1 x2 x3,f x0 x1 x2 x3=true→P (.ListComp x0 x1 x2 x3)):P e :=
 @PySem.Expr.casesOn (fun e=>Aaa e f=true→P e) e (fun x0 x1 x2 (h:false=true)=>ffE h) (fun x0 x1 x2 (h:false=true)=>ffE h) (fun x0 x1 x2 x3 (h:false=true)=>ffE h) (fun x0 x1 x2 (h:false=true)=>ffE h) (fun x0 x1 x2 x3 (h:false=true)=>ffE h) (fun x0 x1 x2 x3 (h:false=true)=>ffE h) (fun x0 x1 x2 (h:false=true)=>ffE h) (fun x0 x1 x2 (h:false=true)=>ffE h) k (fun x0 x1 x2 x3 (h:false=true)=>ffE h) (fun x0 x1 x2 x3 x4 (h:false=true)=>ffE h) (fun x0 x1 x2 x3 (h:false=true)=>ffE h) (fun x0 x1 (h:false=true)=>ffE h) (fun x0 x1 (h:false=true)=>ffE h) (fun x0 x1 (h:false=true)=>ffE h) (fun x0 x1 x2 x3 (h:false=true)=>ffE h) (fun x0 x1 x2 x3 (h:false=true)=>ffE h) (fun x0 x1 x2 x3 (h:false=true)=>ffE h) (fun x0 x1 (h:false=true)=>ffE h) (fun x0 x1 x2 (h:false=true)=>ffE h) (fun x0 x1 x2 (h:false=true)=>ffE h) (fun x0 x1 x2 (h:false=true)=>ffE h) (fun x0 x1 (h:false=true)=>ffE h) (fun x0 x1 (h:false=true)=>ffE h) (fun x0 x1 (h:false=true)=>ffE h) (fun x0 x1 x2 (h:false=true)=>ffE h) (fun x0 x1 x2 x3 (h:false=true)=>ffE h) h
noncomputable def Afo (e:PySem.Expr)(f:Option PySem.Expr→Option PySem.Expr→Option PySem.Expr→Pos→Bool):Bool:=@PySem.Expr.casesOn (fun e=>Bool) e (fun x0 x1 x2=>false) (fun x0 x1 x2=>false) (fun x0 x1 x2 x3=>false) (fun x0 x1 x2=>false) (fun x0 x1 x2 x3=>false) (fun x0 x1 x2 x3=>false) (fun x0 x1 x2=>false) (fun x0 x1 x2=>false) (fun x0 x1 x2 x3=>false) (fun x0 x1 x2 x3=>false) (fun x0 x1 x2 x3 x4=>false) (fun x0 x1 x2 x3=>false) (fun x0 x1=>false) (fun x0 x1=>false) (fun x0 x1=>false) (fun x0 x1 x2 x3=>false) (fun x0 x1 x2 x3=>false) (fun x0 x1 x2 x3=>false) (fun x0 x1=>false) (fun x0 x1 x2=>false) (fun x0 x1 x2=>false) (fun x0 x1 x2=>false) (fun x0 x1=>false) (fun x0 x1=>false) (fun x0 x1=>false) (fun x0 x1 x2=>false) f
@[elab_as_elim] theorem Ajt {P:PySem.Expr→Prop}{e:PySem.Expr}{f:Option PySem.Expr→Option PySem.Expr→Option PySem.Expr→Pos→Bool}(h:Afo e f=true)(k:∀x0 x1 x2 x3,f x0 x1 x2 x3=true→P (.Slice x0 x1 x2 x3)):P e :=
 @PySem.Expr.casesOn (fun e=>Afo e f=true→P e) e (fun x0 x1 x2 (h:false=true)=>ffE h) (fun x0 x1 x2 (h:false=true)=>ffE h) (fun x0 x1 x2 x3 (h:false=true)=>ffE h) (fun x0 x1 x2 (h:false=true)=>ffE h) (fun x0 x1 x2 x3 (h:false=true)=>ffE h) (fun x0 x1 x2 x3 (h:false=true)=>ffE h) (fun x0 x1 x2 (h:false=true)=>ffE h) (fun x0 x1 x2 (h:false=true)=>ffE h) (fun x0 x1 x2 x3 (h:false=true)=>ffE h) (fun x0 x1 x2 x3 (h:false=true)=>ffE h) (fun x0 x1 x2 x3 x4 (h:false=true)=>ffE h) (fun x0 x1 x2 x3 (h:false=true)=>ffE h) (fun x0 x1 (h:false=true)=>ffE h) (fun x0 x1 (h:false=true)=>ffE h) (fun x0 x1 (h:false=true)=>ffE h) (fun x0 x1 x2 x3 (h:false=true)=>ffE h) (fun x0 x1 x2 x3 (h:false=true)=>ffE h) (fun x0 x1 x2 x3 (h:false=true)=>ffE h) (fun x0 x1 (h:false=true)=>ffE h) (fun x0 x1 x2 (h:false=true)=>ffE h) (fun x0 x1 x2 (h:false=true)=>ffE h) (fun x0 x1 x2 (h:false=true)=>ffE h) (fun x0 x1 (h:false=true)=>ffE h) (fun x0 x1 (h:false=true)=>ffE h) (fun x0 x1 (h:false=true)=>ffE h) (fun x0 x1 x2 (h:false=true)=>ffE h) k h
noncomputable def gSet (e:PySem.Expr)(f:List PySem.Expr→Nat→Pos→Bool):Bool:=@PySem.Expr.casesOn (fun e=>Bool) e (fun x0 x1 x2=>false) (fun x0 x1 x2=>false) (fun x0 x1 x2 x3=>false) (fun x0 x1 x2=>false) (fun x0 x1 x2 x3=>false) (fun x0 x1 x2 x3=>false) (fun x0 x1 x2=>false) f (fun x0 x1 x2 x3=>false) (fun x0 x1 x2 x3=>false) (fun x0 x1 x2 x3 x4=>false) (fun x0 x1 x2 x3=>false) (fun x0 x1=>false) (fun x0 x1=>false) (fun x0 x1=>false) (fun x0 x1 x2 x3=>false) (fun x0 x1 x2 x3=>false) (fun x0 x1 x2 x3=>false) (fun x0 x1=>false) (fun x0 x1 x2=>false) (fun x0 x1 x2=>false) (fun x0 x1 x2=>false) (fun x0 x1=>false) (fun x0 x1=>false) (fun x0 x1=>false) (fun x0 x1 x2=>false) (fun x0 x1 x2 x3=>false)
noncomputable def AkE (e:PySem.Expr)(f:PySem.Expr→Pos→Bool):Bool:=@PySem.Expr.casesOn (fun e=>Bool) e (fun x0 x1 x2=>false) (fun x0 x1 x2=>false) (fun x0 x1 x2 x3=>false) (fun x0 x1 x2=>false) (fun x0 x1 x2 x3=>false) (fun x0 x1 x2 x3=>false) (fun x0 x1 x2=>false) (fun x0 x1 x2=>false) (fun x0 x1 x2 x3=>false) (fun x0 x1 x2 x3=>false) (fun x0 x1 x2 x3 x4=>false) (fun x0 x1 x2 x3=>false) (fun x0 x1=>false) (fun x0 x1=>false) (fun x0 x1=>false) (fun x0 x1 x2 x3=>false) (fun x0 x1 x2 x3=>false) (fun x0 x1 x2 x3=>false) (fun x0 x1=>false) (fun x0 x1 x2=>false) (fun x0 x1 x2=>false) (fun x0 x1 x2=>false) f (fun x0 x1=>false) (fun x0 x1=>false) (fun x0 x1 x2=>false) (fun x0 x1 x2 x3=>false)
noncomputable def AjX (e:PySem.Expr)(f:PySem.Expr→List Comprehension→PySem.Scope→Pos→Bool):Bool:=@PySem.Expr.casesOn (fun e=>Bool) e (fun x0 x1 x2=>false) (fun x0 x1 x2=>false) (fun x0 x1 x2 x3=>false) (fun x0 x1 x2=>false) (fun x0 x1 x2 x3=>false) (fun x0 x1 x2 x3=>false) (fun x0 x1 x2=>false) (fun x0 x1 x2=>false) (fun x0 x1 x2 x3=>false) f (fun x0 x1 x2 x3 x4=>false) (fun x0 x1 x2 x3=>false) (fun x0 x1=>false) (fun x0 x1=>false) (fun x0 x1=>false) (fun x0 x1 x2 x3=>false) (fun x0 x1 x2 x3=>false) (fun x0 x1 x2 x3=>false) (fun x0 x1=>false) (fun x0 x1 x2=>false) (fun x0 x1 x2=>false) (fun x0 x1 x2=>false) (fun x0 x1=>false) (fun x0 x1=>false) (fun x0 x1=>false) (fun x0 x1 x2=>false) (fun x0 x1 x2 x3=>false)
noncomputable def AhN (e:PySem.Expr)(f:PySem.Expr→PySem.Expr→List Comprehension→PySem.Scope→Pos→Bool):Bool:=@PySem.Expr.casesOn (fun e=>Bool) e (fun x0 x1 x2=>false) (fun x0 x1 x2=>false) (fun x0 x1 x2 x3=>false) (fun x0 x1 x2=>false) (fun x0 x1 x2 x3=>false) (fun x0 x1 x2 x3=>false) (fun x0 x1 x2=>false) (fun x0 x1 x2=>false) (fun x0 x1 x2 x3=>false) (fun x0 x1 x2 x3=>false) f (fun x0 x1 x2 x3=>false) (fun x0 x1=>false) (fun x0 x1=>false) (fun x0 x1=>false) (fun x0 x1 x2 x3=>false) (fun x0 x1 x2 x3=>false) (fun x0 x1 x2 x3=>false) (fun x0 x1=>false) (fun x0 x1 x2=>false) (fun x0 x1 x2=>false) (fun x0 x1 x2=>false) (fun x0 x1=>false) (fun x0 x1=>false) (fun x0 x1=>false) (fun x0 x1 x2=>false) (fun x0 x1 x2 x3=>false)
noncomputable def AbG (e:PySem.Stmt)(f:List PySem.Expr→PySem.Expr→Pos→Bool):Bool:=@PySem.Stmt.casesOn (fun e=>Bool) e (fun x0 x1 x2 x3 x4 x5 x6 x7 x8 x9=>false) (fun x0 x1 x2 x3 x4 x5 x6 x7 x8 x9=>false) (fun x0 x1 x2 x3 x4 x5 x6 x7 x8 x9 x10=>false) (fun x0 x1=>false) (fun x0 x1=>false) f (fun x0 x1 x2 x3 x4 x5 x6=>false) (fun x0 x1 x2 x3=>false) (fun x0 x1 x2 x3 x4=>false) (fun x0 x1 x2 x3 x4=>false) (fun x0 x1 x2 x3 x4=>false) (fun x0 x1 x2 x3=>false) (fun x0 x1 x2 x3=>false) (fun x0 x1 x2=>false) (fun x0 x1 x2=>false) (fun x0 x1 x2=>false) (fun x0 x1 x2=>false) (fun x0 x1 x2 x3 x4=>false) (fun x0 x1 x2 x3 x4=>false) (fun x0 x1 x2=>false) (fun x0 x1=>false) (fun x0 x1 x2 x3=>false) (fun x0 x1=>false) (fun x0 x1=>false) (fun x0 x1=>false) (fun x0=>false) (fun x0=>false) (fun x0=>false)
@[elab_as_elim] theorem Abr {P:PySem.Stmt→Prop}{e:PySem.Stmt}{f:List PySem.Expr→PySem.Expr→Pos→Bool}(h:AbG e f=true)(k:∀x0 x1 x2,f x0 x1 x2=true→P (.Assign x0 x1 x2)):P e :=
 @PySem.Stmt.casesOn (fun e=>AbG e f=true→P e) e (fun x0 x1 x2 x3 x4 x5 x6 x7 x8 x9 (h:false=true)=>ffE h) (fun x0 x1 x2 x3 x4 x5 x6 x7 x8 x9 (h:false=true)=>ffE h) (fun x0 x1 x2 x3 x4 x5 x6 x7 x8 x9 x10 (h:false=true)=>ffE h) (fun x0 x1 (h:false=true)=>ffE h) (fun x0 x1 (h:false=true)=>ffE h) k (fun x0 x1 x2 x3 x4 x5 x6 (h:false=true)=>ffE h) (fun x0 x1 x2 x3 (h:false=true)=>ffE h) (fun x0 x1 x2 x3 x4 (h:false=true)=>ffE h) (fun x0 x1 x2 x3 x4 (h:false=true)=>ffE h) (fun x0 x1 x2 x3 x4 (h:false=true)=>ffE h) (fun x0 x1 x2 x3 (h:false=true)=>ffE h) (fun x0 x1 x2 x3 (h:false=true)=>ffE h) (fun x0 x1 x2 (h:false=true)=>ffE h) (fun x0 x1 x2 (h:false=true)=>ffE h) (fun x0 x1 x2 (h:false=true)=>ffE h) (fun x0 x1 x2 (h:false=true)=>ffE h) (fun x0 x1 x2 x3 x4 (h:false=true)=>ffE h) (fun x0 x1 x2 x3 x4 (h:false=true)=>ffE h) (fun x0 x1 x2 (h:false=true)=>ffE h) (fun x0 x1 (h:false=true)=>ffE h) (fun x0 x1 x2 x3 (h:false=true)=>ffE h) (fun x0 x1 (h:false=true)=>ffE h) (fun x0 x1 (h:false=true)=>ffE h) (fun x0 x1 (h:false=true)=>ffE h) (fun x0 (h:false=true)=>ffE h) (fun x0 (h:false=true)=>ffE h) (fun x0 (h:false=true)=>ffE h) h
noncomputable def AjV (e:PySem.Stmt)(f:PySem.Expr→Pos→Bool):Bool:=@PySem.Stmt.casesOn (fun e=>Bool) e (fun x0 x1 x2 x3 x4 x5 x6 x7 x8 x9=>false) (fun x0 x1 x2 x3 x4 x5 x6 x7 x8 x9=>false) (fun x0 x1 x2 x3 x4 x5 x6 x7 x8 x9 x10=>false) (fun x0 x1=>false) (fun x0 x1=>false) (fun x0 x1 x2=>false) (fun x0 x1 x2 x3 x4 x5 x6=>false) (fun x0 x1 x2 x3=>false) (fun x0 x1 x2 x3 x4=>false) (fun x0 x1 x2 x3 x4=>false) (fun x0 x1 x2 x3 x4=>false) (fun x0 x1 x2 x3=>false) (fun x0 x1 x2 x3=>false) (fun x0 x1 x2=>false) (fun x0 x1 x2=>false) (fun x0 x1 x2=>false) (fun x0 x1 x2=>false) (fun x0 x1 x2 x3 x4=>false) (fun x0 x1 x2 x3 x4=>false) (fun x0 x1 x2=>false) (fun x0 x1=>false) (fun x0 x1 x2 x3=>false) (fun x0 x1=>false) (fun x0 x1=>false) f (fun x0=>false) (fun x0=>false) (fun x0=>false)
@[elab_as_elim] theorem AgY {P:PySem.Stmt→Prop}{e:PySem.Stmt}{f:PySem.Expr→Pos→Bool}(h:AjV e f=true)(k:∀x0 x1,f x0 x1=true→P (.Expr x0 x1)):P e :=
 @PySem.Stmt.casesOn (fun e=>AjV e f=true→P e) e (fun x0 x1 x2 x3 x4 x5 x6 x7 x8 x9 (h:false=true)=>ffE h) (fun x0 x1 x2 x3 x4 x5 x6 x7 x8 x9 (h:false=true)=>ffE h) (fun x0 x1 x2 x3 x4 x5 x6 x7 x8 x9 x10 (h:false=true)=>ffE h) (fun x0 x1 (h:false=true)=>ffE h) (fun x0 x1 (h:false=true)=>ffE h) (fun x0 x1 x2 (h:false=true)=>ffE h) (fun x0 x1 x2 x3 x4 x5 x6 (h:false=true)=>ffE h) (fun x0 x1 x2 x3 (h:false=true)=>ffE h) (fun x0 x1 x2 x3 x4 (h:false=true)=>ffE h) (fun x0 x1 x2 x3 x4 (h:false=true)=>ffE h) (fun x0 x1 x2 x3 x4 (h:false=true)=>ffE h) (fun x0 x1 x2 x3 (h:false=true)=>ffE h) (fun x0 x1 x2 x3 (h:false=true)=>ffE h) (fun x0 x1 x2 (h:false=true)=>ffE h) (fun x0 x1 x2 (h:false=true)=>ffE h) (fun x0 x1 x2 (h:false=true)=>ffE h) (fun x0 x1 x2 (h:false=true)=>ffE h) (fun x0 x1 x2 x3 x4 (h:false=true)=>ffE h) (fun x0 x1 x2 x3 x4 (h:false=true)=>ffE h) (fun x0 x1 x2 (h:false=true)=>ffE h) (fun x0 x1 (h:false=true)=>ffE h) (fun x0 x1 x2 x3 (h:false=true)=>ffE h) (fun x0 x1 (h:false=true)=>ffE h) (fun x0 x1 (h:false=true)=>ffE h) k (fun x0 (h:false=true)=>ffE h) (fun x0 (h:false=true)=>ffE h) (fun x0 (h:false=true)=>ffE h) h
noncomputable def sIf (e:PySem.Stmt)(f:PySem.Expr→List PySem.Stmt→List PySem.Stmt→Pos→Bool):Bool:=@PySem.Stmt.casesOn (fun e=>Bool) e (fun x0 x1 x2 x3 x4 x5 x6 x7 x8 x9=>false) (fun x0 x1 x2 x3 x4 x5 x6 x7 x8 x9=>false) (fun x0 x1 x2 x3 x4 x5 x6 x7 x8 x9 x10=>false) (fun x0 x1=>false) (fun x0 x1=>false) (fun x0 x1 x2=>false) (fun x0 x1 x2 x3 x4 x5 x6=>false) (fun x0 x1 x2 x3=>false) (fun x0 x1 x2 x3 x4=>false) (fun x0 x1 x2 x3 x4=>false) (fun x0 x1 x2 x3 x4=>false) (fun x0 x1 x2 x3=>false) f (fun x0 x1 x2=>false) (fun x0 x1 x2=>false) (fun x0 x1 x2=>false) (fun x0 x1 x2=>false) (fun x0 x1 x2 x3 x4=>false) (fun x0 x1 x2 x3 x4=>false) (fun x0 x1 x2=>false) (fun x0 x1=>false) (fun x0 x1 x2 x3=>false) (fun x0 x1=>false) (fun x0 x1=>false) (fun x0 x1=>false) (fun x0=>false) (fun x0=>false) (fun x0=>false)
@[elab_as_elim] theorem Arh {P:PySem.Stmt→Prop}{e:PySem.Stmt}{f:PySem.Expr→List PySem.Stmt→List PySem.Stmt→Pos→Bool}(h:sIf e f=true)(k:∀x0 x1 x2 x3,f x0 x1 x2 x3=true→P (.If x0 x1 x2 x3)):P e :=
 @PySem.Stmt.casesOn (fun e=>sIf e f=true→P e) e (fun x0 x1 x2 x3 x4 x5 x6 x7 x8 x9 (h:false=true)=>ffE h) (fun x0 x1 x2 x3 x4 x5 x6 x7 x8 x9 (h:false=true)=>ffE h) (fun x0 x1 x2 x3 x4 x5 x6 x7 x8 x9 x10 (h:false=true)=>ffE h) (fun x0 x1 (h:false=true)=>ffE h) (fun x0 x1 (h:false=true)=>ffE h) (fun x0 x1 x2 (h:false=true)=>ffE h) (fun x0 x1 x2 x3 x4 x5 x6 (h:false=true)=>ffE h) (fun x0 x1 x2 x3 (h:false=true)=>ffE h) (fun x0 x1 x2 x3 x4 (h:false=true)=>ffE h) (fun x0 x1 x2 x3 x4 (h:false=true)=>ffE h) (fun x0 x1 x2 x3 x4 (h:false=true)=>ffE h) (fun x0 x1 x2 x3 (h:false=true)=>ffE h) k (fun x0 x1 x2 (h:false=true)=>ffE h) (fun x0 x1 x2 (h:false=true)=>ffE h) (fun x0 x1 x2 (h:false=true)=>ffE h) (fun x0 x1 x2 (h:false=true)=>ffE h) (fun x0 x1 x2 x3 x4 (h:false=true)=>ffE h) (fun x0 x1 x2 x3 x4 (h:false=true)=>ffE h) (fun x0 x1 x2 (h:false=true)=>ffE h) (fun x0 x1 (h:false=true)=>ffE h) (fun x0 x1 x2 x3 (h:false=true)=>ffE h) (fun x0 x1 (h:false=true)=>ffE h) (fun x0 x1 (h:false=true)=>ffE h) (fun x0 x1 (h:false=true)=>ffE h) (fun x0 (h:false=true)=>ffE h) (fun x0 (h:false=true)=>ffE h) (fun x0 (h:false=true)=>ffE h) h
noncomputable def AgQ (e:PySem.Stmt)(f:PySem.Expr→List PySem.Stmt→List PySem.Stmt→Pos→Bool):Bool:=@PySem.Stmt.casesOn (fun e=>Bool) e (fun x0 x1 x2 x3 x4 x5 x6 x7 x8 x9=>false) (fun x0 x1 x2 x3 x4 x5 x6 x7 x8 x9=>false) (fun x0 x1 x2 x3 x4 x5 x6 x7 x8 x9 x10=>false) (fun x0 x1=>false) (fun x0 x1=>false) (fun x0 x1 x2=>false) (fun x0 x1 x2 x3 x4 x5 x6=>false) (fun x0 x1 x2 x3=>false) (fun x0 x1 x2 x3 x4=>false) (fun x0 x1 x2 x3 x4=>false) (fun x0 x1 x2 x3 x4=>false) f (fun x0 x1 x2 x3=>false) (fun x0 x1 x2=>false) (fun x0 x1 x2=>false) (fun x0 x1 x2=>false) (fun x0 x1 x2=>false) (fun x0 x1 x2 x3 x4=>false) (fun x0 x1 x2 x3 x4=>false) (fun x0 x1 x2=>false) (fun x0 x1=>false) (fun x0 x1 x2 x3=>false) (fun x0 x1=>false) (fun x0 x1=>false) (fun x0 x1=>false) (fun x0=>false) (fun x0=>false) (fun x0=>false)
@[elab_as_elim] theorem Ai4 {P:PySem.Stmt→Prop}{e:PySem.Stmt}{f:PySem.Expr→List PySem.Stmt→List PySem.Stmt→Pos→Bool}(h:AgQ e f=true)(k:∀x0 x1 x2 x3,f x0 x1 x2 x3=true→P (.While x0 x1 x2 x3)):P e :=
 @PySem.Stmt.casesOn (fun e=>AgQ e f=true→P e) e (fun x0 x1 x2 x3 x4 x5 x6 x7 x8 x9 (h:false=true)=>ffE h) (fun x0 x1 x2 x3 x4 x5 x6 x7 x8 x9 (h:false=true)=>ffE h) (fun x0 x1 x2 x3 x4 x5 x6 x7 x8 x9 x10 (h:false=true)=>ffE h) (fun x0 x1 (h:false=true)=>ffE h) (fun x0 x1 (h:false=true)=>ffE h) (fun x0 x1 x2 (h:false=true)=>ffE h) (fun x0 x1 x2 x3 x4 x5 x6 (h:false=true)=>ffE h) (fun x0 x1 x2 x3 (h:false=true)=>ffE h) (fun x0 x1 x2 x3 x4 (h:false=true)=>ffE h) (fun x0 x1 x2 x3 x4 (h:false=true)=>ffE h) (fun x0 x1 x2 x3 x4 (h:false=true)=>ffE h) k (fun x0 x1 x2 x3 (h:false=true)=>ffE h) (fun x0 x1 x2 (h:false=true)=>ffE h) (fun x0 x1 x2 (h:false=true)=>ffE h) (fun x0 x1 x2 (h:false=true)=>ffE h) (fun x0 x1 x2 (h:false=true)=>ffE h) (fun x0 x1 x2 x3 x4 (h:false=true)=>ffE h) (fun x0 x1 x2 x3 x4 (h:false=true)=>ffE h) (fun x0 x1 x2 (h:false=true)=>ffE h) (fun x0 x1 (h:false=true)=>ffE h) (fun x0 x1 x2 x3 (h:false=true)=>ffE h) (fun x0 x1 (h:false=true)=>ffE h) (fun x0 x1 (h:false=true)=>ffE h) (fun x0 x1 (h:false=true)=>ffE h) (fun x0 (h:false=true)=>ffE h) (fun x0 (h:false=true)=>ffE h) (fun x0 (h:false=true)=>ffE h) h
noncomputable def sFor (e:PySem.Stmt)(f:PySem.Expr→PySem.Expr→List PySem.Stmt→List PySem.Stmt→Pos→Bool):Bool:=@PySem.Stmt.casesOn (fun e=>Bool) e (fun x0 x1 x2 x3 x4 x5 x6 x7 x8 x9=>false) (fun x0 x1 x2 x3 x4 x5 x6 x7 x8 x9=>false) (fun x0 x1 x2 x3 x4 x5 x6 x7 x8 x9 x10=>false) (fun x0 x1=>false) (fun x0 x1=>false) (fun x0 x1 x2=>false) (fun x0 x1 x2 x3 x4 x5 x6=>false) (fun x0 x1 x2 x3=>false) (fun x0 x1 x2 x3 x4=>false) f (fun x0 x1 x2 x3 x4=>false) (fun x0 x1 x2 x3=>false) (fun x0 x1 x2 x3=>false) (fun x0 x1 x2=>false) (fun x0 x1 x2=>false) (fun x0 x1 x2=>false) (fun x0 x1 x2=>false) (fun x0 x1 x2 x3 x4=>false) (fun x0 x1 x2 x3 x4=>false) (fun x0 x1 x2=>false) (fun x0 x1=>false) (fun x0 x1 x2 x3=>false) (fun x0 x1=>false) (fun x0 x1=>false) (fun x0 x1=>false) (fun x0=>false) (fun x0=>false) (fun x0=>false)
@[elab_as_elim] theorem Aqf {P:PySem.Stmt→Prop}{e:PySem.Stmt}{f:PySem.Expr→PySem.Expr→List PySem.Stmt→List PySem.Stmt→Pos→Bool}(h:sFor e f=true)(k:∀x0 x1 x2 x3 x4,f x0 x1 x2 x3 x4=true→P (.For x0 x1 x2 x3 x4)):P e :=
 @PySem.Stmt.casesOn (fun e=>sFor e f=true→P e) e (fun x0 x1 x2 x3 x4 x5 x6 x7 x8 x9 (h:false=true)=>ffE h) (fun x0 x1 x2 x3 x4 x5 x6 x7 x8 x9 (h:false=true)=>ffE h) (fun x0 x1 x2 x3 x4 x5 x6 x7 x8 x9 x10 (h:false=true)=>ffE h) (fun x0 x1 (h:false=true)=>ffE h) (fun x0 x1 (h:false=true)=>ffE h) (fun x0 x1 x2 (h:false=true)=>ffE h) (fun x0 x1 x2 x3 x4 x5 x6 (h:false=true)=>ffE h) (fun x0 x1 x2 x3 (h:false=true)=>ffE h) (fun x0 x1 x2 x3 x4 (h:false=true)=>ffE h) k (fun x0 x1 x2 x3 x4 (h:false=true)=>ffE h) (fun x0 x1 x2 x3 (h:false=true)=>ffE h) (fun x0 x1 x2 x3 (h:false=true)=>ffE h) (fun x0 x1 x2 (h:false=true)=>ffE h) (fun x0 x1 x2 (h:false=true)=>ffE h) (fun x0 x1 x2 (h:false=true)=>ffE h) (fun x0 x1 x2 (h:false=true)=>ffE h) (fun x0 x1 x2 x3 x4 (h:false=true)=>ffE h) (fun x0 x1 x2 x3 x4 (h:false=true)=>ffE h) (fun x0 x1 x2 (h:false=true)=>ffE h) (fun x0 x1 (h:false=true)=>ffE h) (fun x0 x1 x2 x3 (h:false=true)=>ffE h) (fun x0 x1 (h:false=true)=>ffE h) (fun x0 x1 (h:false=true)=>ffE h) (fun x0 x1 (h:false=true)=>ffE h) (fun x0 (h:false=true)=>ffE h) (fun x0 (h:false=true)=>ffE h) (fun x0 (h:false=true)=>ffE h) h
noncomputable def Adq (e:PySem.Stmt)(f:Option PySem.Expr→Pos→Bool):Bool:=@PySem.Stmt.casesOn (fun e=>Bool) e (fun x0 x1 x2 x3 x4 x5 x6 x7 x8 x9=>false) (fun x0 x1 x2 x3 x4 x5 x6 x7 x8 x9=>false) (fun x0 x1 x2 x3 x4 x5 x6 x7 x8 x9 x10=>false) f (fun x0 x1=>false) (fun x0 x1 x2=>false) (fun x0 x1 x2 x3 x4 x5 x6=>false) (fun x0 x1 x2 x3=>false) (fun x0 x1 x2 x3 x4=>false) (fun x0 x1 x2 x3 x4=>false) (fun x0 x1 x2 x3 x4=>false) (fun x0 x1 x2 x3=>false) (fun x0 x1 x2 x3=>false) (fun x0 x1 x2=>false) (fun x0 x1 x2=>false) (fun x0 x1 x2=>false) (fun x0 x1 x2=>false) (fun x0 x1 x2 x3 x4=>false) (fun x0 x1 x2 x3 x4=>false) (fun x0 x1 x2=>false) (fun x0 x1=>false) (fun x0 x1 x2 x3=>false) (fun x0 x1=>false) (fun x0 x1=>false) (fun x0 x1=>false) (fun x0=>false) (fun x0=>false) (fun x0=>false)
@[elab_as_elim] theorem Ad8 {P:PySem.Stmt→Prop}{e:PySem.Stmt}{f:Option PySem.Expr→Pos→Bool}(h:Adq e f=true)(k:∀x0 x1,f x0 x1=true→P (.Return x0 x1)):P e :=
 @PySem.Stmt.casesOn (fun e=>Adq e f=true→P e) e (fun x0 x1 x2 x3 x4 x5 x6 x7 x8 x9 (h:false=true)=>ffE h) (fun x0 x1 x2 x3 x4 x5 x6 x7 x8 x9 (h:false=true)=>ffE h) (fun x0 x1 x2 x3 x4 x5 x6 x7 x8 x9 x10 (h:false=true)=>ffE h) k (fun x0 x1 (h:false=true)=>ffE h) (fun x0 x1 x2 (h:false=true)=>ffE h) (fun x0 x1 x2 x3 x4 x5 x6 (h:false=true)=>ffE h) (fun x0 x1 x2 x3 (h:false=true)=>ffE h) (fun x0 x1 x2 x3 x4 (h:false=true)=>ffE h) (fun x0 x1 x2 x3 x4 (h:false=true)=>ffE h) (fun x0 x1 x2 x3 x4 (h:false=true)=>ffE h) (fun x0 x1 x2 x3 (h:false=true)=>ffE h) (fun x0 x1 x2 x3 (h:false=true)=>ffE h) (fun x0 x1 x2 (h:false=true)=>ffE h) (fun x0 x1 x2 (h:false=true)=>ffE h) (fun x0 x1 x2 (h:false=true)=>ffE h) (fun x0 x1 x2 (h:false=true)=>ffE h) (fun x0 x1 x2 x3 x4 (h:false=true)=>ffE h) (fun x0 x1 x2 x3 x4 (h:false=true)=>ffE h) (fun x0 x1 x2 (h:false=true)=>ffE h) (fun x0 x1 (h:false=true)=>ffE h) (fun x0 x1 x2 x3 (h:false=true)=>ffE h) (fun x0 x1 (h:false=true)=>ffE h) (fun x0 x1 (h:false=true)=>ffE h) (fun x0 x1 (h:false=true)=>ffE h) (fun x0 (h:false=true)=>ffE h) (fun x0 (h:false=true)=>ffE h) (fun x0 (h:false=true)=>ffE h) h
noncomputable def AhZ (e:PySem.Stmt)(f:Option PySem.Expr→Option PySem.Expr→Pos→Bool):Bool:=@PySem.Stmt.casesOn (fun e=>Bool) e (fun x0 x1 x2 x3 x4 x5 x6 x7 x8 x9=>false) (fun x0 x1 x2 x3 x4 x5 x6 x7 x8 x9=>false) (fun x0 x1 x2 x3 x4 x5 x6 x7 x8 x9 x10=>false) (fun x0 x1=>false) (fun x0 x1=>false) (fun x0 x1 x2=>false) (fun x0 x1 x2 x3 x4 x5 x6=>false) (fun x0 x1 x2 x3=>false) (fun x0 x1 x2 x3 x4=>false) (fun x0 x1 x2 x3 x4=>false) (fun x0 x1 x2 x3 x4=>false) (fun x0 x1 x2 x3=>false) (fun x0 x1 x2 x3=>false) (fun x0 x1 x2=>false) (fun x0 x1 x2=>false) (fun x0 x1 x2=>false) f (fun x0 x1 x2 x3 x4=>false) (fun x0 x1 x2 x3 x4=>false) (fun x0 x1 x2=>false) (fun x0 x1=>false) (fun x0 x1 x2 x3=>false) (fun x0 x1=>false) (fun x0 x1=>false) (fun x0 x1=>false) (fun x0=>false) (fun x0=>false) (fun x0=>false)
@[elab_as_elim] theorem Aj2 {P:PySem.Stmt→Prop}{e:PySem.Stmt}{f:Option PySem.Expr→Option PySem.Expr→Pos→Bool}(h:AhZ e f=true)(k:∀x0 x1 x2,f x0 x1 x2=true→P (.Raise x0 x1 x2)):P e :=
 @PySem.Stmt.casesOn (fun e=>AhZ e f=true→P e) e (fun x0 x1 x2 x3 x4 x5 x6 x7 x8 x9 (h:false=true)=>ffE h) (fun x0 x1 x2 x3 x4 x5 x6 x7 x8 x9 (h:false=true)=>ffE h) (fun x0 x1 x2 x3 x4 x5 x6 x7 x8 x9 x10 (h:false=true)=>ffE h) (fun x0 x1 (h:false=true)=>ffE h) (fun x0 x1 (h:false=true)=>ffE h) (fun x0 x1 x2 (h:false=true)=>ffE h) (fun x0 x1 x2 x3 x4 x5 x6 (h:false=true)=>ffE h) (fun x0 x1 x2 x3 (h:false=true)=>ffE h) (fun x0 x1 x2 x3 x4 (h:false=true)=>ffE h) (fun x0 x1 x2 x3 x4 (h:false=true)=>ffE h) (fun x0 x1 x2 x3 x4 (h:false=true)=>ffE h) (fun x0 x1 x2 x3 (h:false=true)=>ffE h) (fun x0 x1 x2 x3 (h:false=true)=>ffE h) (fun x0 x1 x2 (h:false=true)=>ffE h) (fun x0 x1 x2 (h:false=true)=>ffE h) (fun x0 x1 x2 (h:false=true)=>ffE h) k (fun x0 x1 x2 x3 x4 (h:false=true)=>ffE h) (fun x0 x1 x2 x3 x4 (h:false=true)=>ffE h) (fun x0 x1 x2 (h:false=true)=>ffE h) (fun x0 x1 (h:false=true)=>ffE h) (fun x0 x1 x2 x3 (h:false=true)=>ffE h) (fun x0 x1 (h:false=true)=>ffE h) (fun x0 x1 (h:false=true)=>ffE h) (fun x0 x1 (h:false=true)=>ffE h) (fun x0 (h:false=true)=>ffE h) (fun x0 (h:false=true)=>ffE h) (fun x0 (h:false=true)=>ffE h) h
noncomputable def sTry (e:PySem.Stmt)(f:List PySem.Stmt→List ExceptHandler→List PySem.Stmt→List PySem.Stmt→Pos→Bool):Bool:=@PySem.Stmt.casesOn (fun e=>Bool) e (fun x0 x1 x2 x3 x4 x5 x6 x7 x8 x9=>false) (fun x0 x1 x2 x3 x4 x5 x6 x7 x8 x9=>false) (fun x0 x1 x2 x3 x4 x5 x6 x7 x8 x9 x10=>false) (fun x0 x1=>false) (fun x0 x1=>false) (fun x0 x1 x2=>false) (fun x0 x1 x2 x3 x4 x5 x6=>false) (fun x0 x1 x2 x3=>false) (fun x0 x1 x2 x3 x4=>false) (fun x0 x1 x2 x3 x4=>false) (fun x0 x1 x2 x3 x4=>false) (fun x0 x1 x2 x3=>false) (fun x0 x1 x2 x3=>false) (fun x0 x1 x2=>false) (fun x0 x1 x2=>false) (fun x0 x1 x2=>false) (fun x0 x1 x2=>false) f (fun x0 x1 x2 x3 x4=>false) (fun x0 x1 x2=>false) (fun x0 x1=>false) (fun x0 x1 x2 x3=>false) (fun x0 x1=>false) (fun x0 x1=>false) (fun x0 x1=>false) (fun x0=>false) (fun x0=>false) (fun x0=>false)
@[elab_as_elim] theorem Aqj {P:PySem.Stmt→Prop}{e:PySem.Stmt}{f:List PySem.Stmt→List ExceptHandler→List PySem.Stmt→List PySem.Stmt→Pos→Bool}(h:sTry e f=true)(k:∀x0 x1 x2 x3 x4,f x0 x1 x2 x3 x4=true→P (.Try x0 x1 x2 x3 x4)):P e :=
 @PySem.Stmt.casesOn (fun e=>sTry e f=true→P e) e (fun x0 x1 x2 x3 x4 x5 x6 x7 x8 x9 (h:false=true)=>ffE h) (fun x0 x1 x2 x3 x4 x5 x6 x7 x8 x9 (h:false=true)=>ffE h) (fun x0 x1 x2 x3 x4 x5 x6 x7 x8 x9 x10 (h:false=true)=>ffE h) (fun x0 x1 (h:false=true)=>ffE h) (fun x0 x1 (h:false=true)=>ffE h) (fun x0 x1 x2 (h:false=true)=>ffE h) (fun x0 x1 x2 x3 x4 x5 x6 (h:false=true)=>ffE h) (fun x0 x1 x2 x3 (h:false=true)=>ffE h) (fun x0 x1 x2 x3 x4 (h:false=true)=>ffE h) (fun x0 x1 x2 x3 x4 (h:false=true)=>ffE h) (fun x0 x1 x2 x3 x4 (h:false=true)=>ffE h) (fun x0 x1 x2 x3 (h:false=true)=>ffE h) (fun x0 x1 x2 x3 (h:false=true)=>ffE h) (fun x0 x1 x2 (h:false=true)=>ffE h) (fun x0 x1 x2 (h:false=true)=>ffE h) (fun x0 x1 x2 (h:false=true)=>ffE h) (fun x0 x1 x2 (h:false=true)=>ffE h) k (fun x0 x1 x2 x3 x4 (h:false=true)=>ffE h) (fun x0 x1 x2 (h:false=true)=>ffE h) (fun x0 x1 (h:false=true)=>ffE h) (fun x0 x1 x2 x3 (h:false=true)=>ffE h) (fun x0 x1 (h:false=true)=>ffE h) (fun x0 x1 (h:false=true)=>ffE h) (fun x0 x1 (h:false=true)=>ffE h) (fun x0 (h:false=true)=>ffE h) (fun x0 (h:false=true)=>ffE h) (fun x0 (h:false=true)=>ffE h) h
noncomputable def Abz (e:PySem.Stmt)(f:Pos→Bool):Bool:=@PySem.Stmt.casesOn (fun e=>Bool) e (fun x0 x1 x2 x3 x4 x5 x6 x7 x8 x9=>false) (fun x0 x1 x2 x3 x4 x5 x6 x7 x8 x9=>false) (fun x0 x1 x2 x3 x4 x5 x6 x7 x8 x9 x10=>false) (fun x0 x1=>false) (fun x0 x1=>false) (fun x0 x1 x2=>false) (fun x0 x1 x2 x3 x4 x5 x6=>false) (fun x0 x1 x2 x3=>false) (fun x0 x1 x2 x3 x4=>false) (fun x0 x1 x2 x3 x4=>false) (fun x0 x1 x2 x3 x4=>false) (fun x0 x1 x2 x3=>false) (fun x0 x1 x2 x3=>false) (fun x0 x1 x2=>false) (fun x0 x1 x2=>false) (fun x0 x1 x2=>false) (fun x0 x1 x2=>false) (fun x0 x1 x2 x3 x4=>false) (fun x0 x1 x2 x3 x4=>false) (fun x0 x1 x2=>false) (fun x0 x1=>false) (fun x0 x1 x2 x3=>false) (fun x0 x1=>false) (fun x0 x1=>false) (fun x0 x1=>false) (fun x0=>false) (fun x0=>false) f
@[elab_as_elim] theorem AcA {P:PySem.Stmt→Prop}{e:PySem.Stmt}{f:Pos→Bool}(h:Abz e f=true)(k:∀x0,f x0=true→P (.Continue x0)):P e :=
 @PySem.Stmt.casesOn (fun e=>Abz e f=true→P e) e (fun x0 x1 x2 x3 x4 x5 x6 x7 x8 x9 (h:false=true)=>ffE h) (fun x0 x1 x2 x3 x4 x5 x6 x7 x8 x9 (h:false=true)=>ffE h) (fun x0 x1 x2 x3 x4 x5 x6 x7 x8 x9 x10 (h:false=true)=>ffE h) (fun x0 x1 (h:false=true)=>ffE h) (fun x0 x1 (h:false=true)=>ffE h) (fun x0 x1 x2 (h:false=true)=>ffE h) (fun x0 x1 x2 x3 x4 x5 x6 (h:false=true)=>ffE h) (fun x0 x1 x2 x3 (h:false=true)=>ffE h) (fun x0 x1 x2 x3 x4 (h:false=true)=>ffE h) (fun x0 x1 x2 x3 x4 (h:false=true)=>ffE h) (fun x0 x1 x2 x3 x4 (h:false=true)=>ffE h) (fun x0 x1 x2 x3 (h:false=true)=>ffE h) (fun x0 x1 x2 x3 (h:false=true)=>ffE h) (fun x0 x1 x2 (h:false=true)=>ffE h) (fun x0 x1 x2 (h:false=true)=>ffE h) (fun x0 x1 x2 (h:false=true)=>ffE h) (fun x0 x1 x2 (h:false=true)=>ffE h) (fun x0 x1 x2 x3 x4 (h:false=true)=>ffE h) (fun x0 x1 x2 x3 x4 (h:false=true)=>ffE h) (fun x0 x1 x2 (h:false=true)=>ffE h) (fun x0 x1 (h:false=true)=>ffE h) (fun x0 x1 x2 x3 (h:false=true)=>ffE h) (fun x0 x1 (h:false=true)=>ffE h) (fun x0 x1 (h:false=true)=>ffE h) (fun x0 x1 (h:false=true)=>ffE h) (fun x0 (h:false=true)=>ffE h) (fun x0 (h:false=true)=>ffE h) k h
noncomputable def AaS (e:PySem.Stmt)(f:Str→Arguments→List PySem.Stmt→List PySem.Expr→Option PySem.Expr→List TypeParam→PySem.Scope→Option PySem.Scope→Str→Pos→Bool):Bool:=@PySem.Stmt.casesOn (fun e=>Bool) e f (fun x0 x1 x2 x3 x4 x5 x6 x7 x8 x9=>false) (fun x0 x1 x2 x3 x4 x5 x6 x7 x8 x9 x10=>false) (fun x0 x1=>false) (fun x0 x1=>false) (fun x0 x1 x2=>false) (fun x0 x1 x2 x3 x4 x5 x6=>false) (fun x0 x1 x2 x3=>false) (fun x0 x1 x2 x3 x4=>false) (fun x0 x1 x2 x3 x4=>false) (fun x0 x1 x2 x3 x4=>false) (fun x0 x1 x2 x3=>false) (fun x0 x1 x2 x3=>false) (fun x0 x1 x2=>false) (fun x0 x1 x2=>false) (fun x0 x1 x2=>false) (fun x0 x1 x2=>false) (fun x0 x1 x2 x3 x4=>false) (fun x0 x1 x2 x3 x4=>false) (fun x0 x1 x2=>false) (fun x0 x1=>false) (fun x0 x1 x2 x3=>false) (fun x0 x1=>false) (fun x0 x1=>false) (fun x0 x1=>false) (fun x0=>false) (fun x0=>false) (fun x0=>false)
@[elab_as_elim] theorem AcK {P:PySem.Stmt→Prop}{e:PySem.Stmt}{f:Str→Arguments→List PySem.Stmt→List PySem.Expr→Option PySem.Expr→List TypeParam→PySem.Scope→Option PySem.Scope→Str→Pos→Bool}(h:AaS e f=true)(k:∀x0 x1 x2 x3 x4 x5 x6 x7 x8 x9,f x0 x1 x2 x3 x4 x5 x6 x7 x8 x9=true→P (.FunctionDef x0 x1 x2 x3 x4 x5 x6 x7 x8 x9)):P e :=
 @PySem.Stmt.casesOn (fun e=>AaS e f=true→P e) e k (fun x0 x1 x2 x3 x4 x5 x6 x7 x8 x9 (h:false=true)=>ffE h) (fun x0 x1 x2 x3 x4 x5 x6 x7 x8 x9 x10 (h:false=true)=>ffE h) (fun x0 x1 (h:false=true)=>ffE h) (fun x0 x1 (h:false=true)=>ffE h) (fun x0 x1 x2 (h:false=true)=>ffE h) (fun x0 x1 x2 x3 x4 x5 x6 (h:false=true)=>ffE h) (fun x0 x1 x2 x3 (h:false=true)=>ffE h) (fun x0 x1 x2 x3 x4 (h:false=true)=>ffE h) (fun x0 x1 x2 x3 x4 (h:false=true)=>ffE h) (fun x0 x1 x2 x3 x4 (h:false=true)=>ffE h) (fun x0 x1 x2 x3 (h:false=true)=>ffE h) (fun x0 x1 x2 x3 (h:false=true)=>ffE h) (fun x0 x1 x2 (h:false=true)=>ffE h) (fun x0 x1 x2 (h:false=true)=>ffE h) (fun x0 x1 x2 (h:false=true)=>ffE h) (fun x0 x1 x2 (h:false=true)=>ffE h) (fun x0 x1 x2 x3 x4 (h:false=true)=>ffE h) (fun x0 x1 x2 x3 x4 (h:false=true)=>ffE h) (fun x0 x1 x2 (h:false=true)=>ffE h) (fun x0 x1 (h:false=true)=>ffE h) (fun x0 x1 x2 x3 (h:false=true)=>ffE h) (fun x0 x1 (h:false=true)=>ffE h) (fun x0 x1 (h:false=true)=>ffE h) (fun x0 x1 (h:false=true)=>ffE h) (fun x0 (h:false=true)=>ffE h) (fun x0 (h:false=true)=>ffE h) (fun x0 (h:false=true)=>ffE h) h
noncomputable def vint (e:Value)(f:Int→Tok→Bool):Bool:=@Value.casesOn (fun e=>Bool) e false false false (fun x0=>false) f (fun x0 x1=>false) (fun x0 x1=>false) (fun x0 x1=>false) (fun x0=>false) (fun x0=>false) (fun x0=>false)
@[elab_as_elim] theorem Apd {P:Value→Prop}{e:Value}{f:Int→Tok→Bool}(h:vint e f=true)(k:∀x0 x1,f x0 x1=true→P (.int x0 x1)):P e :=
 @Value.casesOn (fun e=>vint e f=true→P e) e (fun (h:false=true)=>ffE h) (fun (h:false=true)=>ffE h) (fun (h:false=true)=>ffE h) (fun x0 (h:false=true)=>ffE h) k (fun x0 x1 (h:false=true)=>ffE h) (fun x0 x1 (h:false=true)=>ffE h) (fun x0 x1 (h:false=true)=>ffE h) (fun x0 (h:false=true)=>ffE h) (fun x0 (h:false=true)=>ffE h) (fun x0 (h:false=true)=>ffE h) h
noncomputable def vstr (e:Value)(f:Str→Tok→Bool):Bool:=@Value.casesOn (fun e=>Bool) e false false false (fun x0=>false) (fun x0 x1=>false) (fun x0 x1=>false) f (fun x0 x1=>false) (fun x0=>false) (fun x0=>false) (fun x0=>false)
@[elab_as_elim] theorem Apb {P:Value→Prop}{e:Value}{f:Str→Tok→Bool}(h:vstr e f=true)(k:∀x0 x1,f x0 x1=true→P (.str x0 x1)):P e :=
 @Value.casesOn (fun e=>vstr e f=true→P e) e (fun (h:false=true)=>ffE h) (fun (h:false=true)=>ffE h) (fun (h:false=true)=>ffE h) (fun x0 (h:false=true)=>ffE h) (fun x0 x1 (h:false=true)=>ffE h) (fun x0 x1 (h:false=true)=>ffE h) k (fun x0 x1 (h:false=true)=>ffE h) (fun x0 (h:false=true)=>ffE h) (fun x0 (h:false=true)=>ffE h) (fun x0 (h:false=true)=>ffE h) h
noncomputable def Anb (e:Value)(f:String→Bool):Bool:=@Value.casesOn (fun e=>Bool) e false false false (fun x0=>false) (fun x0 x1=>false) (fun x0 x1=>false) (fun x0 x1=>false) (fun x0 x1=>false) f (fun x0=>false) (fun x0=>false)
@[elab_as_elim] theorem Ahp {P:Value→Prop}{e:Value}{f:String→Bool}(h:Anb e f=true)(k:∀x0,f x0=true→P (.type x0)):P e :=
 @Value.casesOn (fun e=>Anb e f=true→P e) e (fun (h:false=true)=>ffE h) (fun (h:false=true)=>ffE h) (fun (h:false=true)=>ffE h) (fun x0 (h:false=true)=>ffE h) (fun x0 x1 (h:false=true)=>ffE h) (fun x0 x1 (h:false=true)=>ffE h) (fun x0 x1 (h:false=true)=>ffE h) (fun x0 x1 (h:false=true)=>ffE h) k (fun x0 (h:false=true)=>ffE h) (fun x0 (h:false=true)=>ffE h) h
noncomputable def AdE (e:Value)(f:String→Bool):Bool:=@Value.casesOn (fun e=>Bool) e false false false (fun x0=>false) (fun x0 x1=>false) (fun x0 x1=>false) (fun x0 x1=>false) (fun x0 x1=>false) (fun x0=>false) f (fun x0=>false)
@[elab_as_elim] theorem Age {P:Value→Prop}{e:Value}{f:String→Bool}(h:AdE e f=true)(k:∀x0,f x0=true→P (.builtin x0)):P e :=
 @Value.casesOn (fun e=>AdE e f=true→P e) e (fun (h:false=true)=>ffE h) (fun (h:false=true)=>ffE h) (fun (h:false=true)=>ffE h) (fun x0 (h:false=true)=>ffE h) (fun x0 x1 (h:false=true)=>ffE h) (fun x0 x1 (h:false=true)=>ffE h) (fun x0 x1 (h:false=true)=>ffE h) (fun x0 x1 (h:false=true)=>ffE h) (fun x0 (h:false=true)=>ffE h) k (fun x0 (h:false=true)=>ffE h) h
noncomputable def vref (e:Value)(f:Addr→Bool):Bool:=@Value.casesOn (fun e=>Bool) e false false false (fun x0=>false) (fun x0 x1=>false) (fun x0 x1=>false) (fun x0 x1=>false) (fun x0 x1=>false) (fun x0=>false) (fun x0=>false) f
@[elab_as_elim] theorem Ac2 {P:Value→Prop}{e:Value}{f:Addr→Bool}(h:vref e f=true)(k:∀x0,f x0=true→P (.ref x0)):P e :=
 @Value.casesOn (fun e=>vref e f=true→P e) e (fun (h:false=true)=>ffE h) (fun (h:false=true)=>ffE h) (fun (h:false=true)=>ffE h) (fun x0 (h:false=true)=>ffE h) (fun x0 x1 (h:false=true)=>ffE h) (fun x0 x1 (h:false=true)=>ffE h) (fun x0 x1 (h:false=true)=>ffE h) (fun x0 x1 (h:false=true)=>ffE h) (fun x0 (h:false=true)=>ffE h) (fun x0 (h:false=true)=>ffE h) k h
noncomputable def cint (e:Const)(f:Int→Bool):Bool:=@Const.casesOn (fun e=>Bool) e false (fun x0=>false) f (fun x0=>false) (fun x0 x1=>false) (fun x0=>false) (fun x0=>false) false
@[elab_as_elim] theorem Ahh {P:Const→Prop}{e:Const}{f:Int→Bool}(h:cint e f=true)(k:∀x0,f x0=true→P (.int x0)):P e :=
 @Const.casesOn (fun e=>cint e f=true→P e) e (fun (h:false=true)=>ffE h) (fun x0 (h:false=true)=>ffE h) k (fun x0 (h:false=true)=>ffE h) (fun x0 x1 (h:false=true)=>ffE h) (fun x0 (h:false=true)=>ffE h) (fun x0 (h:false=true)=>ffE h) (fun (h:false=true)=>ffE h) h
noncomputable def cstr (e:Const)(f:Str→Bool):Bool:=@Const.casesOn (fun e=>Bool) e false (fun x0=>false) (fun x0=>false) (fun x0=>false) (fun x0 x1=>false) f (fun x0=>false) false
@[elab_as_elim] theorem Ali {P:Const→Prop}{e:Const}{f:Str→Bool}(h:cstr e f=true)(k:∀x0,f x0=true→P (.str x0)):P e :=
 @Const.casesOn (fun e=>cstr e f=true→P e) e (fun (h:false=true)=>ffE h) (fun x0 (h:false=true)=>ffE h) (fun x0 (h:false=true)=>ffE h) (fun x0 (h:false=true)=>ffE h) (fun x0 x1 (h:false=true)=>ffE h) k (fun x0 (h:false=true)=>ffE h) (fun (h:false=true)=>ffE h) h
noncomputable def dseq (e:Data)(f:Array Value→Nat→Bool):Bool:=@Data.casesOn (fun e=>Bool) e false (fun x0=>false) f (fun x0 x1=>false) (fun x0 x1 x2=>false) (fun x0 x1=>false) (fun x0=>false) (fun x0=>false) (fun x0=>false) (fun x0=>false) false
@[elab_as_elim] theorem AgN {P:Data→Prop}{e:Data}{f:Array Value→Nat→Bool}(h:dseq e f=true)(k:∀x0 x1,f x0 x1=true→P (.seq x0 x1)):P e :=
 @Data.casesOn (fun e=>dseq e f=true→P e) e (fun (h:false=true)=>ffE h) (fun x0 (h:false=true)=>ffE h) k (fun x0 x1 (h:false=true)=>ffE h) (fun x0 x1 x2 (h:false=true)=>ffE h) (fun x0 x1 (h:false=true)=>ffE h) (fun x0 (h:false=true)=>ffE h) (fun x0 (h:false=true)=>ffE h) (fun x0 (h:false=true)=>ffE h) (fun x0 (h:false=true)=>ffE h) (fun (h:false=true)=>ffE h) h
noncomputable def Akt (e:Data)(f:FuncData→Bool):Bool:=@Data.casesOn (fun e=>Bool) e false (fun x0=>false) (fun x0 x1=>false) (fun x0 x1=>false) (fun x0 x1 x2=>false) (fun x0 x1=>false) (fun x0=>false) f (fun x0=>false) (fun x0=>false) false
@[elab_as_elim] theorem Amf {P:Data→Prop}{e:Data}{f:FuncData→Bool}(h:Akt e f=true)(k:∀x0,f x0=true→P (.func x0)):P e :=
 @Data.casesOn (fun e=>Akt e f=true→P e) e (fun (h:false=true)=>ffE h) (fun x0 (h:false=true)=>ffE h) (fun x0 x1 (h:false=true)=>ffE h) (fun x0 x1 (h:false=true)=>ffE h) (fun x0 x1 x2 (h:false=true)=>ffE h) (fun x0 x1 (h:false=true)=>ffE h) (fun x0 (h:false=true)=>ffE h) k (fun x0 (h:false=true)=>ffE h) (fun x0 (h:false=true)=>ffE h) (fun (h:false=true)=>ffE h) h
noncomputable def dcls (e:Data)(f:ClassData→Bool):Bool:=@Data.casesOn (fun e=>Bool) e false (fun x0=>false) (fun x0 x1=>false) (fun x0 x1=>false) (fun x0 x1 x2=>false) (fun x0 x1=>false) (fun x0=>false) (fun x0=>false) f (fun x0=>false) false
@[elab_as_elim] theorem AnZ {P:Data→Prop}{e:Data}{f:ClassData→Bool}(h:dcls e f=true)(k:∀x0,f x0=true→P (.cls x0)):P e :=
 @Data.casesOn (fun e=>dcls e f=true→P e) e (fun (h:false=true)=>ffE h) (fun x0 (h:false=true)=>ffE h) (fun x0 x1 (h:false=true)=>ffE h) (fun x0 x1 (h:false=true)=>ffE h) (fun x0 x1 x2 (h:false=true)=>ffE h) (fun x0 x1 (h:false=true)=>ffE h) (fun x0 (h:false=true)=>ffE h) (fun x0 (h:false=true)=>ffE h) k (fun x0 (h:false=true)=>ffE h) (fun (h:false=true)=>ffE h) h
noncomputable def AfL (e:FuncBody)(f:List PySem.Stmt→Bool):Bool:=@FuncBody.casesOn (fun e=>Bool) e f (fun x0=>false)
@[elab_as_elim] theorem AfZ {P:FuncBody→Prop}{e:FuncBody}{f:List PySem.Stmt→Bool}(h:AfL e f=true)(k:∀x0,f x0=true→P (.stmts x0)):P e :=
 @FuncBody.casesOn (fun e=>AfL e f=true→P e) e k (fun x0 (h:false=true)=>ffE h) h
noncomputable def lC {α:Type}(l:List α)(f:α→List α→Bool):Bool:=@List.casesOn α (fun l=>Bool) l false f
@[elab_as_elim] theorem lC_i {α:Type}{P:List α→Prop}{l:List α}{f:α→List α→Bool}(h:lC l f=true)(k:∀a r,f a r=true→P (a::r)):P l :=
 @List.casesOn α (fun l=>lC l f=true→P l) l (fun (h:false=true)=>ffE h) k h
noncomputable def lN {α:Type}(l:List α):Bool:=@List.casesOn α (fun l=>Bool) l true (fun a r=>false)
@[elab_as_elim] theorem lN_i {α:Type}{P:List α→Prop}{l:List α}(h:lN l=true)(k:P []):P l :=
 @List.casesOn α (fun l=>lN l=true→P l) l (fun h=>k) (fun a r (h:false=true)=>ffE h) h
noncomputable def oS {α:Type}(o:Option α)(f:α→Bool):Bool:=@Option.casesOn α (fun o=>Bool) o false f
@[elab_as_elim] theorem oS_i {α:Type}{P:Option α→Prop}{o:Option α}{f:α→Bool}(h:oS o f=true)(k:∀a,f a=true→P (some a)):P o :=
 @Option.casesOn α (fun o=>oS o f=true→P o) o (fun (h:false=true)=>ffE h) k h
noncomputable def oN {α:Type}(o:Option α):Bool:=@Option.casesOn α (fun o=>Bool) o true (fun a=>false)
@[elab_as_elim] theorem oN_i {α:Type}{P:Option α→Prop}{o:Option α}(h:oN o=true)(k:P none):P o :=
 @Option.casesOn α (fun o=>oN o=true→P o) o (fun h=>k) (fun a (h:false=true)=>ffE h) h
theorem oS_e {α:Type}{o:Option α}{f:α→Bool}{G:Prop}(h:oS o f=true)(k:∀a,o=some a→f a=true→G):G :=
 @Option.casesOn α (fun o'=>o=o'→oS o' f=true→G) o (fun e (h:false=true)=>ffE h) (fun a e h=>k a e h) rfl h
theorem aL {a b:Bool}(h:(a&&b)=true):a=true:=(Bool.and_eq_true_iff.mp h).1
theorem aR {a b:Bool}(h:(a&&b)=true):b=true:=(Bool.and_eq_true_iff.mp h).2
theorem a2 {a b:Bool}{G:Prop}(h:(a&&b)=true)(k:a=true→b=true→G):G:=k (aL h) (aR h)
theorem oR {a b:Bool}(h:(a||b)=true):a=true∨b=true:=Bool.or_eq_true_iff.mp h
theorem nT {b:Bool}(h:(!b)=true):b=false:=(Bool.not_eq_true' b).mp h
theorem bE {α:Type} [BEq α] [LawfulBEq α] {a b:α}(h:(a==b)=true):a=b:=eq_of_beq h
theorem bF {b:Bool}{G:Prop}(h:b=true)(q:b=false):G:=ffE (q.symm.trans h)
end Mine
end
section
namespace Mine
noncomputable def isSl (e:PySem.Expr):Bool:=Afo e fun a b c d=>true
noncomputable def Ac1 (e:PySem.Expr):Bool:=AkE e fun a b=>true
noncomputable def Ahn (e:PySem.Expr):Bool:=gSet e fun a b c=>true
noncomputable def Akg (e:PySem.Expr):Bool:=!AbJ e fun f args ks p=>V9 f (fun x p=>x == "super")&&(lN args&&lN ks)
noncomputable def bltT:List (Str×Value):=[
 ("len",.builtin "len"),("str",.type "str"),("max",.builtin "max"),("int",.type "int"),("tuple",.type "tuple"),("list",.type "list"),
 ("sorted",.builtin "sorted"),("dict",.type "dict"),("zip",.type "zip"),("isinstance",.builtin "isinstance"),("bool",.type "bool"),("Exception",.type "Exception")]
noncomputable def blt (x:Str):Option Value:=bltT.lookup x
theorem Amu:bltT.all (fun p=>decide (bootBuiltins p.1=some p.2)&&decide (p.1≠("__name__" : Str)))=true:=by decide +kernel
theorem AfB {x:Str}{v:Value}(e:blt x=some v):bootBuiltins x=some v∧x ≠ "__name__" :=
 have h:=List.all_eq_true.mp Amu _ (mem_of_lookup e)
 ⟨of_decide_eq_true (aL h),of_decide_eq_true (aR h)⟩
noncomputable def glob (K:Frag)(sc:PySem.Scope)(x:Str)(f:Value→Bool):Bool :=
 sc.names.lookup x==some .globalImplicit&&((x==("__debug__" : Str))==false&&oS (nsIn K mainGlobals x) fun o=>@Option.casesOn _ (fun o=>Bool) o (oS (blt x) f) f)
noncomputable def isTy (n:String)(v:Value):Bool:=Anb v fun m=>m==n
noncomputable def isBu (n:String)(v:Value):Bool:=AdE v fun m=>m==n
noncomputable def isRf (n:Nat)(v:Value):Bool:=vref v fun m=>m==n
noncomputable def tupF (K:Frag)(v:Value)(f:List Value→Bool):Bool:=vref v fun a=>oS (K.lookup a) fun o=>o.cls==.type "tuple" && dseq o.data fun xs n=>f xs.toList
end Mine
namespace Mine.Rk
noncomputable abbrev VB:=Value→Bool
noncomputable def Ait (v:Value):Bool:=v==.none
noncomputable def Ahl (b:Bool)(v:Value):Bool:=v==.bool b
noncomputable def AkQ (b:Int)(v:Value):Bool:=vint v fun c t=>c==b
noncomputable def Alc (b:List Nat)(v:Value):Bool:=vstr v fun c t=>b==c.cps.toList&&ascN b
noncomputable def Ak2 (K:Frag)(ds:List D)(r:List Value→Bool)(v:Value):Bool:=tupF K v r
noncomputable def AkB (v:Value):Bool:=false
noncomputable def Ald (v:Value):Bool:=vref v fun a=>true
noncomputable def Ahs (d:D)(ds:List D)(r:VB)(rs:List Value→Bool)(vs:List Value):Bool:=lC vs fun v us=>r v&&rs us
end Mine.Rk
namespace Mine
open Rk
noncomputable def Ap1 (K:Frag)(d:D)(v:Value):Bool:=@D.rec (fun d=>VB) (fun ds=>List Value→Bool) Ait Ahl AkQ Alc (Ak2 K) (fun ds r=>AkB) (fun l=>AkB) Ald lN Ahs d v
noncomputable def AhK (K:Frag)(ds:List D)(vs:List Value):Bool:=@D.rec_1 (fun d=>VB) (fun ds=>List Value→Bool) Ait Ahl AkQ Alc (Ak2 K) (fun ds r=>AkB) (fun l=>AkB) Ald lN Ahs ds vs
noncomputable def litC (c:Const)(d:D):Bool:=@D.casesOn (fun d=>Bool) d (c==.none) (fun b=>c==.bool b) (fun j=>cint c fun i=>i==j) (fun y=>cstr c fun x=>x.cps.toList==y&&ascN y) (fun ds=>false) (fun ds=>false) (fun l=>false) false
noncomputable def AeM (scope sc:PySem.Scope):PySem.Scope :=
 { scope with names:=scope.names.map fun (n,k)=>if (k==.free&&sc.kind==.function&&sc.names.lookup n==some .cell) then (n,.cell) else (n,k) }
noncomputable def chkN (sc:PySem.Scope)(NE:NEt)(i:Nat)(x:Str):Bool :=
 AaG NE x.cps.toList==some i&&(NE.all (fun p=>p.2 != i||p.1==x.cps.toList)&&(sc.names.lookup x==some .local||sc.names.lookup x==some .cell))
noncomputable def Agj (sc:PySem.Scope)(NE:NEt)(is:List Nat)(l:List PySem.Expr):Bool:=@List.rec Nat (fun is=>List PySem.Expr→Bool) lN (fun i is r l=>lC l fun e u=>V9 e (fun x p=>chkN sc NE i x)&&r u) is l
noncomputable def chkT (sc:PySem.Scope)(NE:NEt)(t:Tg)(e:PySem.Expr):Bool:=@Tg.casesOn (fun t=>Bool) t (fun i=>V9 e fun x p=>chkN sc NE i x) (fun is=>Abp e fun l k p=>Agj sc NE is l)
 (fun i is=>Abp e fun l k p=>lC l fun a r=>V9 a (fun x p=>chkN sc NE i x)&&lC r fun b r=>Abp b (fun l k p=>Agj sc NE is l)&&lN r)
noncomputable def nmL (e:PySem.Expr)(f:Str→NEt):NEt:=@PySem.Expr.casesOn (fun e=>NEt) e (fun x0 x1 x2=>[]) (fun x0 x1 x2=>[]) (fun x0 x1 x2 x3=>[]) (fun x0 x1 x2=>[]) (fun x0 x1 x2 x3=>[]) (fun x0 x1 x2 x3=>[]) (fun x0 x1 x2=>[]) (fun x0 x1 x2=>[]) (fun x0 x1 x2 x3=>[]) (fun x0 x1 x2 x3=>[]) (fun x0 x1 x2 x3 x4=>[]) (fun x0 x1 x2 x3=>[]) (fun x0 x1=>[]) (fun x0 x1=>[]) (fun x0 x1=>[]) (fun x0 x1 x2 x3=>[]) (fun x0 x1 x2 x3=>[]) (fun x0 x1 x2 x3=>[]) (fun x0 x1=>[]) (fun x0 x1 x2=>[]) (fun x0 x1 x2=>[]) (fun x0 x1 x2=>[]) (fun x0 x1=>[]) (fun x p=>f x) (fun x0 x1=>[]) (fun x0 x1 x2=>[]) (fun x0 x1 x2 x3=>[])
noncomputable def tupL (e:PySem.Expr):List PySem.Expr:=@PySem.Expr.casesOn (fun e=>List PySem.Expr) e (fun x0 x1 x2=>[]) (fun x0 x1 x2=>[]) (fun x0 x1 x2 x3=>[]) (fun x0 x1 x2=>[]) (fun x0 x1 x2 x3=>[]) (fun x0 x1 x2 x3=>[]) (fun x0 x1 x2=>[]) (fun x0 x1 x2=>[]) (fun x0 x1 x2 x3=>[]) (fun x0 x1 x2 x3=>[]) (fun x0 x1 x2 x3 x4=>[]) (fun x0 x1 x2 x3=>[]) (fun x0 x1=>[]) (fun x0 x1=>[]) (fun x0 x1=>[]) (fun x0 x1 x2 x3=>[]) (fun x0 x1 x2 x3=>[]) (fun x0 x1 x2 x3=>[]) (fun x0 x1=>[]) (fun x0 x1 x2=>[]) (fun x0 x1 x2=>[]) (fun x0 x1 x2=>[]) (fun x0 x1=>[]) (fun x0 x1=>[]) (fun x0 x1=>[]) (fun l k p=>l) (fun x0 x1 x2 x3=>[])
noncomputable def tgNs (is:List Nat)(l:List PySem.Expr):NEt:=@List.rec Nat (fun is=>List PySem.Expr→NEt) (fun l=>[]) (fun i is r l=>@List.casesOn PySem.Expr (fun l=>NEt) l [] fun e u=>nmL e (fun x=>[(x.cps.toList,i)])++r u) is l
noncomputable def tgN (t:Tg)(e:PySem.Expr):NEt:=@Tg.casesOn (fun t=>NEt) t (fun i=>nmL e fun x=>[(x.cps.toList,i)]) (fun is=>tgNs is (tupL e)) fun i is=>[]
noncomputable def Ada (sc:PySem.Scope)(e:PySem.Expr):Bool:=V9 e fun x p=>sc.names.lookup x==some .local
noncomputable def tgL (sc:PySem.Scope)(t:Tg)(e:PySem.Expr):Bool:=@Tg.casesOn (fun t=>Bool) t (fun i=>Ada sc e) (fun is=>Abp e fun l k p=>l.all (Ada sc)) fun i is=>false
noncomputable def neC (scope:PySem.Scope)(t:Tg)(target:PySem.Expr)(NE:NEt):NEt:=tgN t target++NE.filter fun p=>scope.names.contains (toS p.1,.free)
noncomputable def okC (scope sc:PySem.Scope):Bool :=
 scope.kind==.function&&scope.names.all fun p=>p.2 != .cell&&((scope.names.lookup p.1==some p.2)&&(p.2 != .free||(sc.names.lookup p.1==some .cell||sc.names.lookup p.1==some .free)))
noncomputable def cmOf (op:Cm):CmpOp:=@Cm.casesOn (fun op=>CmpOp) op .Eq .NotEq .Lt .LtE .Gt .GtE .Is .IsNot .In .NotIn
noncomputable def boOf (op:Bo):Operator:=@Bo.casesOn (fun op=>Operator) op .Add .Sub .Mult .FloorDiv .Mod .Pow .Add
noncomputable def bmOf (b:Bm):String:=@Bm.casesOn (fun b=>String) b "append" "pop" "pop" "extend" "get" "get" "pop" "update" "join"
noncomputable def exLN (e:Ex):Bool:=@Ex.casesOn (fun e=>Bool) e (fun d=>@D.casesOn (fun d=>Bool) d true (fun x=>false) (fun x=>false) (fun x=>false) (fun x=>false) (fun x=>false) (fun x=>false) false) (fun x=>false) (fun x=>false) (fun x=>false) (fun x=>false) (fun x=>false) (fun x y=>false) (fun x y=>false) (fun x y=>false) (fun x=>false) (fun x y=>false) (fun x y=>false) (fun x y=>false) (fun x y z=>false) (fun x y=>false) (fun x y=>false) (fun x y z=>false) (fun x y=>false) (fun x=>false) (fun x y z=>false) (fun x y z=>false) (fun x y z=>false) (fun x y z=>false) (fun x y z u=>false) (fun x y z u v=>false) false
noncomputable def isNone (e:PySem.Expr):Bool:=V8 e fun c k p=>c==.none
noncomputable def ApV (op:Cm)(b:Ex)(r:PySem.Expr):Bool:=@Cm.casesOn (fun op=>Bool) op true true true true true true (exLN b&&isNone r) (exLN b&&isNone r) true true
noncomputable def Ae8 (ks:List (List Nat))(l:List (Option PySem.Expr)):Bool:=@List.rec (List Nat) (fun ks=>List (Option PySem.Expr)→Bool) lN (fun k ks r l=>lC l fun o u=>oS o (fun e=>V8 e fun c n p=>cstr c fun x=>k==x.cps.toList&&ascN k)&&r u) ks l
noncomputable def biF (b:Bi):Value→Bool:=@Bi.casesOn (fun b=>Value→Bool) b (isBu "len") (isTy "str") (isBu "isinstance") (isBu "max") (isTy "int") (isTy "tuple") (isTy "list") (isBu "sorted") (isTy "dict") (isTy "dict") (isTy "list")
noncomputable def zipA (K:Frag)(sc:PySem.Scope)(f:List PySem.Expr→Bool)(args:List PySem.Expr):Bool:=lC args fun a r=>lN r&&AbJ a fun g l ks p=>V9 g (fun y p=>glob K sc y (isTy "zip"))&&(f l&&lN ks)
noncomputable def isbA (K:Frag)(sc:PySem.Scope)(f:List PySem.Expr→Bool)(args:List PySem.Expr):Bool:=lC args fun a r=>f [a]&&lC r fun b r=>lN r&&V9 b fun y p=>glob K sc y (isTy "bool")
noncomputable def biA (K:Frag)(sc:PySem.Scope)(f:List PySem.Expr→Bool)(args:List PySem.Expr)(b:Bi):Bool:=@Bi.casesOn (fun b=>Bool) b (f args) (f args) (isbA K sc f args) (f args) (f args) (f args) (f args) (f args) (f args) (zipA K sc f args) (zipA K sc f args)
noncomputable def isFn (K:Frag)(sc:PySem.Scope)(x:Str)(f:Nat):Bool:=oS fnT[f]? fun fi=>glob K sc x (isRf fi.addr)
noncomputable def clsA (c:Nat):Nat:=@Option.casesOn ClsI (fun o=>Nat) clsT[c]? 0 fun ci=>ci.addr
noncomputable def coK (scope sc:PySem.Scope)(NE:NEt)(t:Tg)(target:PySem.Expr):Bool:=okC scope sc&&(chkT (AeM scope sc) (neC scope t target NE) t target&&tgL (AeM scope sc) t target)
noncomputable def Akb (l:List PySem.Expr):Bool:=Nat.blt l.length 1000
noncomputable def Aoa (ce:PySem.Expr→Bool)(n:Str)(args:List PySem.Expr)(p:Pos)(g:PySem.Expr):Bool:=V1 g fun v x ap=>ce v&&(x==n&&(Akg v&&(ap.endLine==p.line&&Nat.blt args.length 30)))
noncomputable abbrev CE:=PySem.Scope→NEt→PySem.Expr→Bool
noncomputable abbrev CL:=PySem.Scope→NEt→List PySem.Expr→Bool
section
variable (K:Frag)
noncomputable def Ala (d:D):CE:=fun sc NE e=>V8 e (fun c k p=>litC c d)||V9 e fun x p=>glob K sc x (Ap1 K d)
noncomputable def AlB (k:Nat):CE:=fun sc NE e=>Abo e fun op v p=>op==.USub&&V8 v fun c n p=>cint c fun i=>i==(k:Int)
noncomputable def AlA (i:Nat):CE:=fun sc NE e=>V9 e fun x p=>AaG NE x.cps.toList==some i&&((x==("__debug__" : Str))==false&&(x==("__classdict__" : Str))==false)
noncomputable def Ak4 (es:Exs)(r:CL):CE:=fun sc NE e=>Abp e fun l k p=>r sc NE l&&Akb l
noncomputable def Adb (es:Exs)(r:CL):CE:=fun sc NE e=>AiA e fun l p=>r sc NE l&&Akb l
noncomputable def AfJ (ks:List (List Nat))(es:Exs)(r:CL):CE:=fun sc NE e=>Amg e fun keys vals p=>Ae8 ks keys&&(r sc NE vals&&(ks.length==vals.length&&Nat.ble ks.length 15))
noncomputable def Aia (a i:Ex)(ra ri:CE):CE:=fun sc NE e=>V2 e fun v sl p=>ra sc NE v&&(ri sc NE sl&&!isSl sl)
noncomputable def Af1 (es:Exs)(i:Ex)(r:CL)(ri:CE):CE:=fun sc NE e=>V2 e fun v sl p=>AiA v (fun l p=>r sc NE l&&Akb l)&&(ri sc NE sl&&!isSl sl)
noncomputable def Alr (a:Ex)(ra:CE):CE:=fun sc NE e=>V2 e fun v sl p=>ra sc NE v&&Afo sl fun lo up st p=>oN lo&&(oN up&&oS st fun u=>Abo u fun op w p=>op==.USub&&V8 w fun c n p=>cint c fun i=>i==1)
noncomputable def Ah1 (a:Ex)(n:Nat)(ra:CE):CE:=fun sc NE e=>V1 e fun v x p=>ra sc NE v&&(x==J2 n&&(dataN.contains n&&Akg v))
noncomputable def Adl (f:Nat)(es:Exs)(r:CL):CE:=fun sc NE e=>AbJ e fun g args ks p=>lN ks&&(V9 g (fun x p=>isFn K sc x f)&&r sc NE args)
noncomputable def AhX (a:Nat)(o:Ex)(es:Exs)(ro:CE)(r:CL):CE:=fun sc NE e=>AbJ e fun g args ks p=>lN ks&&(Aoa (ro sc NE) (J2 a) args p g&&(!dataN.contains a&&(Nat.blt a attrN.length&&r sc NE args)))
noncomputable def AlL (c:Nat)(es:Exs)(r:CL):CE:=fun sc NE e=>AbJ e fun g args ks p=>lN ks&&(V9 g (fun x p=>glob K sc x (isRf (clsA c)))&&(keepIn K (.ref (clsA c))&&r sc NE args))
noncomputable def Aps (b:Bi)(es:Exs)(r:CL):CE:=fun sc NE e=>AbJ e fun g args ks p=>lN ks&&(V9 g (fun x p=>glob K sc x (biF b))&&biA K sc (r sc NE) args b)
noncomputable def Aod (b:Bm)(o:Ex)(es:Exs)(ro:CE)(r:CL):CE:=fun sc NE e=>AbJ e fun g args ks p=>lN ks&&(Aoa (ro sc NE) (Str.ofString (bmOf b)) args p g&&r sc NE args)
noncomputable def AfH (a:Bool)(es:Exs)(r:CL):CE:=fun sc NE e=>AeH e fun op l p=>op==bT a BoolOp.And BoolOp.Or&&r sc NE l
noncomputable def AkX (a:Ex)(ra:CE):CE:=fun sc NE e=>Abo e fun op v p=>op==.Not&&ra sc NE v
noncomputable def AlN (op:Cm)(a b:Ex)(ra rb:CE):CE:=fun sc NE e=>AdI e fun l os rs p=>lC os fun o t=>lN t&&(o==cmOf op&&lC rs fun r u=>lN u&&(ra sc NE l&&(rb sc NE r&&((behindInMarks o r==false)&&ApV op b r))))
noncomputable def AlO (op:Bo)(a b:Ex)(ra rb:CE):CE:=fun sc NE e=>Aig e fun l o r p=>o==boOf op&&(ra sc NE l&&rb sc NE r)
noncomputable def Aln (c a b:Ex)(rc ra rb:CE):CE:=fun sc NE e=>Aiz e fun t l r p=>rc sc NE t&&(ra sc NE l&&rb sc NE r)
noncomputable def genK (f:Comprehension→Bool)(gs:List Comprehension):Bool:=lC gs fun g u=>lN u&&(g.is_async==0&&f g)
noncomputable def Ag1 (x:Ex)(t:Tg)(it:Ex)(rx ri:CE):CE:=fun sc NE e=>Aaa e fun elt gs scope p=>genK (fun g=>lN g.ifs&&(!Ahn g.iter&&(ri sc NE g.iter&&(coK scope sc NE t g.target&&rx (AeM scope sc) (neC scope t g.target NE) elt)))) gs
noncomputable def AfR (x:Ex)(t:Tg)(it c:Ex)(rx ri rc:CE):CE:=fun sc NE e=>Aaa e fun elt gs scope p=>genK (fun g=>lC g.ifs (fun f w=>lN w&&rc (AeM scope sc) (neC scope t g.target NE) f)&&(!Ahn g.iter&&(ri sc NE g.iter&&(coK scope sc NE t g.target&&rx (AeM scope sc) (neC scope t g.target NE) elt)))) gs
noncomputable def AfN (x:Ex)(i j:Nat)(a b:Ex)(rx ra rb:CE):CE:=fun sc NE e=>Aaa e fun elt gs scope p=>genK (fun g=>lN g.ifs&&(AbJ g.iter (fun z l ks p=>lN ks&&(V9 z (fun y p=>glob K sc y (isTy "zip"))&&lC l fun y r=>!Ac1 y&&(ra sc NE y&&lC r fun y r=>lN r&&(!Ac1 y&&rb sc NE y))))&&(coK scope sc NE (.p [i,j]) g.target&&rx (AeM scope sc) (neC scope (.p [i,j]) g.target NE) elt))) gs
noncomputable def AfC:CE:=fun sc NE e=>true
noncomputable def Ak8:CL:=fun sc NE l=>lN l
noncomputable def Ah5 (e:Ex)(es:Exs)(re:CE)(r:CL):CL:=fun sc NE l=>lC l fun x u=>!Ac1 x&&(re sc NE x&&r sc NE u)
noncomputable def chkE (e:Ex):CE:=@Ex.rec (fun e=>CE) (fun es=>CL) (Ala K) AlB AlA Ak4 Adb Adb AfJ Aia Af1 Alr Ah1 (Adl K) (Adl K) AhX (AlL K) (Aps K) Aod AfH AkX AlN AlO Aln Ag1 AfR (AfN K) AfC Ak8 Ah5 e
noncomputable def Aba (es:Exs):CL:=@Exs.rec (fun e=>CE) (fun es=>CL) (Ala K) AlB AlA Ak4 Adb Adb AfJ Aia Af1 Alr Ah1 (Adl K) (Adl K) AhX (AlL K) (Aps K) Aod AfH AkX AlN AlO Aln Ag1 AfR (AfN K) AfC Ak8 Ah5 es
end
noncomputable def AjM (hn:Hn)(l:List PySem.Stmt):Bool:=@Hn.casesOn (fun hn=>Bool) hn (lC l fun s r=>Abz s (fun p=>true)&&lN r) (fun d=>lC l fun s r=>Adq s (fun o p=>oS o fun e=>V8 e fun c k p=>litC c d)&&lN r) false
noncomputable def AgS (hn:Hn):Bool:=@Hn.casesOn (fun hn=>Bool) hn false (fun d=>false) true
noncomputable def hnd (h:PySem.ExceptHandler)(f:Option PySem.Expr→Option Str→List PySem.Stmt→Bool):Bool:=@PySem.ExceptHandler.casesOn (fun h=>Bool) h fun t nm b p=>f t nm b
noncomputable def Acw (e:PySem.Expr):Bool:=Aaa e (fun a b c d=>true)||(AjX e (fun a b c d=>true)||AhN e fun a b c d f=>true)
noncomputable def AjA (t v:PySem.Expr):Bool:=!Abp t (fun a b c=>true)||!Abp v (fun vs k p=>!(vs.all (foldedForSure 8)||!vs.all (constantsAlone 8)))
noncomputable def AkR (l:List Value):Bool:=l==[.type "Exception",.type "BaseException",.type "object"]
noncomputable def bmOk (l:List Value):Bool:=AkR l||lC l fun a r=>vref a (fun x=>true)&&AkR r
noncomputable def clsK (C:Nat)(o:Obj):Bool:=o.cls==.type "type" && (dcls o.data (fun c=>c.hasDict&&(!c.hasDel&&lC c.mro fun a bm=>a==.ref C&&bmOk bm)) &&
 lC o.slots.toList fun a l=>lC l fun a l=>lC l fun a l=>lC l fun a l=>lC l fun n l=>n==some (.builtin "Exception.__new__")&&lC l fun a l=>lN l)
noncomputable def chkX (K:Frag)(C:Nat):Bool:=oS (K.lookup C) (clsK C)&&(findIn K (.ref C) "__init__" == some (some (.ref 36))&&(typeIn K (.ref 36)==some (.type "function")&&(keepIn K (.ref C) &&
 (findIn K (.ref C) "__setattr__" == some (some (.builtin "object.__setattr__"))&&(findIn K (.ref C) "message" == some none&&findIn K (.ref C) "spot" == some none)))))
noncomputable abbrev CS:=PySem.Stmt→Bool
noncomputable abbrev CSs:=List PySem.Stmt→Bool
section
variable (K:Frag)(sc:PySem.Scope)(NE:NEt)
noncomputable def AkT (t:Tg)(e:Ex):CS:=fun s=>AbG s fun ts v p=>lC ts fun target r=>lN r&&(chkT sc NE t target&&(chkE K e sc NE v&&AjA target v))
noncomputable def AfT (o:Ex)(a:Nat)(e:Ex):CS:=fun s=>AbG s fun ts r p=>lC ts fun g u=>lN u&&(V1 g (fun v x p=>chkE K o sc NE v&&x==J2 a)&&(dataN.contains a&&(chkE K e sc NE r&&!Acw r)))
noncomputable def Afk (o i e:Ex):CS:=fun s=>AbG s fun ts r p=>lC ts fun g u=>lN u&&(V2 g (fun v sl p=>chkE K o sc NE v&&chkE K i sc NE sl)&&(chkE K e sc NE r&&!Acw r))
noncomputable def An1 (e:Ex):CS:=fun s=>AjV s fun v p=>chkE K e sc NE v&&!Acw v
noncomputable def Alq (c:Ex)(a b:Sts)(ra rb:CSs):CS:=fun s=>sIf s fun t x y p=>chkE K c sc NE t&&(ra x&&rb y)
noncomputable def Alh (c:Ex)(b:Sts)(rb:CSs):CS:=fun s=>AgQ s fun t x el p=>lN el&&(chkE K c sc NE t&&rb x)
noncomputable def AkV (t:Tg)(e:Ex)(b:Sts)(rb:CSs):CS:=fun s=>sFor s fun target it x el p=>lN el&&(!Ahn it&&(chkT sc NE t target&&(chkE K e sc NE it&&rb x)))
noncomputable def Als (e:Ex):CS:=fun s=>Adq s fun o p=>(oN o&&exLN e)||oS o fun v=>chkE K e sc NE v
noncomputable def AfE (c:Nat)(es:Exs):CS:=fun s=>AhZ s fun ex ca p=>oN ca&&oS ex fun x=>AbJ x fun g args ks p=>lN ks&&(V9 g (fun y p=>glob K sc y (isRf (clsA c)))&&(chkX K (clsA c)&&Aba K es sc NE args))
noncomputable def AlK (b:Sts)(k:Nat)(hn:Hn)(rb:CSs):CS:=fun s=>sTry s fun x hs el fb p=>lN el&&(lN fb&&(rb x&&lC hs fun h u=>lN u&&hnd h fun ty nm hb=>oS ty (fun z=>V9 z fun y p=>glob K sc y (isRf (clsA k)))&&((oN nm&&(k != 0&&(exmOne K (.ref (clsA k)) (.ref (clsA k))==some true&&AjM hn hb)))||oS nm fun x=>AgS hn)))
noncomputable def Ag3:CS:=fun s=>Abz s fun p=>true
noncomputable def ApB (ps:Arguments):Bool:=lN ps.posonlyargs&&(oN ps.vararg&&(lN ps.kwonlyargs&&(lN ps.kw_defaults&&(oN ps.kwarg&&(lN ps.defaults&&ps.args.all fun a=>oN a.annotation)))))
noncomputable def AgX (i:Nat):CS:=fun s=>AaS s fun name ps body ds ret tps scope ts bind p=>lN ds&&(oN ret&&(lN tps&&(oN ts&&(lC body (fun a r=>true)&&(ApB ps&&(bind==name&&(name==defN&&(sc.names.lookup defN==some .cell&&(scope.names.all (fun p=>p.2 != .free||(sc.names.lookup p.1==some .cell||sc.names.lookup p.1==some .free))&&chkN sc NE i name)))))))))
noncomputable def Afx:CS:=fun s=>true
noncomputable def AlG:CSs:=fun l=>lN l
noncomputable def Ahj (x:St)(xs:Sts)(r:CS)(rs:CSs):CSs:=fun l=>lC l fun s u=>r s&&rs u
noncomputable def chkS (x:St):CS:=@St.rec (fun x=>CS) (fun xs=>CSs) (AkT K sc NE) (AfT K sc NE) (Afk K sc NE) (An1 K sc NE) (Alq K sc NE) (Alh K sc NE) (AkV K sc NE) (Als K sc NE) (AfE K sc NE) (AlK K sc) Ag3 (AgX sc NE) Afx AlG Ahj x
noncomputable def AkD (xs:Sts):CSs:=@Sts.rec (fun x=>CS) (fun xs=>CSs) (AkT K sc NE) (AfT K sc NE) (Afk K sc NE) (An1 K sc NE) (Alq K sc NE) (Alh K sc NE) (AkV K sc NE) (Als K sc NE) (AfE K sc NE) (AlK K sc) Ag3 (AgX sc NE) Afx AlG Ahj xs
end
noncomputable def fdK (K:Frag)(a:Nat)(f:FuncData→Bool):Bool:=oS (K.lookup a) fun o=>o.cls==.type "function" && Akt o.data f
noncomputable def chkF (K:Frag)(fi:FnI)(names:List (List Nat))(fd:FuncData):Bool:=AfL fd.body fun body=>AkD K fd.scope (names.take fi.nv).zipIdx fi.body body
noncomputable def AfX (l:List (List Nat)):Bool:=@List.rec (List Nat) (fun l=>Bool) true (fun x l r=>!l.contains x&&r) l
noncomputable def chkD (K:Frag)(fi:FnI)(dv:Value):Bool:=(dv==.none&&fi.dfl.isEmpty)||tupF K dv fun vs=>AhK K fi.dfl vs
noncomputable def parK (ps:Arguments)(l:List (List Nat)):Bool:=lN ps.posonlyargs&&(oN ps.vararg&&(lN ps.kwonlyargs&&(oN ps.kwarg&&ps.args.map (fun a=>a.arg.cps.toList)==l)))
noncomputable def chkP (K:Frag)(fi:FnI)(names:List (List Nat))(fd:FuncData):Bool :=
 !fd.scope.isCoroutine&&(!fd.scope.isGenerator&&(fd.scope.kind==.function&&(fd.closure.isEmpty&&(fd.globals==mainGlobals&&(fd.builtins==builtinsNs&&(codeIn K fd.code fd.qualname &&
 (parK fd.params (names.take fi.np)&&(AfX (names.take fi.np)&&(Nat.ble fi.np fi.nv&&(Nat.ble fi.nv names.length&&(Nat.ble fi.dfl.length fi.np&&(chkD K fi fd.defaults &&
 ((names.take fi.np).all (fun x=>fd.scope.names.lookup (toS x)==some .local||fd.scope.names.lookup (toS x)==some .cell)&&(fd.scope.names.all (fun p=>p.2 != .free) &&
 ((fd.scope.names.lookup defN != some .cell&&fd.scope.names.lookup defN != some .free)||fd.code==.ref codA)))))))))))))))
noncomputable def Ag8 (K:Frag)(ci:ClsI)(x:Str)(f:Nat):Bool:=oS fnT[f]? fun fi=>findIn K (.ref ci.addr) x==some (some (.ref fi.addr))&&typeIn K (.ref fi.addr)==some (.type "function")
noncomputable def AnC (K:Frag)(ci:ClsI):Bool:=ci.isExc||(hasDictIn K ci.addr&&(plainGet K ci.addr (toS [])&&(plainOver K ci.addr&&(makesIn K ci.addr &&
 (findIn K (.ref ci.addr) "__setattr__" == some (some (.builtin "object.__setattr__")) &&
 (dataN.all (fun a=>findIn K (.ref ci.addr) (J2 a)==some none&&oS (takerIn K ci.addr (J2 a)) fun o=>oN o) &&
 (ci.meths.all (fun p=>Ag8 K ci (J2 p.1) p.2)&&(Ag8 K ci "__init__" ci.init&&keepIn K (.ref ci.addr)))))))))
end Mine
end
section
namespace Mine
noncomputable abbrev upd (s:Shared)(h:Heap)(t:Nat):Shared:={ s with heap:=h,toks:=t }
structure Kn (Γ:Wo)(FL:List Nat){α β:Type}(rel:Io→Heap→β→α→Prop)(ι:Io)(s:Shared)(Qd:α→Hp→Prop)(Xd:Nat→Hp→Prop)(Q:β→Shared→Prop)(E:Value→Shared→Prop):Prop where
 ok:∀v ι' h' tk' d σ',Ext FL [] ι ι' s.heap h'→HR Γ ι' σ' h'→rel ι' h' v d→Qd d σ'→Q v (upd s h' tk')
 ex:∀x ι' h' tk' c σ',Ext FL [] ι ι' s.heap h'→HR Γ ι' σ' h'→ExcR Γ.base s.heap h' x (clsA c) false→Xd c σ'→E (.ref x) (upd s h' tk')
section
variable {Γ:Wo}{FL:List Nat}{α β:Type}{rel:Io→Heap→β→α→Prop}{ι ι':Io}{s:Shared}{σ σ':Hp}{Qd:α→Hp→Prop}{Xd:Nat→Hp→Prop}{Q:β→Shared→Prop}{E:Value→Shared→Prop}{h':Heap}{tk':Nat}
theorem Kn.later (K:Kn Γ FL rel ι s Qd Xd Q E)(X:Ext FL [] ι ι' s.heap h'):Kn Γ FL rel ι' (upd s h' tk') Qd Xd Q E :=
 ⟨fun v ι₂ h₂ tk₂ d σ₂ e h r q=>K.ok v ι₂ h₂ tk₂ d σ₂ (X.trans e) h r q,fun v ι₂ h₂ tk₂ c σ₂ e h r q=>K.ex v ι₂ h₂ tk₂ c σ₂ (X.trans e) h (r.lower X.live) q⟩
variable {d:α}{v:β}
theorem Kn.now (K:Kn Γ FL rel ι s Qd Xd Q E)(H:HR Γ ι σ s.heap)(r:rel ι s.heap v d)(q:Qd d σ):Q v s:=K.ok v ι s.heap s.toks d σ Ext.refl H r q
theorem Kn.tick {t:Nat}(K:Kn Γ FL rel ι s Qd Xd Q E)(H:HR Γ ι σ s.heap)(r:rel ι s.heap v d)(q:Qd d σ):Q v { s with toks:=t }:=K.ok v ι s.heap t d σ Ext.refl H r q
theorem Kn.more {t:Nat}(K:Kn Γ FL rel ι s Qd Xd Q E)(H:HR Γ ι σ s.heap)(k:X0 s.heap h')(r:rel ι h' v d)(q:Qd d σ):Q v (upd s h' t):=K.ok v ι h' t d σ (Ext.more k) (H.more k) r q
end
section
variable {Γ:Wo}{FL:List Nat}{ι ι':Io}{s:Shared}{σ σ':Hp}{Qd:D→Hp→Prop}{Xd:Nat→Hp→Prop}{Q:Value→Shared→Prop}{E:Value→Shared→Prop}{h':Heap}{t:Nat}{vs:List Value}{ds:List D}
theorem AdK {T:String}{xs:Array Value}{n:Nat}{h:Heap}:IsSq T (h.push { cls:=.type T,data:=.seq xs n }) h.objs.size xs:=⟨_,Heap.get?_push_size _ rfl,rfl,_,rfl⟩
theorem Kn.tupNew (K:Kn Γ FL VR ι s Qd Xd Q E)(H:HR Γ ι σ s.heap)(r:VRs ι s.heap vs ds)(n:Nat)(q:Qd (.tup ds) σ):Q (.ref s.heap.objs.size) (upd s (s.heap.push { cls:=.type "tuple",data:=.seq vs.toArray n }) t) :=
 K.more H J1 (vTup AdK (H.fresh X1) (r.mono (Mo.more J1))) q
theorem Kn.lstNew (K:Kn Γ FL VR ι s Qd Xd Q E)(H:HR Γ ι σ s.heap)(r:VRs ι s.heap vs ds)(n:Nat)(q:Qd (.lst ds) σ):Q (.ref s.heap.objs.size) (upd s (s.heap.push { cls:=.type "list",data:=.seq vs.toArray n }) t) :=
 K.more H J1 (vLst AdK (H.fresh X1) (r.mono (Mo.more J1))) q
theorem Ac0 {a b:Nat}{G:Prop}(h:Of (a,none) b)(k:b=a→G):G:=h.elim k nope
theorem Kn.numNew {a:Nat}{o:AO}(K:Kn Γ FL VR ι s Qd Xd Q E)(H:HR Γ ι σ s.heap)(k:X0 s.heap h')(ha:s.heap.get? a=none)(hlo:mainGlobals < a)(r:Mo ι (ι.add (a,none)) s.heap h'→ObjR Γ (ι.add (a,none)) h' (a,none) o)
  (q:Qd (.loc σ.length) (σ++[o])):Q (.ref a) (upd s h' t) :=
 K.ok _ (ι.add (a,none)) h' t _ _ (Ext.alloc k fun b hb=>Ac0 hb fun z=>z▸ha) (H.alloc k (fun b hb=>Ac0 hb fun z=>⟨z▸ha,z▸hlo⟩) (fun z=>nope z) r) (vLoc (p:=(a,none)) (AeZ H)) q
theorem Kn.listNew (K:Kn Γ FL VR ι s Qd Xd Q E)(H:HR Γ ι σ s.heap)(r:VRs ι s.heap vs ds)(n:Nat)(q:Qd (.loc σ.length) (σ++[.list ds])):Q (.ref s.heap.objs.size) (upd s (s.heap.push { cls:=.type "list",data:=.seq vs.toArray n }) t) :=
 K.numNew (o:=.list ds) H J1 X1 H.mainLt (fun m=>LstO.mk (n:=n) (Heap.get?_push_size _ rfl) (r.mono m)) q
end
theorem hiE {G:Prop}(h:hi):G:=False.elim h
section
variable {P R G:Prop}{α:Type}
theorem X6 {b:Bool}(h:grd b P)(k:b=true→P→G):G:=@Bool.casesOn (fun b=>grd b P→(b=true→P→G)→G) b (fun h k=>hiE h) (fun h k=>k rfl h) h k
theorem Y6 {o:Option α}{K:α→Prop}(h:J9 o K)(k:∀a,o=some a→K a→G):G:=@Option.casesOn α (fun o=>J9 o K→(∀a,o=some a→K a→G)→G) o (fun h k=>hiE h) (fun a h k=>k a rfl h) h k
variable {Γ:Wo}{ι:Io}{σ:Hp}{h:Heap}{v:Value}{vs:List Value}{d:D}{as ds:List D}{C:Value→Prop}{CL:List Value→Prop}
@[elab_as_elim] theorem ApR (hw:nilK as P)(r:VRs ι h vs as)(k:P→CL []):CL vs:=@List.casesOn D (fun as=>nilK as P→VRs ι h vs as→CL vs) as (fun hw r=>LR.nil_i r (k hw)) (fun d ds hw r=>hiE hw) hw r
@[elab_as_elim] theorem AaB {K:D→Prop}(hw:oneK as K)(r:VRs ι h vs as)(k:∀v d,VR ι h v d→K d→CL [v]):CL vs :=
 @List.casesOn D (fun as=>oneK as K→VRs ι h vs as→CL vs) as (fun hw r=>hiE hw) (fun d ds hw r=>@List.casesOn D (fun ds=>oneK (d::ds) K→VRs ι h vs (d::ds)→CL vs) ds (fun hw r=>LR.one_i r fun v r=>k v d r hw) (fun e es hw r=>hiE hw) hw r) hw r
@[elab_as_elim] theorem AdQ {K:D→D→Prop}(hw:twoK as K)(r:VRs ι h vs as)(k:∀v u d e,VR ι h v d→VR ι h u e→K d e→CL [v,u]):CL vs :=
 @List.casesOn D (fun as=>twoK as K→VRs ι h vs as→CL vs) as (fun hw r=>hiE hw) (fun d ds hw r=>@List.casesOn D (fun ds=>twoK (d::ds) K→VRs ι h vs (d::ds)→CL vs) ds (fun hw r=>hiE hw) (fun e es hw r=>@List.casesOn D (fun es=>twoK (d::e::es) K→VRs ι h vs (d::e::es)→CL vs) es (fun hw r=>LR.two_i r fun v u r q=>k v u d e r q hw) (fun e es hw r=>hiE hw) hw r) hw r) hw r
@[elab_as_elim] theorem AaC {K:Int→Prop}(hw:intK d K)(r:VR ι h v d)(k:∀i t,K i→C (.int i t)):C v :=
 @D.casesOn (fun d=>intK d K→VR ι h v d→C v) d (fun w r=>hiE w) (fun x w r=>hiE w) (fun i w r=>r.int_i fun t=>k i t w) (fun x w r=>hiE w) (fun x w r=>hiE w) (fun x w r=>hiE w) (fun x w r=>hiE w) (fun w r=>hiE w) hw r
@[elab_as_elim] theorem AnE {K:Bool→Prop}(hw:AhB d K)(r:VR ι h v d)(k:∀b,K b→C (.bool b)):C v :=
 @D.casesOn (fun d=>AhB d K→VR ι h v d→C v) d (fun w r=>hiE w) (fun b w r=>r.bool_i (k b w)) (fun x w r=>hiE w) (fun x w r=>hiE w) (fun x w r=>hiE w) (fun x w r=>hiE w) (fun x w r=>hiE w) (fun w r=>hiE w) hw r
@[elab_as_elim] theorem Aje (hw:br d P R)(r:VR ι h v d)(kt:P→C (.bool true))(kf:R→C (.bool false)):C v :=
 @D.casesOn (fun d=>br d P R→VR ι h v d→C v) d (fun w r=>hiE w) (fun b=>@Bool.casesOn (fun b=>br (.bool b) P R→VR ι h v (.bool b)→C v) b (fun w r=>r.bool_i (kf w)) fun w r=>r.bool_i (kt w)) (fun x w r=>hiE w) (fun x w r=>hiE w) (fun x w r=>hiE w) (fun x w r=>hiE w) (fun x w r=>hiE w) (fun w r=>hiE w) hw r
@[elab_as_elim] theorem Acq {K:List Nat→Prop}(hw:strK d K)(r:VR ι h v d)(k:∀x t,ascN x=true→K x→C (.str (toS x) t)):C v :=
 @D.casesOn (fun d=>strK d K→VR ι h v d→C v) d (fun w r=>hiE w) (fun x w r=>hiE w) (fun x w r=>hiE w) (fun x w r=>r.str_i fun t a=>k x t a w) (fun x w r=>hiE w) (fun x w r=>hiE w) (fun x w r=>hiE w) (fun w r=>hiE w) hw r
@[elab_as_elim] theorem Ak0 {K:List D→Prop}(hw:tupK d K)(r:VR ι h v d)(k:∀a vs ds,IsSq "tuple" h a vs.toArray→a∉adr ι→VRs ι h vs ds→K ds→C (.ref a)):C v :=
 @D.casesOn (fun d=>tupK d K→VR ι h v d→C v) d (fun w r=>hiE w) (fun x w r=>hiE w) (fun x w r=>hiE w) (fun x w r=>hiE w) (fun ds w r=>r.tup_i fun a vs e n q=>k a vs ds e n q w) (fun x w r=>hiE w) (fun x w r=>hiE w) (fun w r=>hiE w) hw r
@[elab_as_elim] theorem Aph {K:List D→Prop}(hw:lstK d K)(r:VR ι h v d)(k:∀a vs ds,IsSq "list" h a vs.toArray→a∉adr ι→VRs ι h vs ds→K ds→C (.ref a)):C v :=
 @D.casesOn (fun d=>lstK d K→VR ι h v d→C v) d (fun w r=>hiE w) (fun x w r=>hiE w) (fun x w r=>hiE w) (fun x w r=>hiE w) (fun x w r=>hiE w) (fun ds w r=>r.lst_i fun a vs e n q=>k a vs ds e n q w) (fun x w r=>hiE w) (fun w r=>hiE w) hw r
@[elab_as_elim] theorem U4 {K:Nat→Prop}(hw:locK d K)(r:VR ι h v d)(k:∀l p,ι.nums[l]? = some p→K l→C (.ref p.1)):C v :=
 @D.casesOn (fun d=>locK d K→VR ι h v d→C v) d (fun w r=>hiE w) (fun x w r=>hiE w) (fun x w r=>hiE w) (fun x w r=>hiE w) (fun x w r=>hiE w) (fun x w r=>hiE w) (fun l w r=>r.loc_i fun p e=>k l p e w) (fun w r=>hiE w) hw r
@[elab_as_elim] theorem Aca {K:List D→Prop}(hw:X4 d K)(r:VR ι h v d)(k:∀a vs ds,IsSq "tuple" h a vs.toArray∨IsSq "list" h a vs.toArray→a∉adr ι→VRs ι h vs ds→K ds→C (.ref a)):C v :=
 @D.casesOn (fun d=>X4 d K→VR ι h v d→C v) d (fun w r=>hiE w) (fun x w r=>hiE w) (fun x w r=>hiE w) (fun x w r=>hiE w) (fun ds w r=>r.tup_i fun a vs e n q=>k a vs ds (.inl e) n q w) (fun ds w r=>r.lst_i fun a vs e n q=>k a vs ds (.inr e) n q w) (fun x w r=>hiE w) (fun w r=>hiE w) hw r
theorem Y8 {p:Nat×Option Nat}{l:Nat}{K:List D→Prop}{B:Nat×Option Nat→Prop}(H:HR Γ ι σ h)(e:ι.nums[l]? = some p)(hw:at_ σ l fun o=>W6 o K)
  (k:∀a vs n ds,ι.nums[l]? = some (a,none)→σ[l]? = some (.list ds)→h.get? a=some (X9 vs n)→VRs ι h vs ds→K ds→B (a,none)):B p :=
 Y6 hw fun o q w=>@AO.casesOn (fun o=>σ[l]? = some o→W6 o K→B p) o
  (fun ds q w=>LstO.casesOn (motive:=fun p x=>ι.nums[l]? = some p→B p) (show LstO ι h ds p from H.objE e q) (fun g r e=>k _ _ _ ds e q g r w) e) (fun x q w=>hiE w) (fun x y q w=>hiE w) (fun q w=>hiE w) q w
theorem V3 {p:Nat×Option Nat}{l:Nat}{K:List (List Nat×D)→Prop}{B:Nat×Option Nat→Prop}(H:HR Γ ι σ h)(e:ι.nums[l]? = some p)(hw:at_ σ l fun o=>W2 o K)
  (k:∀a es kvs,ι.nums[l]? = some (a,none)→σ[l]? = some (.dict kvs)→h.DictOf (PySem.strKind Γ.prog Γ.w) a es→Ents ι h es kvs→K kvs→B (a,none)):B p :=
 Y6 hw fun o q w=>@AO.casesOn (fun o=>σ[l]? = some o→W2 o K→B p) o (fun x q w=>hiE w)
  (fun ds q w=>DicO.casesOn (motive:=fun p x=>ι.nums[l]? = some p→B p) (show DicO Γ ι h ds p from H.objE e q) (fun g r e=>k _ _ ds e q g r w) e) (fun x y q w=>hiE w) (fun q w=>hiE w) q w
theorem AdM {p:Nat×Option Nat}{l:Nat}{K:Nat→List (Nat×D)→Prop}{B:Nat×Option Nat→Prop}(H:HR Γ ι σ h)(e:ι.nums[l]? = some p)(hw:at_ σ l fun o=>Ack o K)
  (k:∀a dx c ci es n fs,ι.nums[l]? = some (a,some dx)→σ[l]? = some (.inst c fs)→clsT[c]? = some ci→ci.isExc=false→h.get? a=some (instObj ci.addr dx)→h.get? dx=some (dictOf es n)→Flds Γ.w.params ι h es fs→K c fs→B (a,some dx)):B p :=
 Y6 hw fun o q w=>@AO.casesOn (fun o=>σ[l]? = some o→Ack o K→B p) o (fun x q w=>hiE w) (fun x q w=>hiE w)
  (fun c fs q w=>InsO.casesOn (motive:=fun p x=>ι.nums[l]? = some p→B p) (show InsO Γ ι h c fs p from H.objE e q) (fun c1 c2 g1 g2 r e=>k _ _ c _ _ _ fs e q c1 c2 g1 g2 r w) e) (fun q w=>hiE w) q w
theorem AeD {l:Nat}(hw:at_ σ l fun o=>tabK o P):σ[l]? = some .tab∧P :=
 Y6 hw fun o q w=>@AO.casesOn (fun o=>σ[l]? = some o→tabK o P→σ[l]? = some .tab∧P) o (fun x q w=>hiE w) (fun x q w=>hiE w) (fun x y q w=>hiE w) (fun q w=>⟨q,w⟩) q w
theorem tab0 (H:HR Γ ι σ h){l:Nat}(q:σ[l]? = some .tab):ι.nums[l]? = some (tabA,none)∧TabO h (tabA,none) :=
 (H.obj l _ q).elim fun p z=>TabO.casesOn (motive:=fun p x=>ι.nums[l]? = some p→ι.nums[l]? = some (tabA,none)∧TabO h (tabA,none)) (show TabO h p from z.2) (fun a b e=>⟨e,.mk a b⟩) z.1
@[elab_as_elim] theorem Ak3 {K:List (List Nat×D)→Prop}(H:HR Γ ι σ h)(hw:dicK σ d K)(r:VR ι h v d)
  (k:∀(l a:Nat) (es:List (Str×Value)) (kvs:List (List Nat×D)),ι.nums[l]? = some (a,none)→σ[l]? = some (.dict kvs)→h.DictOf (PySem.strKind Γ.prog Γ.w) a es→Ents ι h es kvs→K kvs→C (.ref a)):C v :=
 U4 hw r fun l p e w=>V3 (B:=fun p=>C (.ref p.1)) H e w fun a es kvs=>k l a es kvs
theorem Z8 {a:Addr}{n:Nat}(e:h.get? a=some (X9 vs n)):IsSq "list" h a vs.toArray:=⟨_,e,rfl,n,rfl⟩
@[elab_as_elim] theorem Aj1 {K:List D→Prop}(H:HR Γ ι σ h)(hw:lsK σ d K)(r:VR ι h v d)(k:∀a vs ds,IsSq "list" h a vs.toArray→VRs ι h vs ds→K ds→C (.ref a)):C v :=
 @D.casesOn (fun d=>lsK σ d K→VR ι h v d→C v) d (fun w r=>hiE w) (fun x w r=>hiE w) (fun x w r=>hiE w) (fun x w r=>hiE w) (fun ds w r=>hiE w) (fun ds w r=>r.lst_i fun a vs e n q=>k a vs ds e q w)
  (fun l w r=>r.loc_i fun p e=>Y8 (B:=fun p=>C (.ref p.1)) H e w fun a vs n ds x y g r w=>k a vs ds (Z8 g) r w) (fun w r=>hiE w) hw r
@[elab_as_elim] theorem AiO {K:List D→Prop}(H:HR Γ ι σ h)(hw:seqK σ d K)(r:VR ι h v d)(k:∀a vs ds,(IsSq "tuple" h a vs.toArray∧a∉adr ι)∨IsSq "list" h a vs.toArray→VRs ι h vs ds→K ds→C (.ref a)):C v :=
 @D.casesOn (fun d=>seqK σ d K→VR ι h v d→C v) d (fun w r=>hiE w) (fun x w r=>hiE w) (fun x w r=>hiE w) (fun x w r=>hiE w) (fun ds w r=>r.tup_i fun a vs e n q=>k a vs ds (.inl ⟨e,n⟩) q w) (fun ds w r=>r.lst_i fun a vs e n q=>k a vs ds (.inr e) q w)
  (fun l w r=>r.loc_i fun p e=>Y8 (B:=fun p=>C (.ref p.1)) H e w fun a vs n ds x y g r w=>k a vs ds (.inr (Z8 g)) r w) (fun w r=>hiE w) hw r
end
theorem Y2 {a b:Nat}(h:Nat.ble a b=true):a≤b:=Nat.le_of_ble_eq_true h
theorem AcE {a b:Nat}(h:Nat.blt a b=true):a < b:=Nat.le_of_ble_eq_true h
theorem AqW {ds:List D}{i:Int}{d:D}{G:Prop}(e:idx ds i=some d)(k0:0≤i→ds.length≤100000→ds[i.toNat]? = some d→G)(k1:i < 0→-(ds.length:Int)≤i→ds.length≤100000→ds[(i+ds.length).toNat]? = some d→G):G:=by
 unfold idx at e
 by_cases hm:ds.length≤most
 ·rw [if_pos hm] at e
  by_cases h0:0≤i
  ·rw [if_pos h0] at e
   exact k0 h0 hm e
  ·rw [if_neg h0] at e
   by_cases h1:-i≤(ds.length:Int)
   ·rw [if_pos h1,Int.add_comm] at e
    exact k1 (Int.not_le.mp h0) (Int.neg_le_of_neg_le h1) hm e
   ·rw [if_neg h1] at e;exact nope e
 ·rw [if_neg hm] at e;exact nope e
theorem toNat_lt {i:Int}{n:Nat}(h0:0≤i)(h:i.toNat < n):i < n:=(Int.toNat_lt h0).mp h
theorem Am7 {i:Int}{n:Nat}(hn:n≤100000)(h:i < n):i < 2 ^ 63:=Int.lt_of_lt_of_le h (Int.le_trans (Int.ofNat_le.mpr hn) (by decide))
theorem Ajo {i:Int}{n:Nat}(hn:n≤100000)(h:-(n:Int)≤i):-(2 ^ 63)≤i:=Int.le_trans (by decide) (Int.le_trans (Int.neg_le_neg (Int.ofNat_le.mpr hn)) h)
theorem Abd {α:Type}{l:List α}{k:Nat}{a:α}(h:l[k]? = some a):k < l.length:=(List.getElem?_eq_some_iff.mp h).1
section
variable {Γ:Wo}{FL:List Nat}{ι:Io}{s:Shared}{σ:Hp}{Qd:D→Hp→Prop}{Xd:Nat→Hp→Prop}{Q:Value→Shared→Prop}{E:Value→Shared→Prop}{A:Around}{v u:Value}{a i:D}
theorem Aev {slice:PySem.Expr}{o i:Value}(h:isSl slice=false):subscripted slice false o i=operate [o,i] (getItem o i):=by
 cases slice<;>first|rfl|exact ffE h.symm
theorem AfG {T id:String}{value slice:PySem.Expr}{a:Addr}{vs:List Value}{ds:List D}{d:D}{k:Int}{t:Tok}(hsl:isSl slice=false)(hT:s.TypeIs (.ref a) T)(hl:typeLookup (.type T) "__getitem__" = pure (some (.builtin id)))(r:VRs ι s.heap vs ds)(e:idx ds k=some d)
  (g0:∀x,0≤k→k < 2 ^ 63→vs.toArray[k.toNat]? = some x→k.toNat < vs.toArray.size→Q x s→wpAny Γ.M A (getItem (.ref a) (.int k t)) Q E s)
  (g1:∀x,k < 0→-(vs.toArray.size:Int)≤k→-(2 ^ 63)≤k→vs.toArray[(k+vs.toArray.size).toNat]? = some x→(k+vs.toArray.size).toNat < vs.toArray.size→Q x s→wpAny Γ.M A (getItem (.ref a) (.int k t)) Q E s)
  (h:∀v,VR ι s.heap v d→Q v s):wpAny Γ.M A (subscriptTail value slice (.ref a) (.int k t)) Q E s:=by
 have hl':ds.length=vs.toArray.size:=r.length.symm
 refine tail_any hT hl (AqW e (fun h0 hm e=>?_) fun h0 h1 hm e=>?_) (Aev hsl)
 ·exact r.get e fun x hx rx=>g0 x h0 (Am7 hm (toNat_lt h0 (Abd e))) ((List.getElem?_toArray ..).trans hx) (Abd hx) (h x rx)
 ·rw [hl'] at e h1
  exact r.get e fun x hx rx=>g1 x h0 h1 (Ajo (hl'▸hm) h1) ((List.getElem?_toArray ..).trans hx) (Abd hx) (h x rx)
theorem Ad9 {value slice:PySem.Expr}{a:Addr}{vs:List Value}{ds:List D}{d:D}{k:Int}{t:Tok}(hsl:isSl slice=false)(hl:IsSq "list" s.heap a vs.toArray)(r:VRs ι s.heap vs ds)(e:idx ds k=some d)
  (h:∀v,VR ι s.heap v d→Q v s):wpAny Γ.M A (subscriptTail value slice (.ref a) (.int k t)) Q E s :=
 AfG hsl (show s.heap.IsList a _ from hl).typeIs PySem.list_getitem_lookup r e (fun x h0 h1 hx _ q=>wpAny_getItem_list hl h0 h1 hx q) (fun x h0 h1 h2 hx _ q=>wpAny_getItem_list_neg hl h0 h1 h2 hx q) h
theorem seqI {k:Int}{n:Nat}(h0:0≤k)(h:k.toNat < n):seqIndex? k n=some k.toNat:=by
 unfold seqIndex?
 rw [if_neg (Int.not_lt.mpr h0)]
 simp [h0,(Int.toNat_lt h0).mp h]
theorem seqJ {k:Int}{n:Nat}(h0:k < 0)(h1:-(n:Int)≤k)(h:(k+n).toNat < n):seqIndex? k n=some (k+n).toNat:=by
 unfold seqIndex?
 rw [if_pos h0]
 have h2:0≤k+(n:Int):=by omega
 simp only [h2,(Int.toNat_lt h2).mp h,decide_true,Bool.and_self,if_true]
theorem Aj8 {value slice:PySem.Expr}{a:Addr}{vs:List Value}{ds:List D}{d:D}{k:Int}{t:Tok}(hsl:isSl slice=false)(hl:IsSq "tuple" s.heap a vs.toArray)(r:VRs ι s.heap vs ds)(e:idx ds k=some d)
  (h:∀v,VR ι s.heap v d→Q v s):wpAny Γ.M A (subscriptTail value slice (.ref a) (.int k t)) Q E s :=
 AfG hsl (show IsTup s.heap a _ from hl).typeIs slot_tuple_getitem.lookup r e (fun x h0 h1 hx hj q=>getItem_tuple (show IsTup s.heap a _ from hl) (Int.le_trans (by decide) h0) h1 (seqI h0 hj) hx q)
  (fun x h0 h1 h2 hx hj q=>getItem_tuple (show IsTup s.heap a _ from hl) h2 (Int.lt_trans h0 (by decide)) (seqJ h0 h1 hj) hx q) h
theorem AhE (x y:List Nat):(toS x==toS y)=sEq x y:=by
 have:∀x y,sEq x y=true↔x=y:=by
  intro x
  induction x with
  |nil=>intro y;cases y<;>simp [sEq]
  |cons a x ih=>intro y;cases y with
   |nil=>simp [sEq]
   |cons b y =>
    show ((a==b)&&sEq x y)=true↔_
    rw [Bool.and_eq_true,ih y];simp
 by_cases h:x=y
 ·subst h;rw [beq_self_eq_true,(this x x).mpr rfl]
 ·rw [beq_eq_false_iff_ne.mpr fun z=>h (Adc z),Bool.eq_false_iff.mpr fun z=>h ((this x y).mp z)]
theorem AbU (x y:List Nat):(toS x=toS y)=(sEq x y=true):=by rw [←AhE,beq_iff_eq]
theorem Ents.find {h:Heap}{es:List (Str×Value)}{kvs:List (List Nat×D)}(r:Ents ι h es kvs)(x:List Nat) :
  (∃v d,valueAt es (toS x)=some v∧find kvs x=some d∧VR ι h v d)∨(valueAt es (toS x)=none∧find kvs x=none):=by
 refine LR.ind r (.inr ⟨rfl,rfl⟩) fun e es f kvs a r ih=>?_
 refine EntR.casesOn (motive:=fun e z=>(∃v d,valueAt (e::es) (toS x)=some v∧Mine.find (f::kvs) x=some d∧VR ι h v d)∨(valueAt (e::es) (toS x)=none∧Mine.find (f::kvs) x=none)) a ?_
 intro v asc rv
 have e2:Mine.find (f::kvs) x=bT (sEq f.1 x) (some f.2) (Mine.find kvs x):=rfl
 cases q:sEq f.1 x with
 |true=>exact .inl ⟨v,f.2,by simp [valueAt,AbU,q],by rw [e2,q];rfl,rv⟩
 |false =>
  have e1:valueAt ((toS f.1,v)::es) (toS x)=valueAt es (toS x):=by simp [valueAt,List.find?_cons,AbU,q]
  rw [e1,e2,q]
  exact ih
theorem HR.notSys (H:HR Γ ι σ s.heap){p:Nat×Option Nat}{l:Nat}(e:ι.nums[l]? = some p):(p.1==sysModules)=false:=beq_eq_false_iff_ne.mpr (Nat.ne_of_gt (H.low p.1 (AaQ e (.inl rfl))))
theorem Aa6 {prog:Program}{w:World}{x:List Nat}{t:Tok}:(PySem.strKind prog w).is (toS x) (.str (toS x) t)=true:=by simp [PySem.strKind,Value.isStrOf]
theorem AhA {value slice:PySem.Expr}(hsl:isSl slice=false)(H:HR Γ ι σ s.heap)(ra:VR ι s.heap v a)(ri:VR ι s.heap u i)(hw:AaR a i σ Qd)(K:Kn Γ FL VR ι s Qd Xd Q E) :
  wpAny Γ.M A (subscriptTail value slice v u) Q E s :=
 @D.casesOn (fun a=>VR ι s.heap v a→AaR a i σ Qd→wpAny Γ.M A (subscriptTail value slice v u) Q E s) a (fun r w=>hiE w) (fun x r w=>hiE w) (fun x r w=>hiE w) (fun x r w=>hiE w)
  (fun ds r w=>r.tup_i fun a vs e n rs=>AaC w ri fun k t w=>Y6 w fun d e' q=>Aj8 hsl e rs e' fun v rv=>K.now H rv q)
  (fun ds r w=>r.lst_i fun a vs e n rs=>AaC w ri fun k t w=>Y6 w fun d e' q=>Ad9 hsl e rs e' fun v rv=>K.now H rv q)
  (fun l r w=>r.loc_i fun p ep=>@D.casesOn (fun i=>VR ι s.heap u i→AaR (.loc l) i σ Qd→wpAny Γ.M A (subscriptTail value slice (.ref p.1) u) Q E s) i (fun r w=>hiE w) (fun x r w=>hiE w)
   (fun k ri w=>ri.int_i fun t=>Y8 (B:=fun p=>wpAny Γ.M A (subscriptTail value slice (.ref p.1) (.int k t)) Q E s) H ep w fun a vs n ds x y g rs w=>Y6 w fun d e' q=>Ad9 hsl (Z8 g) rs e' fun v rv=>K.now H rv q)
   (fun x ri w=>ri.str_i fun t ax=>V3 (B:=fun p=>wpAny Γ.M A (subscriptTail value slice (.ref p.1) (.str (toS x) t)) Q E s) H ep w fun a es kvs x1 y g rs w=>Y6 w fun d e' q=>(Ents.find rs x).elim
    (fun z=>z.elim fun v z=>z.elim fun d' z=>tail_any g.typeIs slot_dict_getitem.lookup (wpAny_getItem_of Aa6 g.mapOf z.1 (K.tick H (Option.some.inj (z.2.1.symm.trans e')▸z.2.2) q)) (Aev hsl)) fun z=>two e' z.2)
   (fun x r w=>hiE w) (fun x r w=>hiE w) (fun x r w=>hiE w) (fun r w=>hiE w) ri w) (fun r w=>hiE w) ra hw
end
end Mine
end
section
namespace Mine
structure Good (Γ:Wo):Prop where
 X:Γ.K.In Γ.base
 g:Γ.base.Ns mainGlobals Γ.mg
 b:Γ.base.Ns builtinsNs Γ.mb
 lim:Γ.base.NoLimit
 bb:∀x:Str,x ≠ "__name__" → Γ.mb x=bootBuiltins x
 cl:clsT.all (AnC Γ.K)=true
 kp:fnT.all (fun fi=>keepIn Γ.K (.ref fi.addr))=true
structure Ao4 (K:Frag)(ci:ClsI)(x:Str)(f:Nat)(fi:FnI):Prop where
 f:fnT[f]? = some fi
 a:findIn K (.ref ci.addr) x=some (some (.ref fi.addr))
 t:typeIn K (.ref fi.addr)=some (.type "function")
theorem Ahi {K:Frag}{ci:ClsI}{x:Str}{f:Nat}{G:Prop}(h:Ag8 K ci x f=true)(k:∀fi,Ao4 K ci x f fi→G):G:=oS_e h fun fi e h=>k fi ⟨e,bE (aL h),bE (aR h)⟩
structure Aoj (K:Frag)(ci:ClsI):Prop where
 hasDict:hasDictIn K ci.addr=true
 pget:plainGet K ci.addr (toS [])=true
 over:plainOver K ci.addr=true
 makes:makesIn K ci.addr=true
 setattr:findIn K (.ref ci.addr) "__setattr__" = some (some (.builtin "object.__setattr__"))
 data:∀a∈dataN,findIn K (.ref ci.addr) (J2 a)=some none∧takerIn K ci.addr (J2 a)=some none
 meths:∀p∈ci.meths,Ag8 K ci (J2 p.1) p.2=true
 init:Ag8 K ci "__init__" ci.init=true
 keep:keepIn K (.ref ci.addr)=true
theorem AjJ {K:Frag}{ci:ClsI}(g:AnC K ci=true)(hx:ci.isExc=false):Aoj K ci :=
 (oR g).elim (fun z=>bF z hx) fun g=>a2 g fun g1 g=>a2 g fun g2 g=>a2 g fun g3 g=>a2 g fun g4 g=>a2 g fun g5 g=>a2 g fun g6 g=>a2 g fun g7 g=>a2 g fun g8 g9 =>
  ⟨g1,g2,g3,g4,bE g5,fun a ha=>⟨bE (aL (List.all_eq_true.mp g6 a ha)),oS_e (aR (List.all_eq_true.mp g6 a ha)) fun o e q=>e.trans (congrArg some (oN_i (P:=fun o=>o=none) q rfl))⟩,fun p hp=>List.all_eq_true.mp g7 p hp,g8,g9⟩
theorem Good.cls {Γ:Wo}(W:Good Γ){ci:ClsI}{c:Nat}(e:clsT[c]? = some ci)(hx:ci.isExc=false):Aoj Γ.K ci:=AjJ (List.all_eq_true.mp W.cl ci (List.mem_of_getElem? e)) hx
theorem Good.In {Γ:Wo}{h:Heap}(W:Good Γ)(st:Γ.base.StaysIn h):Γ.K.In h:=W.X.keeps st
theorem AeO:attrN.Nodup:=by decide +kernel
theorem Ab9:∀a∈dataN,a < attrN.length:=by decide +kernel
theorem Agr {a b:Nat}(ha:a < attrN.length)(hb:b < attrN.length)(e:J2 a=J2 b):a=b:=by
 have e1:=Adc e
 rw [List.getD_eq_getElem?_getD,List.getD_eq_getElem?_getD,List.getElem?_eq_getElem ha,List.getElem?_eq_getElem hb,Option.getD_some,Option.getD_some] at e1
 exact (List.getElem_inj AeO).mp e1
section
variable {P:Params}{ι:Io}{h:Heap}{es:List DictEntry}{fs:List (Nat×D)}
theorem Abv (x y:Str)(t:Tok):(Value.str x t).isStr y=(x==y):=rfl
theorem AhI {a b:Nat}(hb:b∈dataN)(ha:a < attrN.length)(q:(b==a)=false):(J2 b==J2 a)=false:=beq_eq_false_iff_ne.mpr fun z=>beq_eq_false_iff_ne.mp q (Agr (Ab9 b hb) ha z)
theorem Flds.get (r:Flds P ι h es fs){a:Nat}(ha:a < attrN.length) :
  (∃v d,getL (J2 a) es=some (some v)∧fget fs a=some d∧VR ι h v d∧a∈dataN)∨(getL (J2 a) es=some none∧fget fs a=none):=by
 refine LR.ind r (.inr ⟨rfl,rfl⟩) fun e es f fs q r ih=>?_
 refine FldR.casesOn (motive:=fun e z=>(∃v d,getL (J2 a) (e::es)=some (some v)∧fget (f::fs) a=some d∧VR ι h v d∧a∈dataN)∨(getL (J2 a) (e::es)=some none∧fget (f::fs) a=none)) q ?_
 intro v t hv hb
 have e2:fget (f::fs) a=bT (f.1==a) (some f.2) (fget fs a):=rfl
 cases q:f.1==a with
 |true =>
  have e:f.1=a:=eq_of_beq q
  exact .inl ⟨v,f.2,by unfold getL;rw [List.find?_cons_of_pos (by rw [Abv,e,beq_self_eq_true])],by rw [e2,q];rfl,hv,e▸hb⟩
 |false =>
  have e1:getL (J2 a) (⟨PyData.keyHash P (J2 f.1),.str (J2 f.1) t,v⟩::es)=getL (J2 a) es:=by
   unfold getL
   rw [List.find?_cons_of_neg (by rw [Abv,AhI hb ha q];exact Bool.false_ne_true),List.any_cons]
   rfl
  rw [e1,e2,q]
  exact ih
theorem Flds.some (r:Flds P ι h es fs){a:Nat}(ha:a < attrN.length):(getL (J2 a) es).isSome=true :=
 (Flds.get r ha).elim (fun z=>z.elim fun v z=>z.elim fun d z=>by rw [z.1];rfl) fun z=>by rw [z.1];rfl
theorem Flds.put (r:Flds P ι h es fs){a:Nat}{v:Value}{d:D}{t:Tok}(ha:a∈dataN)(hv:VR ι h v d) :
  Flds P ι h (putL (J2 a) (PyData.keyHash P (J2 a)) (.str (J2 a) t) v es) (fput fs a d):=by
 refine LR.ind r (LR.cons (.mk t hv ha) LR.nil) fun e es f fs q r ih=>?_
 refine FldR.casesOn (motive:=fun e z=>Flds P ι h (putL (J2 a) (PyData.keyHash P (J2 a)) (.str (J2 a) t) v (e::es)) (fput (f::fs) a d)) q ?_
 intro v' t' hv' hb
 have e2:fput (f::fs) a d=bT (f.1==a) ((f.1,d)::fs) (f::fput fs a d):=rfl
 cases q:f.1==a with
 |true =>
  have e:f.1=a:=eq_of_beq q
  have e1:putL (J2 a) (PyData.keyHash P (J2 a)) (.str (J2 a) t) v (⟨PyData.keyHash P (J2 f.1),.str (J2 f.1) t',v'⟩::es)=⟨PyData.keyHash P (J2 f.1),.str (J2 f.1) t',v⟩::es:=by
   simp [putL,Abv,e]
  rw [e1,e2,q]
  exact LR.cons (FldR.mk (ad:=(f.1,d)) t' hv hb) r
 |false =>
  have e1:putL (J2 a) (PyData.keyHash P (J2 a)) (.str (J2 a) t) v (⟨PyData.keyHash P (J2 f.1),.str (J2 f.1) t',v'⟩::es)=⟨PyData.keyHash P (J2 f.1),.str (J2 f.1) t',v'⟩::putL (J2 a) (PyData.keyHash P (J2 a)) (.str (J2 a) t) v es:=by
   simp [putL,Abv,AhI hb (Ab9 a ha) q]
  rw [e1,e2,q]
  exact LR.cons (.mk t' hv' hb) ih
theorem Ai8 (a:Nat)(d:D):∀fs:List (Nat×D),(fput fs a d).length≤fs.length+1:=@List.rec _ _ (Nat.le_refl _) fun p r ih=>by
 show (bT (p.1==a) ((p.1,d)::r) (p::fput r a d)).length≤_
 cases p.1==a with
 |true=>exact Nat.le_succ _
 |false=>exact Nat.succ_le_succ ih
theorem Akf {a f:Nat}:∀{l:List (Nat×Nat)},nget l a=some f→(a,f)∈l:=fun {l}=>@List.rec (Nat×Nat) (fun l=>nget l a=some f→(a,f)∈l) (fun h=>nope h) (fun p r ih h=>by
 have h':bT (p.1==a) (some p.2) (nget r a)=some f:=h
 cases q:p.1==a with
 |true=>rw [q] at h';exact (show p=(a,f) from Prod.ext (eq_of_beq q) (Option.some.inj h'))▸List.mem_cons_self
 |false=>rw [q] at h';exact List.mem_cons_of_mem _ (ih h')) l
theorem AdN {x dx C:Nat}{es:List DictEntry}{n:Nat}(e1:h.get? x=some (instObj C dx))(e2:h.get? dx=some (dictOf es n)):InstAt h x (instObj C dx) C (some (dictOf es n)):=⟨e1,rfl,rfl,e2⟩
end
section
variable {Γ:Wo}{FL:List Nat}{ι:Io}{s:Shared}{σ:Hp}{Qd:D→Hp→Prop}{Xd:Nat→Hp→Prop}{Q:Value→Shared→Prop}{E:Value→Shared→Prop}{A:Around}{v u:Value}{o d:D}{a:Nat}
theorem AmI {expr:Bool}(W:Good Γ)(ha:a∈dataN)(H:HR Γ ι σ s.heap)(ro:VR ι s.heap v o)(hw:Af8 a o σ Qd)(K:Kn Γ FL VR ι s Qd Xd Q E) :
  wpAny Γ.M A (getAttr v (J2 a) expr) Q E s :=
 U4 hw ro fun l p e w=>AdM (B:=fun p=>wpAny Γ.M A (getAttr (.ref p.1) (J2 a) expr) Q E s) H e w fun x dx c ci es n fs e q hc hx h1 h2 rs w=>Y6 w fun d hf w =>
  (Flds.get rs (Ab9 a ha)).elim (fun z=>z.elim fun u z=>z.elim fun d' z=>get_value (W.In H.stay) (AdN h1 h2) (plainGet_of (W.cls hc hx).pget).1 (findObj_own (W.cls hc hx).hasDict ((W.cls hc hx).data a ha).1 rfl (by rw [lookIn_dict];exact z.1)) z.2.2.1.handed
   (K.tick H (Option.some.inj (z.2.1.symm.trans hf)▸z.2.2.1) w)) fun z=>two hf z.2
theorem AnA {pl:Sem Bool}{Kf:Nat→Prop}{Q:Value×List Value→Shared→Prop}(W:Good Γ)(ha:dataN.contains a=false)(hl:a < attrN.length)(H:HR Γ ι σ s.heap)(ro:VR ι s.heap v o)
  (hw:Agl o a σ Kf) (h:∀f fi,fnT[f]? = some fi→Kf f→Q (.ref fi.addr,[v]) s):wpAny Γ.M A (getMethod v (J2 a) pl) Q E s:=by
 revert h
 refine U4 hw ro fun l p e w=>AdM (B:=fun p=>(∀f fi,fnT[f]? = some fi→Kf f→Q (.ref fi.addr,[.ref p.1]) s)→wpAny Γ.M A (getMethod (.ref p.1) (J2 a) pl) Q E s) H e w fun x dx c ci es n fs e q hc hx h1 h2 rs w=>Y6 w fun ci' hc' w1=>Y6 w1 fun f hf w2 h=>?_
 have CO:=W.cls hc hx
 cases hc.symm.trans hc'
 refine Ahi (CO.meths _ (Akf hf)) fun fi M=>?_
 have hn:getL (J2 a) es=some none:=(Flds.get rs hl).elim (fun z=>z.elim fun u z=>z.elim fun d z=>bF (List.contains_iff_mem.mpr z.2.2.2) ha) fun z=>z.1
 exact method_fn (W.In H.stay) (AdN h1 h2) (plainGet_of CO.pget).1 (plainGet_of CO.pget).2 M.a M.t (by show (lookIn (J2 a) (dictOf es n)).map _=_;rw [lookIn_dict,hn];rfl) (h f fi M.f w2)
theorem Anq {C x dx:Nat}{name:Str}{tk:Tok}{v:Value}{es es':List DictEntry}{n n':Nat}{R:Result→Shared→Prop}(X:Γ.K.In s.heap)(h1:s.heap.get? x=some (instObj C dx))(h2:s.heap.get? dx=some (dictOf es n))
  (hp:plainOver Γ.K C=true) (ht:takerIn Γ.K C name=some none) (hh:hasDictIn Γ.K C=true) (hl:(getL name es).isSome=true)
  (e:Obj.putName name (PyData.keyHash Γ.w.params name) (.str name s.toks) v (dictOf es n)=dictOf es' n') (hz:es'.length≤1000)
  (h:∀h',h'.get? dx=some (dictOf es' n')→(∀b,b≠dx→h'.get? b=s.heap.get? b)→R (.ok (.ret .none)) { s with heap:=h',toks:=s.toks+1 }) :
  codeAny Γ.M A (.call (.builtin "object.__setattr__") ⟨[.ref x,.str name tk,v],[]⟩) R s:=by
 refine osa_open X (AdN h1 h2) hp ht fun b=>?_
 obtain ⟨cd,hc,hd'⟩:=any_some hh
 refine wpAny_bind (wpAny_pure (wpAny_bind (wpAny_bind (wpAny_loadPart h1 (wpAny_bind ((looks_clsIn X hc).here ?_))))))
 rw [hd']
 refine wpAny_pure (a:=some dx) (wpAny_bind (wpAny_pure (wpAny_bind ?_)))
 unfold nsSet
 refine wpAny_bind (wpAny_bind (wpAny_askSetting (wpAny_pure (wpAny_bind (wpAny_mkText (wpAny_bind (wpAny_loadPart h2 ?_)))))))
 have c:(!es.toArray.any (·.key.isStr name)&&es.toArray.any (·.refKey))=false:=by
  rw [←Array.any_toList,←Array.any_toList]
  unfold getL at hl
  split at hl
  ·rename_i en he
   rw [List.any_eq_true.mpr ⟨en,List.mem_of_find?_eq_some he,List.find?_some he⟩];rfl
  ·split at hl
   ·cases hl
   ·rename_i z;rw [Bool.not_eq_true] at z;rw [z,Bool.and_false]
 dsimp only
 rw [aRefKeyMayBeTheName_at,c]
 have hself:=Heap.get?_update_self (Obj.putName name (PyData.keyHash Γ.w.params name) (.str name s.toks) v) h2 (by rw [e];rfl)
 rw [e] at hself
 refine wpAny_updatePart h2 ?_
 refine wpAny_bind (wpAny_lookBehind hself (pastItsLine_dict (by rw [List.size_toArray,sizeLine_eq];exact Nat.le_trans hz (by decide))) ?_)
 exact wpAny_pure (h _ hself fun b hb=>Heap.get?_update_other _ _ (Ne.symm hb))
theorem AkI {Kf:Hp→Prop}{Q:Unit→Shared→Prop}(W:Good Γ)(ha:a∈dataN)(H:HR Γ ι σ s.heap)(hF:∀b∈FL,b∉adr ι)(ro:VR ι s.heap v o)(rd:VR ι s.heap u d)
  (hw:Aa7 o a d σ Kf) (O:∀h' tk' σ',Ext FL [] ι ι s.heap h'→HR Γ ι σ' h'→Kf σ'→Q () (upd s h' tk')):wpAny Γ.M A (setAttr v (J2 a) u) Q E s:=by
 refine U4 hw ro fun l p e w=>AdM (B:=fun p=>wpAny Γ.M A (setAttr (.ref p.1) (J2 a) u) Q E s) H e w fun x dx c ci es n fs e q hc hx h1 h2 rs w=>X6 w fun hlen w=>?_
 have CO:=W.cls hc hx
 have X:=W.In H.stay
 refine set_plain X (AdN h1 h2) CO.setattr (Anq (s:={ s with toks:=s.toks+1 }) X h1 h2 CO.over (CO.data a ha).2 CO.hasDict (Flds.some rs (Ab9 a ha)) (putName_dict ..) (((Flds.put rs (t:=s.toks+1) ha rd).length▸Nat.le_trans (Ai8 ..) (Nat.le_trans (AcE hlen) (by decide)))) fun h' hg ho=>?_)
 have hs:∀b,¬Of (x,some dx) b→h'.get? b=s.heap.get? b:=fun b hb=>ho b fun z=>hb (.inr (z▸rfl))
 have hne:x≠dx:=fun z=>by rw [z] at h1;exact absurd (congrArg Obj.dict (Option.some.inj (h1.symm.trans h2))) (fun q=>nomatch q)
 have h1':=(ho _ hne).trans h1
 exact O h' _ _ (Ext.upd e hF (fun b hb=>hb.elim (fun z=>⟨_,(congrArg h'.get? z).trans h1'⟩) fun z=>⟨_,(congrArg h'.get? (Option.some.inj z).symm).trans hg⟩) hs) (H.upd (o':=.inst c (fput fs a d)) e q hs (InsO.mk hc hx h1' hg (Flds.mono (Mo.upd e hs) (Flds.put rs ha rd)))) w
end
end Mine
end
section
namespace Mine
noncomputable abbrev tP0:PyData:=.none
noncomputable def toP (d:D):PyData:=@D.rec (fun d=>PyData) (fun ds=>List PyData) .none .bool .int (fun x=>.str (toS x)) (fun ds r=>.tuple r) (fun ds r=>.list r) (fun l=>.none) .none [] (fun d ds a b=>a::b) d
noncomputable def toPs (ds:List D):List PyData:=@D.rec_1 (fun d=>PyData) (fun ds=>List PyData) .none .bool .int (fun x=>.str (toS x)) (fun ds r=>.tuple r) (fun ds r=>.list r) (fun l=>.none) .none [] (fun d ds a b=>a::b) ds
theorem D.ind2 {C:D→Prop}{CL:List D→Prop}(h0:C .none)(h1:∀b,C (.bool b))(h2:∀i,C (.int i))(h3:∀x,C (.str x))(h4:∀ds,CL ds→C (.tup ds))(h5:∀ds,CL ds→C (.lst ds))(h6:∀l,C (.loc l))(h7:C .opq)(h8:CL [])(h9:∀d ds,C d→CL ds→CL (d::ds)):(∀d,C d)∧∀ds,CL ds :=
 ⟨fun d=>@D.rec C CL h0 h1 h2 h3 h4 h5 h6 h7 h8 h9 d,fun ds=>@D.rec_1 C CL h0 h1 h2 h3 h4 h5 h6 h7 h8 h9 ds⟩
theorem AgU {x:List Nat}(h:ascN x=true):PyData.strOk (toS x)=true:=by
 have key:∀x:List Nat,ascN x=true→x.all (fun c=>decide (c≤1114111))=true:=@List.rec Nat _ (fun h=>rfl) fun c x ih h=>by
  have h':((c - 1114111==0)&&ascN x)=true:=h
  rw [List.all_cons,ih (aR h'),Bool.and_true]
  exact decide_eq_true (Nat.le_of_sub_eq_zero (eq_of_beq (aL h')))
 have:=key x h
 simpa [PyData.strOk,toS,Nat.lt_succ_iff] using this
section
variable {ι:Io}{h:Heap}
theorem reads_all:(∀d,d.plain=true→∀v,VR ι h v d→∃as,Reads h v (toP d) as∧(toP d).canLay0=true)∧∀ds,D.plainAll ds=true→∀vs,VRs ι h vs ds→∃as,ReadsAll h vs (toPs ds) as∧PyData.canLayAll0 (toPs ds)=true :=
 D.ind2 (fun p v r=>r.none_i ⟨[],.none,rfl⟩) (fun b p v r=>r.bool_i ⟨[],.bool b,rfl⟩) (fun i p v r=>r.int_i fun t=>⟨[],.int i t,rfl⟩) (fun x p v r=>r.str_i fun t a=>⟨[],.str _ t,AgU a⟩)
  (fun ds ih p v r=>r.tup_i fun a vs e n rs=>(ih p vs rs).elim fun as z=>e.elim fun o e=>e.2.2.elim fun n q=>⟨as,.tuple e.1 e.2.1 q z.1,z.2⟩)
  (fun ds ih p v r=>r.lst_i fun a vs e n rs=>(ih p vs rs).elim fun as z=>e.elim fun o e=>e.2.2.elim fun n q=>⟨_,.list e.1 e.2.1 q z.1,z.2⟩)
  (fun l p=>ffE p) (fun p=>ffE p) (fun p vs r=>LR.nil_i r ⟨[],.nil,rfl⟩)
  (fun d ds a b p vs r=>LR.cons_i r fun v vs q r=>(a (aL p) v q).elim fun as z=>(b (aR p) vs r).elim fun bs y=>⟨_,.cons z.1 y.1,Bool.and_eq_true_iff.mpr ⟨z.2,y.2⟩⟩)
end
theorem shal_all:(∀d n,d.shal n=true→(toP d).depth≤n)∧∀ds n,D.shalAll n ds=true→PyData.depthAll (toPs ds)≤n :=
 D.ind2 (fun n p=>Nat.zero_le n) (fun b n p=>Nat.zero_le n) (fun b n p=>Nat.zero_le n) (fun b n p=>Nat.zero_le n)
  (fun ds ih n=>@Nat.rec (fun n=>D.shal n (.tup ds)=true→(toP (.tup ds)).depth≤n) (fun p=>ffE p) (fun n x p=>Nat.succ_le_succ (ih n p)) n)
  (fun ds ih n=>@Nat.rec (fun n=>D.shal n (.lst ds)=true→(toP (.lst ds)).depth≤n) (fun p=>ffE p) (fun n x p=>Nat.succ_le_succ (ih n p)) n)
  (fun b n p=>Nat.zero_le n) (fun n p=>Nat.zero_le n) (fun n p=>Nat.zero_le n) (fun d ds a b n p=>Nat.max_le.mpr ⟨a n (aL p),b n (aR p)⟩)
theorem eqb_all:(∀a:D,a.plain=true→∀b,b.plain=true→PyData.eqv (toP a) (toP b)=a.eqb b)∧∀as,D.plainAll as=true→∀bs,D.plainAll bs=true→PyData.eqvAll (toPs as) (toPs bs)=D.eqbAll as bs :=
 D.ind2 (fun p b=>@D.casesOn (fun b=>b.plain=true→PyData.eqv .none (toP b)=D.eqb .none b) b (fun q=>rfl) (fun x q=>rfl) (fun x q=>rfl) (fun x q=>rfl) (fun x q=>rfl) (fun x q=>rfl) (fun x q=>ffE q) (fun q=>ffE q))
  (fun a p b=>@D.casesOn (fun b=>b.plain=true→PyData.eqv (.bool a) (toP b)=D.eqb (.bool a) b) b (fun q=>rfl) (fun x q=>rfl) (fun x q=>rfl) (fun x q=>rfl) (fun x q=>rfl) (fun x q=>rfl) (fun x q=>ffE q) (fun q=>ffE q))
  (fun a p b=>@D.casesOn (fun b=>b.plain=true→PyData.eqv (.int a) (toP b)=D.eqb (.int a) b) b (fun q=>rfl) (fun x q=>rfl) (fun x q=>rfl) (fun x q=>rfl) (fun x q=>rfl) (fun x q=>rfl) (fun x q=>ffE q) (fun q=>ffE q))
  (fun a p b=>@D.casesOn (fun b=>b.plain=true→PyData.eqv (.str (toS a)) (toP b)=D.eqb (.str a) b) b (fun q=>rfl) (fun x q=>rfl) (fun x q=>rfl) (fun x q=>AhE a x) (fun x q=>rfl) (fun x q=>rfl) (fun x q=>ffE q) (fun q=>ffE q))
  (fun a ih p b=>@D.casesOn (fun b=>b.plain=true→PyData.eqv (.tuple (toPs a)) (toP b)=D.eqb (.tup a) b) b (fun q=>rfl) (fun x q=>rfl) (fun x q=>rfl) (fun x q=>rfl) (fun x q=>ih p x q) (fun x q=>rfl) (fun x q=>ffE q) (fun q=>ffE q))
  (fun a ih p b=>@D.casesOn (fun b=>b.plain=true→PyData.eqv (.list (toPs a)) (toP b)=D.eqb (.lst a) b) b (fun q=>rfl) (fun x q=>rfl) (fun x q=>rfl) (fun x q=>rfl) (fun x q=>rfl) (fun x q=>ih p x q) (fun x q=>ffE q) (fun q=>ffE q))
  (fun l p=>ffE p) (fun p=>ffE p)
  (fun p bs=>@List.casesOn D (fun bs=>D.plainAll bs=true→PyData.eqvAll [] (toPs bs)=D.eqbAll [] bs) bs (fun q=>rfl) fun x xs q=>rfl)
  (fun d ds a b p bs=>@List.casesOn D (fun bs=>D.plainAll bs=true→PyData.eqvAll (toP d::toPs ds) (toPs bs)=D.eqbAll (d::ds) bs) bs (fun q=>rfl) fun x xs q=>by
   show (PyData.eqv (toP d) (toP x)&&PyData.eqvAll (toPs ds) (toPs xs))=(D.eqb d x&&D.eqbAll ds xs)
   rw [a (aL p) x (aL q),b (aR p) xs (aR q)])
theorem Aii {a:D}(ha:a.plain=true):∀ds:List D,D.plainAll ds=true→((toPs ds).any fun y=>PyData.eqv y (toP a))=Adz a ds:=@List.rec D _ (fun p=>rfl) fun d ds ih p=>by
 show ((toP d::toPs ds).any fun y=>PyData.eqv y (toP a))=(D.eqb d a||Adz a ds)
 rw [List.any_cons,eqb_all.1 d (aL p) a ha,ih (aR p)]
theorem AdW {x y:D}(h:okEq x y=true):x.plain=true∧y.plain=true∧min (toP x).depth (toP y).depth≤60 :=
 ⟨aL (aR h),aR (aR h),(oR (aL h)).elim (fun q=>Nat.le_trans (Nat.min_le_right _ _) (shal_all.1 _ _ q)) fun q=>Nat.le_trans (Nat.min_le_left _ _) (shal_all.1 _ _ q)⟩
theorem Aa5 {a:D}{ds:List D}(h:okIn a ds=true):a.plain=true∧D.plainAll ds=true∧min (PyData.depthAll (toPs ds)) (toP a).depth≤60 :=
 ⟨aL (aR h),aR (aR h),(oR (aL h)).elim (fun q=>Nat.le_trans (Nat.min_le_right _ _) (shal_all.1 _ _ q)) fun q=>Nat.le_trans (Nat.min_le_left _ _) (shal_all.2 _ _ q)⟩
section
variable {Γ:Wo}{FL:List Nat}{ι:Io}{s:Shared}{σ:Hp}{Qd:D→Hp→Prop}{Xd:Nat→Hp→Prop}{Q:Value→Shared→Prop}{E:Value→Shared→Prop}{A:Around}{v u:Value}{a b d:D}{n:Nat}
theorem AiV {h:Heap}{es:List (Str×Value)}{kvs:List (List Nat×D)}(r:Ents ι h es kvs){x:List Nat}:(valueAt es (toS x)).isSome=(find kvs x).isSome :=
 (Ents.find r x).elim (fun z=>z.elim fun v z=>z.elim fun d z=>by rw [z.1,z.2.1];rfl) fun z=>by rw [z.1,z.2];rfl
theorem Apy {K:D→Prop}{G:Prop}(H:HR Γ ι σ s.heap)(hw:opK σ d K)(r:VR ι s.heap v d)(k:∀x,(x.plain=true→∃as,Reads s.heap v (toP x) as∧(toP x).canLay0=true)→K x→G):G :=
 have m:∀{x},VR ι s.heap v x→K x→G:=fun r w=>k _ (fun p=>reads_all.1 _ p v r) w
 @D.casesOn (fun d=>opK σ d K→VR ι s.heap v d→G) d (fun w r=>m r w) (fun x w r=>m r w) (fun x w r=>m r w) (fun x w r=>m r w) (fun x w r=>m r w) (fun x w r=>m r w)
  (fun l w r=>VR.loc_i (P:=fun v=>(∀x,(x.plain=true→∃as,Reads s.heap v (toP x) as∧(toP x).canLay0=true)→K x→G)→G) r (fun p e k=>Y8 (B:=fun p=>(∀x,(x.plain=true→∃as,Reads s.heap (.ref p.1) (toP x) as∧(toP x).canLay0=true)→K x→G)→G) H e w (fun a vs n ds e' q g rs w k=>k (.lst ds) (fun p=>(reads_all.2 ds p vs rs).elim fun as z=>⟨_,.list g rfl rfl z.1,z.2⟩) w) k) k)
  (fun w r=>m r w) hw r
theorem Ak6 {A:Around}{m:Nat}(R:A.units+64 * n+100 < cLine)(h:m≤60):A.units+1+m < cLine:=by omega
theorem AmG {A:Around}{m:Nat}(R:A.units+64 * n+100 < cLine)(h:m≤60):A.units+m < cLine:=by omega
theorem Ap2 (ng:Bool){op:CmpOp}(Rm:Room A n)(H:HR Γ ι σ s.heap)(ra:VR ι s.heap v a)(rb:VR ι s.heap u b)(hw:eqD ng a b σ Qd Xd)(K:Kn Γ FL VR ι s Qd Xd Q E)
  (f:∀(da db:PyData) as bs,Reads s.heap v da as→Reads s.heap u db bs→da.canLay0=true→db.canLay0=true→A.units+min da.depth db.depth < cLine→Q (.bool (ng ^^ PyData.eqv da db)) s→wpAny Γ.M A (compareOp op v u) Q E s):wpAny Γ.M A (compareOp op v u) Q E s :=
 Apy H hw ra fun x rx w=>Apy H w rb fun y ry w=>X6 w fun ok w=>(rx (AdW ok).1).elim fun as z=>(ry (AdW ok).2.1).elim fun bs z' =>
  f _ _ as bs z.1 z'.1 z.2 z'.2 (AmG Rm.uni (AdW ok).2.2) (K.now H (by rw [eqb_all.1 x (AdW ok).1 y (AdW ok).2.1];exact AbD) w)
theorem AoP (ng:Bool){op:CmpOp}(Rm:Room A n)(H:HR Γ ι σ s.heap)(ra:VR ι s.heap v a)(rb:VR ι s.heap u b)(hw:inD ng a b σ Qd Xd)(K:Kn Γ FL VR ι s Qd Xd Q E)
  (f1:∀(da:PyData) (xs:List PyData) as bs,Reads s.heap u (.tuple xs) as→Reads s.heap v da bs→PyData.canLayAll0 xs=true→da.canLay0=true→A.units+1+min (PyData.depthAll xs) da.depth < cLine→Q (.bool (ng ^^ xs.any fun y=>PyData.eqv y da)) s→wpAny Γ.M A (compareOp op v u) Q E s)
  (f2:∀(da:PyData) (xs:List PyData) as bs,Reads s.heap u (.list xs) as→Reads s.heap v da bs→PyData.canLayAll0 xs=true→da.canLay0=true→A.units+1+min (PyData.depthAll xs) da.depth < cLine→Q (.bool (ng ^^ xs.any fun y=>PyData.eqv y da)) s→wpAny Γ.M A (compareOp op v u) Q E s)
  (f3:∀x t es a,v=.str (toS x) t→u=.ref a→(a==sysModules)=false→s.heap.DictOf (PySem.strKind Γ.prog Γ.w) a es→Q (.bool (ng ^^ (valueAt es (toS x)).isSome)) { s with toks:=s.toks+1 }→wpAny Γ.M A (compareOp op v u) Q E s):wpAny Γ.M A (compareOp op v u) Q E s :=
 @D.casesOn (fun b=>VR ι s.heap u b→inD ng a b σ Qd Xd→wpAny Γ.M A (compareOp op v u) Q E s) b (fun r w=>hiE w) (fun x r w=>hiE w) (fun x r w=>hiE w) (fun x r w=>hiE w)
  (fun ds r w=>X6 w fun ok w=>(reads_all.1 a (Aa5 ok).1 v ra).elim fun as z=>(reads_all.1 (.tup ds) (Aa5 ok).2.1 u r).elim fun bs z'=>f1 (toP a) (toPs ds) bs as z'.1 z.1 z'.2 z.2 (Ak6 Rm.uni (Aa5 ok).2.2) (K.now H (by rw [Aii (Aa5 ok).1 ds (Aa5 ok).2.1];exact AbD) w))
  (fun ds r w=>X6 w fun ok w=>(reads_all.1 a (Aa5 ok).1 v ra).elim fun as z=>(reads_all.1 (.lst ds) (Aa5 ok).2.1 u r).elim fun bs z'=>f2 (toP a) (toPs ds) bs as z'.1 z.1 z'.2 z.2 (Ak6 Rm.uni (Aa5 ok).2.2) (K.now H (by rw [Aii (Aa5 ok).1 ds (Aa5 ok).2.1];exact AbD) w))
  (fun l r w=>VR.loc_i (P:=fun w=>u=w→wpAny Γ.M A (compareOp op v u) Q E s) r (fun p e eu=>V3 (B:=fun p=>ι.nums[l]? = some p→u=.ref p.1→wpAny Γ.M A (compareOp op v u) Q E s) H e w (fun x es kvs e' q g rs w ep eu=>Acq (C:=fun y=>v=y→wpAny Γ.M A (compareOp op v u) Q E s) w ra (fun y t ay w ev =>
   f3 y t es x ev eu (H.notSys ep) g (K.tick H (by rw [AiV rs];exact AbD) w)) rfl) e eu) rfl)
  (fun r w=>hiE w) rb hw
theorem AfI {f:Int→Int→Bool}{op:CmpOp}(H:HR Γ ι σ s.heap)(ra:VR ι s.heap v a)(rb:VR ι s.heap u b)(hw:ordD f a b σ Qd Xd)(K:Kn Γ FL VR ι s Qd Xd Q E)(g:∀i j t t',Q (.bool (f i j)) s→wpAny Γ.M A (compareOp op (.int i t) (.int j t')) Q E s):wpAny Γ.M A (compareOp op v u) Q E s :=
 AaC hw ra fun i t w=>AaC w rb fun j t' w=>g i j t t' (K.now H AbD w)
noncomputable def isNb (d:D):Bool:=@D.casesOn (fun d=>Bool) d true (fun x=>false) (fun x=>false) (fun x=>false) (fun x=>false) (fun x=>false) (fun x=>false) false
theorem AhW (H:HR Γ ι σ s.heap)(ra:VR ι s.heap v a)(hw:Afc false a σ Qd Xd∨Afc true a σ Qd Xd)(K:Kn Γ FL VR ι s Qd Xd Q E):∀ng:Bool,Afc ng a σ Qd Xd→Q (.bool (ng ^^ (v==Value.none))) s:=fun ng w =>
 have k:∀{c r:Bool},(ng ^^ c)=r→(v==Value.none)=c→Qd (.bool r) σ→Q (.bool (ng ^^ (v==Value.none))) s:=fun z e q=>by rw [e,z];exact K.now H AbD q
 have e1:(ng ^^ true)=!ng:=Bool.xor_true ng
 have e2:(ng ^^ false)=ng:=Bool.xor_false ng
 @D.casesOn (fun a=>VR ι s.heap v a→Afc ng a σ Qd Xd→Q (.bool (ng ^^ (v==Value.none))) s) a (fun r w=>k e1 (r.none_i rfl) w) (fun x r w=>k e2 (r.bool_i rfl) w) (fun x r w=>k e2 (r.int_i fun t=>rfl) w) (fun x r w=>k e2 (r.str_i fun t a=>rfl) w)
  (fun x r w=>k e2 (r.tup_i fun a vs e n q=>rfl) w) (fun x r w=>k e2 (r.lst_i fun a vs e n q=>rfl) w) (fun x r w=>k e2 (r.loc_i fun p e=>rfl) w) (fun r w=>hiE w) ra w
theorem fx {c:Bool}(q:Q (.bool (false ^^ c)) s):Q (.bool c) s:=by rw [Bool.false_xor] at q;exact q
theorem tx {c:Bool}(q:Q (.bool (true ^^ c)) s):Q (.bool !c) s:=by rw [Bool.true_xor] at q;exact q
theorem Ak5 {op:Cm}(Rm:Room A n)(H:HR Γ ι σ s.heap)(ra:VR ι s.heap v a)(rb:VR ι s.heap u b)(hn:op=.isN∨op=.isnN→u=.none)
  (hw:cmpD op a b σ Qd Xd) (K:Kn Γ FL VR ι s Qd Xd Q E):wpAny Γ.M A (compareOp (cmOf op) v u) Q E s :=
 @Cm.casesOn (fun op=>(op=.isN∨op=.isnN→u=.none)→cmpD op a b σ Qd Xd→wpAny Γ.M A (compareOp (cmOf op) v u) Q E s) op
  (fun hn w=>Ap2 false Rm H ra rb w K fun da db as bs r1 r2 l1 l2 hu q=>PySem.SeqAt.compareEq_reads r1 r2 l1 l2 hu (fx q))
  (fun hn w=>Ap2 true Rm H ra rb w K fun da db as bs r1 r2 l1 l2 hu q=>PySem.SeqAt.compareNe_reads r1 r2 l1 l2 hu (tx q))
  (fun hn w=>AfI H ra rb w K fun i j t t' q=>PyProof.Rows.lt_int q) (fun hn w=>AfI H ra rb w K fun i j t t' q=>PyProof.Rows.le_int q)
  (fun hn w=>AfI H ra rb w K fun i j t t' q=>PyProof.Rows.gt_int q) (fun hn w=>AfI H ra rb w K fun i j t t' q=>PyProof.Rows.ge_int q)
  (fun hn w=>(hn (.inl rfl)).symm▸is_none (fx (AhW H ra (.inl w) K false w))) (fun hn w=>(hn (.inr rfl)).symm▸isNot_none (tx (AhW H ra (.inr w) K true w)))
  (fun hn w=>AoP false Rm H ra rb w K (fun da xs as bs r1 r2 l1 l2 hu q=>PySem.SeqAt.in_tuple_reads r1 r2 l1 l2 hu (fx q)) (fun da xs as bs r1 r2 l1 l2 hu q=>PySem.SeqAt.in_list_reads r1 r2 l1 l2 hu (fx q))
   fun x t es a ev eu hs g q=>by subst ev eu;exact wpAny_in_of Aa6 hs g.mapOf (fx q))
  (fun hn w=>AoP true Rm H ra rb w K (fun da xs as bs r1 r2 l1 l2 hu q=>PySem.SeqAt.notIn_tuple_reads r1 r2 l1 l2 hu (tx q)) (fun da xs as bs r1 r2 l1 l2 hu q=>PySem.SeqAt.notIn_list_reads r1 r2 l1 l2 hu (tx q))
   fun x t es a ev eu hs g q=>by subst ev eu;exact wpAny_notIn_of Aa6 hs g.mapOf (tx q)) hn hw
end
end Mine
end
section
namespace Mine
theorem Afd:seqRepeat? (.type "tuple")=pure (some (.builtin "tuple.__mul__")):=by
 unfold seqRepeat?
 rw [PySem.seqSlot_of (T := "tuple") (name := "__mul__") (id := "tuple.__mul__") PySem.F.slot_tuple_mul.lookup (by decide +kernel),PySem.seqSlot_of (T := "tuple") (name := "__rmul__") (id := "tuple.__rmul__") PySem.F.slot_tuple_rmul.lookup (by decide +kernel)]
 rfl
theorem AcS:fillsNumberSlot (.type "tuple") "mul" = pure false :=
 PySem.fillsNumberSlot_seq (id := "tuple.__mul__") (r:=some (.builtin "tuple.__rmul__")) PySem.F.slot_tuple_mul.lookup (by decide +kernel) PySem.F.slot_tuple_rmul.lookup (by decide +kernel)
theorem AdV (a:Int)(t:Tok)(l:Addr)(items:Array Value)(n:Nat)(dd:Option Addr)(sl:Array (Option Value)) :
  Meets (Builtin.«int.__rmul__» ⟨[.int a t,.ref l],[]⟩) (fun _ R s=>s.heap.get? l=some { cls:=.type "tuple",dict:=dd,data:=.seq items n,slots:=sl }∧R (.ok (.ret Value.notImplemented)) s) :=
 .of_wp fun prog w A R s h=>by obtain ⟨hp,g,d,tk,os⟩:=s;obtain ⟨hl,h⟩:=h;wp_walk;exact ⟨_,rfl,h⟩
theorem Ajr (l:Addr)(items:Array Value)(n:Nat)(u:Tok)(dd:Option Addr)(sl:Array (Option Value))(hc:items.isEmpty=false) :
  Meets (Builtin.«tuple.__mul__» ⟨[.ref l,.int 0 u],[]⟩) (fun _ R s=>s.heap.get? l=some { cls:=.type "tuple",dict:=dd,data:=.seq items n,slots:=sl }∧R (.ok (.ret (Value.ref s.heap.objs.size))) { s with heap:=s.heap.push { cls:=Value.type "tuple",data:=Data.seq #[] },toks:=s.toks }) :=
 .of_wp fun prog w A R s h=>by
  obtain ⟨hp,g,d,tk,os⟩:=s
  obtain ⟨hl,h⟩:=h
  have f1:=AutoSeq1.idx_int
  wp_walk using wpAny_loadPart' hl
  exact ⟨_,rfl,h⟩
theorem Ae9:100000≤sizeLine:=by rw [sizeLine_eq];decide
theorem fit {n:Nat}(h:n≤100000):n≤sizeLine:=Nat.le_trans h Ae9
theorem sq_i {T:String}{h:Heap}{a:Nat}{xs:Array Value}{G:Prop}(e:IsSq T h a xs)(k:∀dd n sl,h.get? a=some { cls:=.type T,dict:=dd,data:=.seq xs n,slots:=sl }→G):G :=
 e.elim fun o e=>e.2.2.elim fun n q=>k o.dict n o.slots (e.1.trans (congrArg some (by rw [←e.2.1,←q])))
theorem AeS {x y:List Nat}(h:ascN x=true)(q:ascN y=true):ascN (x++y)=true :=
 @List.rec Nat (fun x=>ascN x=true→ascN (x++y)=true) (fun h=>q) (fun c x ih h=>by
  show ((c - 1114111==0)&&ascN (x++y))=true
  rw [ih (aR (show ((c - 1114111==0)&&ascN x)=true from h)),aL (show ((c - 1114111==0)&&ascN x)=true from h)];rfl) x h
theorem notE {vs:List Value}(h:0 < vs.length):vs.toArray.isEmpty=false:=by cases vs with
 |nil=>exact absurd h (Nat.lt_irrefl _)
 |cons a r=>rfl
section
variable {Γ:Wo}{FL:List Nat}{ι:Io}{s:Shared}{σ:Hp}{Qd:D→Hp→Prop}{Xd:Nat→Hp→Prop}{Q:Value→Shared→Prop}{E:Value→Shared→Prop}{A:Around}{v u:Value}{a b d:D}
theorem Ajp {l b:Addr}{vs ws:List Value}(hl:IsSq "tuple" s.heap l vs.toArray)(hb:IsSq "tuple" s.heap b ws.toArray)(h1:0 < vs.length)(h2:0 < ws.length)(hz:vs.length+ws.length≤100000)
  (h:Q (.ref s.heap.objs.size) { s with heap:=s.heap.push { cls:=.type "tuple",data:=.seq (vs++ws).toArray } }):wpAny Γ.M A (binaryOp .Add (.ref l) (.ref b)) Q E s :=
 sq_i hl fun dd n sl ho=>sq_i hb fun dd2 n2 sl2 ho2=>concat_meets ⟨_,ho,rfl⟩ ⟨_,ho2,rfl⟩ noFill_tuple_add seq_tuple_add PySem.F.slot_tuple_add PySem.F.entry_tuple_add (PySem.F.args_tuple_add_2 _ _)
  (tuple_addW2 l b vs.toArray ws.toArray n n2 dd dd2 sl sl2 (by rw [notE h1];exact Bool.false_ne_true) (by rw [notE h2];exact Bool.false_ne_true) (fit hz)) ⟨ho,ho2,by rw [List.append_toArray];exact h⟩
theorem Aft {l b:Addr}{vs ws:List Value}(hl:IsSq "list" s.heap l vs.toArray)(hb:IsSq "list" s.heap b ws.toArray)(hz:vs.length+ws.length≤100000)
  (h:Q (.ref s.heap.objs.size) { s with heap:=s.heap.push { cls:=.type "list",data:=.seq (vs++ws).toArray } }):wpAny Γ.M A (binaryOp .Add (.ref l) (.ref b)) Q E s :=
 sq_i hl fun dd n sl ho=>sq_i hb fun dd2 n2 sl2 ho2=>concat_meets ⟨_,ho,rfl⟩ ⟨_,ho2,rfl⟩ noFill_list_add seq_list_add PySem.F.slot_list_add PySem.F.entry_list_add (PySem.F.args_list_add_2 _ _)
  (list_addW l b vs.toArray ws.toArray n n2 dd dd2 sl sl2 (fit hz)) ⟨ho,ho2,by rw [List.append_toArray];exact h⟩
theorem Akz {l:Addr}{vs:List Value}{u:Tok}(hl:IsSq "tuple" s.heap l vs.toArray)(h1:0 < vs.length)
  (h:Q (.ref s.heap.objs.size) { s with heap:=s.heap.push { cls:=.type "tuple",data:=.seq #[] } }):wpAny Γ.M A (binaryOp .Mult (.ref l) (.int 0 u)) Q E s :=
 sq_i hl fun dd n sl ho=>wpAny_binaryOp_repeat_ref (T := "tuple") (U := "int") (by decide) ⟨_,ho,rfl⟩ (fun s'=>typeIs_int s' 0 u) AcS PySem.F.fills_int_mul PySem.F.slot_int_rmul Afd PySem.F.slot_int_index.lookup
  (call_meets PySem.F.slot_int_rmul (typeIs_int _ _ _) PySem.F.entry_int_rmul (PySem.F.args_int_rmul_2 _ _) (AdV 0 u l vs.toArray n dd sl) ⟨ho,rfl,⟨_,ho,rfl⟩,
   call_meets PySem.F.slot_tuple_mul ⟨_,ho,rfl⟩ PySem.F.entry_tuple_mul (PySem.F.args_tuple_mul_2 _ _) (Ajr l vs.toArray n u dd sl (notE h1)) ⟨ho,h⟩⟩)
theorem Agv (x y:List Nat):toS x++toS y=toS (x++y):=by
 show (⟨x.toArray++y.toArray⟩:Str)=⟨(x++y).toArray⟩
 rw [List.append_toArray]
theorem AmF {y:Int}(h:y.natAbs < 4294967296):Builtin.Int.intBits y≤64:=intBits_le_64 (by omega) (by omega)
theorem AdJ {f:Int→Int→Prop}{op:Operator}(ra:VR ι s.heap v a)(rb:VR ι s.heap u b)(hw:intK a fun x=>intK b fun y=>f x y)(k:∀x y t t',f x y→wpAny Γ.M A (binaryOp op (.int x t) (.int y t')) Q E s):wpAny Γ.M A (binaryOp op v u) Q E s :=
 AaC hw ra fun x t w=>AaC w rb fun y t' w=>k x y t t' w
theorem Apc {op:Bo}(H:HR Γ ι σ s.heap)(ra:VR ι s.heap v a)(rb:VR ι s.heap u b)(hw:binD op a b σ Qd Xd)(K:Kn Γ FL VR ι s Qd Xd Q E):wpAny Γ.M A (binaryOp (boOf op) v u) Q E s :=
 have lst:∀{x y vs ws ds es},IsSq "list" s.heap x vs.toArray→IsSq "list" s.heap y ws.toArray→VRs ι s.heap vs ds→VRs ι s.heap ws es→(ds.length+es.length).ble most=true→Qd (.lst (ds++es)) σ→wpAny Γ.M A (binaryOp .Add (.ref x) (.ref y)) Q E s :=
  fun h1 h2 r1 r2 hz w=>Aft h1 h2 (by rw [r1.length,r2.length];exact Y2 hz) (K.lstNew H (r1.append r2) 0 w)
 @Bo.casesOn (fun op=>binD op a b σ Qd Xd→wpAny Γ.M A (binaryOp (boOf op) v u) Q E s) op
  (fun w=>@D.casesOn (fun a=>VR ι s.heap v a→addD a b σ Qd Xd→wpAny Γ.M A (binaryOp .Add v u) Q E s) a (fun r w=>hiE w) (fun x r w=>hiE w)
   (fun x r w=>r.int_i fun t=>AaC w rb fun y t' w=>add_int (K.tick H vInt w))
   (fun x r w=>r.str_i fun t ax=>Acq w rb fun y t' ay w=>X6 w fun hz w=>PyProof.Rows.add_str (fun t' tk=>Agv x y▸K.tick H (vStr (AeS ax ay)) w) (fit (Y2 hz)))
   (fun ds r w=>r.tup_i fun x vs h1 n1 r1=>Ak0 w rb fun y ws es h2 n2 r2 w=>X6 w fun hz w=>X6 w fun hp w=>Ajp h1 h2 (by rw [r1.length];exact Y2 (aL hp)) (by rw [r2.length];exact Y2 (aR hp)) (by rw [r1.length,r2.length];exact Y2 hz) (K.tupNew H (r1.append r2) 0 w))
   (fun ds r w=>r.lst_i fun x vs h1 n1 r1=>Aj1 H w rb fun y ws es h2 r2 w=>X6 w fun hz w=>lst h1 h2 r1 r2 hz w)
   (fun l r w=>r.loc_i fun p e=>Y8 (B:=fun p=>wpAny Γ.M A (binaryOp .Add (.ref p.1) u) Q E s) H e w fun x vs n ds e' q g r1 w=>Aj1 H w rb fun y ws es h2 r2 w=>X6 w fun hz w=>lst (Z8 g) h2 r1 r2 hz w)
   (fun r w=>hiE w) ra w)
  (fun w=>AdJ ra rb w fun x y t t' w=>sub_int (K.tick H vInt w))
  (fun w=>@D.casesOn (fun a=>VR ι s.heap v a→mulD a b σ Qd Xd→wpAny Γ.M A (binaryOp .Mult v u) Q E s) a (fun r w=>hiE w) (fun x r w=>hiE w)
   (fun x r w=>r.int_i fun t=>AaC w rb fun y t' w=>X6 w fun hy w=>mul_int (K.tick H vInt w) (.of_right (AmF (AcE hy)))) (fun x r w=>hiE w)
   (fun ds r w=>r.tup_i fun x vs h1 n1 r1=>VR.int_i (ι:=ι) (h:=s.heap) (v:=u) (i:=0) (P:=fun u=>wpAny Γ.M A (binaryOp .Mult (.ref x) u) Q E s)
    (@D.casesOn (fun b=>VR ι s.heap u b→(intK b fun y=>grd (decide (y=0)&&Nat.ble 1 ds.length) (Qd (.tup []) σ))→VR ι s.heap u (.int 0)) b (fun r w=>hiE w) (fun x r w=>hiE w) (fun y r w=>X6 w fun hy w=>of_decide_eq_true (aL hy)▸r) (fun x r w=>hiE w) (fun x r w=>hiE w) (fun x r w=>hiE w) (fun x r w=>hiE w) (fun r w=>hiE w) rb w)
    fun t=>AaC (C:=fun u'=>wpAny Γ.M A (binaryOp .Mult (.ref x) (.int 0 t)) Q E s) w rb fun y t' w=>X6 w fun hy w=>Akz h1 (by rw [r1.length];exact Y2 (aR hy)) (K.tupNew (vs:=[]) H LR.nil 0 w))
   (fun x r w=>hiE w) (fun x r w=>hiE w) (fun r w=>hiE w) ra w)
  (fun w=>AdJ ra rb w fun x y t t' w=>X6 w fun hy w=>floordiv_int (Int.ne_of_gt (of_decide_eq_true (aL hy))) (K.tick H vInt w) (.inl (PyProof.noPylong_small (by have:=of_decide_eq_true (aL hy);have:=of_decide_eq_true (aR hy);omega))))
  (fun w=>AdJ ra rb w fun x y t t' w=>X6 w fun hy w=>mod_int' (of_decide_eq_false (nT hy)) (K.tick H vInt w))
  (fun w=>AdJ ra rb w fun x y t t' w=>X6 w fun hy w=>by
   cases of_decide_eq_true (aL hy)
   cases of_decide_eq_true (aR hy)
   exact pow_int (by decide) (by decide +kernel) (K.tick H vInt w))
  (fun w=>Aj1 H w ra fun x vs ds h1 r1 w=>Aj1 H w rb fun y ws es h2 r2 w=>X6 w fun hz w=>Aft h1 h2 (by rw [r1.length,r2.length];exact Y2 hz) (K.listNew H (r1.append r2) 0 w)) hw
end
end Mine
end
section
namespace Mine
theorem Alx:∀a b:List Nat,ltS a b=decide (a < b):=@List.rec Nat _ (fun b=>by cases b<;>simp [ltS]) fun a r ih b=>by
 cases b with
 |nil=>simp [ltS]
 |cons b t =>
  show (if a < b then true else if a=b then ltS r t else false)=_
  by_cases h:a < b
  ·rw [if_pos h]
   exact (decide_eq_true (List.cons_lt_cons_iff.mpr (.inl h))).symm
  ·rw [if_neg h]
   by_cases e:a=b
   ·subst e
    rw [if_pos rfl,ih t]
    exact decide_eq_decide.mpr ⟨fun q=>List.cons_lt_cons_iff.mpr (.inr ⟨rfl,q⟩),fun q=>(List.cons_lt_cons_iff.mp q).elim (fun z=>absurd z (Nat.lt_irrefl _)) (·.2)⟩
   ·rw [if_neg e]
    exact (decide_eq_false fun q=>(List.cons_lt_cons_iff.mp q).elim h fun z=>e z.1).symm
noncomputable def leS (a b:List Nat):Prop:=¬b < a
theorem Ao2 {a b:List Nat}(h:a≤b):leS a b:=fun w=>(List.le_iff_lt_or_eq.mp h).elim (fun v=>List.lt_irrefl _ (List.lt_trans v w)) fun v=>List.lt_irrefl _ (v▸w)
theorem Ad7 {a b c:List Nat}(h:leS a b)(q:leS b c):leS a c:=Ao2 (List.le_trans (List.not_lt.mp h) (List.not_lt.mp q))
theorem Ag4 (x y:List Nat)(r:List (List Nat)):insS x (y::r)=if ltS y x then y::insS x r else x::y::r:=rfl
theorem AdX (x:List Nat):∀l,(insS x l).Perm (x::l):=@List.rec _ _ (.refl _) fun y r ih=>by
 rw [Ag4]
 by_cases q:ltS y x=true
 ·rw [if_pos q];exact (List.Perm.cons y ih).trans (.swap x y r)
 ·rw [if_neg q]
theorem Ac3:∀l,(AcU l).Perm l:=@List.rec _ _ (.refl _) fun x r ih=>(AdX x (AcU r)).trans (.cons x ih)
theorem AeI (x:List Nat):∀l,l.Pairwise leS→(insS x l).Pairwise leS:=@List.rec _ _ (fun h=>List.pairwise_singleton _ _) fun y r ih h=>by
 obtain ⟨h1,h2⟩:=List.pairwise_cons.mp h
 rw [Ag4]
 by_cases q:ltS y x=true
 ·rw [if_pos q]
  rw [Alx,decide_eq_true_eq] at q
  exact List.pairwise_cons.mpr ⟨fun z hz=>(List.mem_cons.mp ((AdX x r).mem_iff.mp hz)).elim (fun e w=>List.lt_irrefl _ (List.lt_trans (e▸w) q)) (h1 z),ih h2⟩
 ·rw [if_neg q]
  rw [Alx,decide_eq_true_eq] at q
  exact List.pairwise_cons.mpr ⟨fun z hz=>(List.mem_cons.mp hz).elim (fun e=>e▸q) fun hz=>Ad7 q (h1 z hz),h⟩
theorem AdS:∀l,(AcU l).Pairwise leS:=@List.rec _ _ List.Pairwise.nil fun x r ih=>AeI x _ ih
theorem Akp {l m:List (List Nat)}(h1:l.Perm m)(h2:l.Pairwise leS):l=AcU m :=
 List.Perm.eq_of_pairwise (fun a b _ _ x y=>List.le_antisymm (List.not_lt.mp x) (List.not_lt.mp y)) h2 (AdS m) (h1.trans (Ac3 m).symm)
theorem Aj4 {p y:Str}{r:List Str}(h:risingS p (y::r)=true):leS p.cps.toList y.cps.toList∧risingS y r=true:=by
 unfold risingS at h
 have a:=aL h
 rw [Bool.not_eq_true',ltCps_eq,decide_eq_false_iff_not] at a
 exact ⟨a,aR h⟩
theorem Agy:∀(r:List Str) (p:Str),risingS p r=true→((p::r).map fun x=>x.cps.toList).Pairwise leS:=@List.rec Str _ (fun p h=>List.pairwise_singleton _ _) fun y r ih p h =>
 have H:=Aj4 h
 have P:=ih y H.2
 List.pairwise_cons.mpr ⟨fun z hz=>(List.mem_cons.mp hz).elim (fun e=>e▸H.1) fun hz=>Ad7 H.1 ((List.pairwise_cons.mp P).1 z hz),P⟩
theorem Aee:∀l:List Str,sortedS l=true→(l.map fun x=>x.cps.toList).Pairwise leS:=@List.rec Str _ (fun h=>List.Pairwise.nil) fun x r ih h=>Agy r x h
theorem strs_lr {vs:List Value}{l:List Str}:StrsAre vs l↔LR (fun v x=>∃t,v=Value.str x t) vs l:=by
 constructor
 ·intro h
  induction h with
  |nil=>exact LR.nil
  |cons x t _ ih=>exact LR.cons ⟨t,rfl⟩ ih
 ·intro h
  exact LR.ind h .nil fun v vs x xs a r ih=>a.elim fun t e=>e▸.cons x t ih
section
variable {Γ:Wo}{FL:List Nat}{ι:Io}{s:Shared}{σ:Hp}{Qd:D→Hp→Prop}{Xd:Nat→Hp→Prop}{Q:Value→Shared→Prop}{E:Value→Shared→Prop}{A:Around}{v u:Value}{a b d:D}{n:Nat}{h:Heap}
theorem Aho {es:List (Str×Value)}{kvs:List (List Nat×D)}(r:Ents ι h es kvs):es.map (fun p=>p.1)=kvs.map (fun p=>toS p.1)∧∀x∈kvs.map (·.1),ascN x=true :=
 LR.ind r ⟨rfl,fun _ z=>nomatch z⟩ fun e es f kvs a r ih=>EntR.casesOn (motive:=fun e z=>(e::es).map (fun p=>p.1)=(f::kvs).map (fun p=>toS p.1)∧∀x∈(f::kvs).map (·.1),ascN x=true) a fun asc v =>
  ⟨congrArg (toS f.1::·) ih.1,fun x hx=>(List.mem_cons.mp hx).elim (fun z=>z▸asc) (ih.2 x)⟩
theorem AnK {vs:List Value}{l:List (List Nat)}(hs:StrsAre vs (l.map toS))(ha:∀x∈l,ascN x=true):VRs ι h vs (l.map D.str) :=
 @List.rec _ (fun l=>∀vs,LR (fun v x=>∃t,v=Value.str x t) vs (l.map toS)→(∀x∈l,ascN x=true)→VRs ι h vs (l.map D.str)) (fun vs r z=>r) (fun x l ih vs r z=>LR.cons_i (xs:=vs) r fun v vs e r=>LR.cons (e.elim fun t e=>e▸vStr (z x List.mem_cons_self)) (ih vs r fun y hy=>z y (List.mem_cons_of_mem _ hy))) l vs (strs_lr.mp hs) ha
theorem AeN:∀(l:List (Str×Value)) (vs:List Value),vs.length=l.length→(∀(j:Nat) (v:Value),vs[j]? = some v→∃(k:Str) (x:Value),l[j]? = some (k,x)∧∃t,v=Value.str k t)→StrsAre vs (l.map (·.1)):=@List.rec _ _ (fun vs hl h=>by
  rw [List.length_eq_zero_iff.mp hl];exact .nil) fun p l ih vs hl hv=>by
 cases vs with
 |nil=>exact absurd hl (Nat.succ_ne_zero _).symm
 |cons v vs =>
  obtain ⟨k,x,e,t,rfl⟩:=hv 0 v rfl
  cases Option.some.inj e
  exact .cons k t (ih vs (Nat.succ.inj hl) fun j u hu=>hv (j+1) u hu)
theorem AeJ {d:Addr}{kvs:List (Str×Value)}(hh:A.handled=none)(lo:(d==sysModules)=false)(hd:s.heap.DictOf (PySem.strKind Γ.prog Γ.w) d kvs)(hz:kvs.length < 60)
  (k:∀h' tk D vs e,X0 s.heap h'→s.heap.get? D=none→h'.get? D=some (X9 vs e)→StrsAre vs ((AcU (kvs.map fun p=>p.1.cps.toList)).map toS)→Q (.ref D) (upd s h' tk)) :
  wpAny Γ.M A (call (.builtin "sorted") [.ref d]) Q E s:=by
 obtain ⟨ep,hat⟩:=hd.dictAt
 have hz':kvs.length≤16777216:=Nat.le_trans (Nat.le_of_lt hz) (by decide)
 refine call_function_entry kind_sorted plain_sorted entry_sorted (args_sorted1 _) ?_
 unfold Builtin.«sorted»
 refine wpAny_bind (m:=checkCount "sorted" 1 1 _) (wpAny_pure ?_)
 refine wpAny_bind (kdu_collect (A:=A.in1) (kdl_dict (knd:=PySem.strKind Γ.prog Γ.w) (kvs:=kvs) (ep:=ep) lo) hh hat (kdl_size hz') fun h' tk acc hk hacc=>?_)
 have hl:acc.toList.length=kvs.length:=by rw [Array.length_toList];exact hacc.1
 refine wpAny_bind (wpAny_newList ?_ (by rw [hl];exact kdl_size hz'))
 have hS:StrsAre acc.toList (kvs.map (·.1)):=AeN kvs _ hl fun j v e=>by
  obtain ⟨k,x,h1,h2⟩:=hacc.2 j v (by rw [←Array.getElem?_toList];exact e)
  exact ⟨k,x,h1,Value.isStrOf_shape h2⟩
 have hoL:(h'.push (X9 acc.toList 0)).get? h'.objs.size=some (seqObj "list" acc.toList.toArray 0):=Heap.get?_push_size _ rfl
 refine wpAny_bind (wpAny_holding (wpAny_call_entry slot_list_sort ⟨_,hoL,rfl⟩ entry_list_sort (list_sort_treeK strKind_oneLt hoL hS.keysOf (fun v₁ v₂ rest e=>keyKind_strs (by rw [←e];exact hS)) (by rw [hl];exact Nat.lt_of_lt_of_le hz (by decide)) fun st' hp hs=>⟨_,rfl,?_⟩) (args_list_sort _)))
 obtain ⟨ss',a1,a2,a3⟩:=sorted_out_str hS hp hs
 obtain ⟨e,he⟩:=sortedHeap_at (out:=(arrOf st').map (·.2)) hoL
 refine wpAny_pure ⟨_,rfl,k (sortedHeap (h'.push (X9 acc.toList 0)) h'.objs.size acc.toList ((arrOf st').map (·.2))) tk h'.objs.size ((arrOf st').map (·.2)).toList e (fun b o q=>?_) (AlM hk) (by rw [he]) ?_⟩
 ·have q':=hk b o q
  have hb:=Heap.lt_size q'
  rw [sortedHeap_old (Nat.ne_of_lt hb) (by rw [Heap.size_push];exact Nat.lt_succ_of_lt hb)]
  exact Heap.get?_push_of_some _ q'
 ·have e1:ss'.map (fun x=>x.cps.toList)=AcU (kvs.map fun p=>p.1.cps.toList):=Akp (by have:=a2.map (fun x:Str=>x.cps.toList);rwa [List.map_map] at this) (Aee _ a3)
  rw [←e1,List.map_map,show (toS ∘ fun x:Str=>x.cps.toList)=id from rfl,List.map_id]
  exact a1
noncomputable def biV (b:Bi):Value:=@Bi.casesOn (fun b=>Value) b (.builtin "len") (.type "str") (.builtin "isinstance") (.builtin "max") (.type "int") (.type "tuple") (.type "list") (.builtin "sorted") (.type "dict") (.type "dict") (.type "list")
theorem AiS (H:HR Γ ι σ s.heap)(r:VR ι s.heap v d)(hw:AdH d σ Qd Xd)(K:Kn Γ FL VR ι s Qd Xd Q E):wpAny Γ.M A (call (.builtin "isinstance") [v,.type "bool"]) Q E s :=
 @D.casesOn (fun d=>VR ι s.heap v d→AdH d σ Qd Xd→wpAny Γ.M A (call (.builtin "isinstance") [v,.type "bool"]) Q E s) d (fun r w=>hiE w) (fun c r w=>r.bool_i (IsiPair.bool_bool (K.now H AbD w))) (fun c r w=>r.int_i fun t=>IsiPair.int_bool (K.tick H AbD w))
  (fun x r w=>hiE w) (fun x r w=>hiE w) (fun x r w=>hiE w) (fun x r w=>hiE w) (fun r w=>hiE w) r hw
theorem Ajd {i:Int}(h:0≤i)(q:i < 1000):i.natAbs.log2 < 1920:=by
 by_cases h0:i.natAbs=0
 ·rw [h0];decide
 ·exact Nat.lt_trans ((Nat.log2_lt h0).mpr (show i.natAbs < 2 ^ 10 by omega)) (by decide)
theorem AkC:(List.range 1000).all (fun n=>ascN (strI (Int.ofNat n)))=true:=by kernel_rfl
theorem Aj5 {i:Int}(h:0≤i)(q:i < 1000):ascN (strI i)=true:=by
 obtain ⟨n,rfl⟩:=Int.eq_ofNat_of_zero_le h
 exact List.all_eq_true.mp AkC n (List.mem_range.mpr (Int.ofNat_lt.mp q))
theorem Apa {vs:List Value}{ds:List D}(r:VRs ι h vs ds):(vs.toArray.size:Int)=ds.length:=congrArg Int.ofNat r.length
theorem ArK {bi:Bi}{as:List D}{vs:List Value}(h1:bi≠.isBool)(h2:bi≠.dictzip)(h3:bi≠.listzip)(Rm:Room A n)(H:HR Γ ι σ s.heap)(r:VRs ι s.heap vs as)
  (hw:biD bi as σ Qd Xd) (K:Kn Γ FL VR ι s Qd Xd Q E):wpAny Γ.M A (call (biV bi) vs) Q E s :=
 have i63:∀{l:List Value},l.toArray.size≤100000→(l.toArray.size:Int) < 2 ^ 63:=fun h=>Int.lt_of_le_of_lt (Int.ofNat_le.mpr h) (by decide)
 @Bi.casesOn (fun bi=>bi≠.isBool→bi≠.dictzip→bi≠.listzip→biD bi as σ Qd Xd→wpAny Γ.M A (call (biV bi) vs) Q E s) bi
  (fun _ _ _ w=>AaB w r fun v d rv w=>AiO H w rv fun a us ds q rs w=>X6 w fun hz w=>by
   have hl:(us.toArray.size:Int)=ds.length:=Apa rs
   have hz':(us.toArray.size:Int) < 2 ^ 63:=i63 (by rw [List.size_toArray,rs.length];exact Y2 hz)
   exact q.elim (fun q=>PyProof.Rows.len_tuple (show IsTup s.heap a _ from q.1) hz' (hl▸K.tick H vInt w)) fun q=>call_len_list (show s.heap.IsList a _ from q) hz' (hl▸K.tick H vInt w))
  (fun _ _ _ w=>AaB w r fun v d rv w=>AaC w rv fun i t w=>X6 w fun hi w=>PySem.P.str_of_int (Ajd (of_decide_eq_true (aL hi)) (of_decide_eq_true (aR hi))) (K.tick H (vStr (Aj5 (of_decide_eq_true (aL hi)) (of_decide_eq_true (aR hi)))) w))
  (fun h _ _ w=>absurd rfl h)
  (fun _ _ _ w=>AdQ w r fun v u d e rv ru w=>AaC w rv fun x t w=>AaC w ru fun y t' w=>max_two_ints Rm.hh fun h' tk hk=>by
   by_cases q:x < y
   ·rw [if_pos q] at w;rw [if_pos q];exact K.more H hk vInt w
   ·rw [if_neg q] at w;rw [if_neg q];exact K.more H hk vInt w)
  (fun _ _ _ w=>AaB w r fun v d rv w=>AnE w rv fun c w=>call_int_bool (K.tick H vInt w))
  (fun _ _ _ w=>AaB w r fun v d rv w=>AiO H w rv fun a us ds q rs w=>X6 w fun hz w=>q.elim (fun q=>call_tuple_tup (show IsTup s.heap a _ from q.1) (K.now H (vTup q.1 q.2 rs) w)) fun q=>call_tuple_list (show s.heap.IsList a _ from q) (fun h' hk =>
   have hk':X0 s.heap (h'.push { cls:=.type "tuple",data:=.seq us.toArray }):=fun b o e=>Heap.get?_push_of_some _ (hk b o e)
   K.more H hk' (vTup AdK (H.fresh (AlM hk)) (rs.mono (Mo.more hk'))) w) (by rw [List.size_toArray,rs.length];exact Nat.le_trans (Y2 hz) (by decide)))
  (fun _ _ _ w=>AaB w r fun v d rv w=>AiO H w rv fun a us ds q rs w=>X6 w fun hz w=>by
   have fin:∀h' c',(∀b o',s.heap.get? b=some o'→h'.get? b=some o')→h'.get? s.heap.objs.size=some { cls:=.type "list",dict:=none,data:=.seq us.toArray c',slots:=#[] }→Q (.ref s.heap.objs.size) { s with heap:=h' }:=fun h' c' hk hg =>
    K.more H hk (vLst ⟨_,hg,rfl,_,rfl⟩ (H.fresh X1) (rs.mono (Mo.more hk))) w
   have hz':us.toArray.size≤100000:=by rw [List.size_toArray,rs.length];exact Y2 hz
   exact q.elim (fun q=>q.1.elim fun o e=>e.2.2.elim fun m e3=>call_list_seq a (.inr rfl) e.1 e.2.1 e3 fin (fit hz')) fun q=>q.elim fun o e=>e.2.2.elim fun m e3=>call_list_seq a (.inl rfl) e.1 e.2.1 e3 fin (fit hz'))
  (fun _ _ _ w=>AaB w r fun v d rv w=>Ak3 H w rv fun l a es kvs ep q hd rs w=>X6 w fun hz w=>AeJ Rm.hh (H.notSys ep) hd (by rw [rs.length];exact AcE hz) fun h' tk D vs e hk hD hg hS=>by
   have e1:(es.map fun p=>p.1.cps.toList)=kvs.map (·.1):=by
    have:=congrArg (List.map fun x:Str=>x.cps.toList) (Aho rs).1
    rwa [List.map_map,List.map_map] at this
   rw [e1] at hS
   exact K.more H hk (vLst (Z8 hg) (H.fresh hD) (AnK hS fun x hx=>(Aho rs).2 x ((Ac3 _).mem_iff.mp hx))) w)
  (fun _ _ _ w=>AaB w r fun v d rv w=>Ak3 H w rv fun l a es kvs ep q hd rs w=>X6 w fun hz w=>PySem.kt_call_dict (knd:=PySem.strKind Γ.prog Γ.w) (H.notSys ep) hd (by rw [rs.length];exact Nat.le_trans (Y2 hz) (by decide)) fun h' hd' hs =>
   have k:X0 s.heap h':=fun b o e=>by rw [hs.2 b (Nat.ne_of_lt (Heap.lt_size e))];exact Heap.get?_push_of_some _ e
   K.numNew (o:=.dict kvs) H k X1 H.mainLt (fun m=>DicO.mk hd' (Ents.mono m rs)) w)
  (fun _ h _ w=>absurd rfl h) (fun _ _ h w=>absurd rfl h) h1 h2 h3 hw
end
end Mine
end
section
namespace Mine
noncomputable def putV (k:Str)(v:Value)(es:List (Str×Value)):List (Str×Value):=@List.rec (Str×Value) (fun es=>List (Str×Value)) [(k,v)] (fun p r ih=>if p.1=k then (k,v)::r else p::ih) es
theorem AdY {k:Str}{v:Value}{p:Str×Value}{r:List (Str×Value)}:putV k v (p::r)=if p.1=k then (k,v)::r else p::putV k v r:=rfl
theorem AcI {k:Str}{v:Value}:∀es:List (Str×Value),(es.map (·.1)).Nodup→stored es k v=putV k v es:=@List.rec _ _ (fun hn=>rfl) fun p r ih hn=>by
 obtain ⟨h1,h2⟩:=List.nodup_cons.mp hn
 rw [AdY]
 by_cases q:p.1=k
 ·rw [if_pos q]
  have hm:(r.map fun kv=>if kv.1=k then (kv.1,v) else kv)=r:=by
   conv=>rhs;rw [←List.map_id r]
   exact List.map_congr_left fun x hx=>if_neg fun z=>h1 (by show p.1∈_;rw [q,←z];exact List.mem_map_of_mem (f:=(·.1)) hx)
  simp [stored,q,hm]
 ·rw [if_neg q,←ih h2]
  simp only [stored,List.any_cons,q,decide_false,Bool.false_or,List.map_cons,if_false]
  split<;>rfl
theorem AgR {k:Str}{v:Value}{x:Str}:∀es:List (Str×Value),x∈(putV k v es).map (·.1)→x=k∨x∈es.map (·.1):=@List.rec _ _ (fun h=>.inl (List.mem_singleton.mp h)) fun p r ih h=>by
 rw [AdY] at h
 by_cases q:p.1=k
 ·rw [if_pos q] at h
  exact (List.mem_cons.mp h).imp id fun z=>List.mem_cons_of_mem _ z
 ·rw [if_neg q] at h
  exact (List.mem_cons.mp h).elim (fun z=>.inr (z▸List.mem_cons_self)) fun z=>(ih z).imp id fun z=>List.mem_cons_of_mem _ z
theorem Ago {k:Str}{v:Value}:∀es:List (Str×Value),(es.map (·.1)).Nodup→((putV k v es).map (·.1)).Nodup:=@List.rec _ _ (fun hn=>List.nodup_cons.mpr ⟨(fun z=>nomatch z),List.nodup_nil⟩) fun p r ih hn=>by
 obtain ⟨h1,h2⟩:=List.nodup_cons.mp hn
 rw [AdY]
 by_cases q:p.1=k
 ·rw [if_pos q];show (k::r.map (·.1)).Nodup;exact List.nodup_cons.mpr ⟨q▸h1,h2⟩
 ·rw [if_neg q];show (p.1::(putV k v r).map (·.1)).Nodup;exact List.nodup_cons.mpr ⟨fun z=>(AgR r z).elim q h1,ih h2⟩
theorem Akq {k:Str}{v:Value}:∀es:List (Str×Value),(putV k v es).length≤es.length+1:=@List.rec _ _ (Nat.le_refl _) fun p r ih=>by
 rw [AdY]
 by_cases q:p.1=k
 ·rw [if_pos q];exact Nat.le_succ _
 ·rw [if_neg q];exact Nat.succ_le_succ ih
section
variable {ι:Io}{h:Heap}{es:List (Str×Value)}{kvs:List (List Nat×D)}{x:List Nat}{v:Value}{d:D}
theorem Ents.put (r:Ents ι h es kvs)(a:ascN x=true)(hv:VR ι h v d):Ents ι h (putV (toS x) v es) (putK kvs x d):=by
 refine LR.ind r (LR.cons (EntR.mk (kd:=(x,d)) a hv) LR.nil) fun e es f kvs q r ih=>EntR.casesOn (motive:=fun e z=>Ents ι h (putV (toS x) v (e::es)) (putK (f::kvs) x d)) q fun af vf=>?_
 rw [AdY,show putK (f::kvs) x d=bT (sEq f.1 x) ((f.1,d)::kvs) (f::putK kvs x d) from rfl]
 cases q:sEq f.1 x with
 |true =>
  have e:toS f.1=toS x:=by rw [AbU];exact q
  rw [if_pos e]
  exact LR.cons (Adc e▸EntR.mk (kd:=(f.1,d)) af hv) r
 |false =>
  rw [if_neg (by rw [AbU,q];exact Bool.false_ne_true)]
  exact LR.cons (EntR.mk af vf) ih
theorem Ents.drop (r:Ents ι h es kvs)(hn:(es.map (·.1)).Nodup):Ents ι h (without es (toS x)) (Acn kvs x):=by
 refine LR.ind (P:=fun es kvs=>(es.map (·.1)).Nodup→Ents ι h (without es (toS x)) (Acn kvs x)) r (fun _=>LR.nil) (fun e es f kvs q r ih=>EntR.casesOn (motive:=fun e z=>((e::es).map (·.1)).Nodup→Ents ι h (without (e::es) (toS x)) (Acn (f::kvs) x)) q fun {u} af vf hn=>?_) hn
 obtain ⟨h1,h2⟩:=List.nodup_cons.mp hn
 rw [show Acn (f::kvs) x=bT (sEq f.1 x) kvs (f::Acn kvs x) from rfl]
 cases q:sEq f.1 x with
 |true =>
  have e:toS f.1=toS x:=by rw [AbU];exact q
  rw [show without ((toS f.1,u)::es) (toS x)=without es (toS x) by simp [without,e],without_of_not_mem _ _ (e▸h1)]
  exact r
 |false =>
  have e:¬toS f.1=toS x:=by rw [AbU,q];exact Bool.false_ne_true
  rw [show without ((toS f.1,u)::es) (toS x)=(toS f.1,u)::without es (toS x) by simp [without,e]]
  exact LR.cons (EntR.mk af vf) (ih h2)
theorem Ents.merge {more:List (Str×Value)}{more':List (List Nat×D)}(r:Ents ι h more more')(a:Ents ι h es kvs)(hn:(es.map (·.1)).Nodup):Ents ι h (merged es more) (Y3 kvs more') :=
 LR.ind (P:=fun more more'=>∀es kvs,Ents ι h es kvs→(es.map (·.1)).Nodup→Ents ι h (merged es more) (Y3 kvs more')) r (fun es kvs a _=>a) (fun e m f m' q r ih es kvs a hn=>EntR.casesOn (motive:=fun e z=>Ents ι h (merged es (e::m)) (Y3 kvs (f::m'))) q fun {u} af vf=>by
  show Ents ι h (merged (stored es (toS f.1) u) m) (Y3 (putK kvs f.1 f.2) m')
  rw [AcI es hn]
  exact ih _ _ (Ents.put a af vf) (Ago es hn)) es kvs a hn
theorem Aal {prog:Program}{w:World}{a:Addr}(e:h.DictOf (PySem.strKind prog w) a es):(es.map (·.1)).Nodup:=e.elim fun _ e=>e.elim fun _ e=>e.elim fun _ e=>e.2.2.2.2.2
theorem U1 {prog:Program}{w:World}{a:Addr}(e:h.DictOf (PySem.strKind prog w) a es):J6 h a:=e.elim fun o e=>e.elim fun _ e=>e.elim fun _ e=>⟨o,e.1⟩
theorem AjY (sep:List Nat):∀(r:List (List Nat)) (x:List Nat),AcM sep (x::r)=x++r.flatMap (fun p=>sep++p):=@List.rec _ _ (fun x=>by simp [AcM]) fun y r ih x=>by
 show x++sep++AcM sep (y::r)=_
 rw [ih]
 simp
theorem Ajm (sep:List Nat)(ss:List (List Nat)):PySem.Builtin.Str.glued (toS sep) (ss.map toS)=toS (AcM sep ss):=by
 cases ss with
 |nil=>simp [PySem.Builtin.Str.glued,AcM,toS,Str.empty]
 |cons x r =>
  rw [AjY]
  unfold PySem.Builtin.Str.glued
  have key:∀(r:List (List Nat)) (acc:List Nat),(r.map toS).foldl (fun acc (p:Str)=>acc++(toS sep).cps++p.cps) acc.toArray=(acc++r.flatMap (fun p=>sep++p)).toArray:=@List.rec _ _ (fun acc=>by simp) fun y r ih acc=>by
   have:acc.toArray++(toS sep).cps++(toS y).cps=(acc++(sep++y)).toArray:=by simp [toS]
   rw [List.map_cons,List.foldl_cons,this,ih]
   simp
  simp only [List.map_cons,List.drop_succ_cons,List.drop_zero,List.headD_cons]
  exact congrArg Str.mk (key r x)
theorem AjG {sep:List Nat}(hs:ascN sep=true):∀ss:List (List Nat),(∀x∈ss,ascN x=true)→ascN (AcM sep ss)=true:=@List.rec _ _ (fun z=>rfl) fun x r ih z=>by
 cases r with
 |nil=>exact z x List.mem_cons_self
 |cons y r =>
  show ascN (x++sep++AcM sep (y::r))=true
  exact AeS (AeS (z x List.mem_cons_self) hs) (ih fun w hw=>z w (List.mem_cons_of_mem _ hw))
theorem AkH {d:D}{ds:List D}{ss:List (List Nat)}{G:Prop}(e:AbZ (d::ds)=some ss)(k:∀x r,d=.str x→ss=x::r→AbZ ds=some r→G):G:=by
 have e':(@D.casesOn (fun d=>Option (List (List Nat))) d none (fun x=>none) (fun x=>none) (fun x=>(AbZ ds).map (x::·)) (fun x=>none) (fun x=>none) (fun x=>none) none)=some ss:=e
 cases d<;>first|exact nope e'|skip
 rename_i x
 cases q:AbZ ds with
 |none=>rw [q] at e';exact nope e'
 |some r=>rw [q] at e';exact k x r rfl (Option.some.inj e').symm q
theorem AiJ {vs:List Value}{ds:List D}{ss:List (List Nat)}(r:VRs ι h vs ds)(e:AbZ ds=some ss):StrsAre vs (ss.map toS)∧∀x∈ss,ascN x=true :=
 LR.ind (P:=fun vs ds=>∀ss,AbZ ds=some ss→StrsAre vs (ss.map toS)∧∀x∈ss,ascN x=true) r (fun ss e=>by cases Option.some.inj e;exact ⟨.nil,fun _ z=>nomatch z⟩) (fun v vs d ds a r ih ss e=>AkH e fun x r' ed es er=>by
  subst ed es
  exact VR.str_i (P:=fun v=>StrsAre (v::vs) ((x::r').map toS)∧∀y∈x::r',ascN y=true) a fun t ax=>⟨.cons _ t (ih r' er).1,fun y hy=>(List.mem_cons.mp hy).elim (fun z=>z▸ax) ((ih r' er).2 y)⟩) ss e
theorem Adg:∀(l:List D) (p:List D×D),V4 l=some p→l=p.1++[p.2]:=@List.rec D _ (fun p e=>nope e) fun y l ih p e=>by
 cases l with
 |nil=>cases Option.some.inj (show some ([],y)=some p from e);rfl
 |cons z r =>
  have e':(V4 (z::r)).map (fun p=>(y::p.1,p.2))=some p:=e
  cases q:V4 (z::r) with
  |none=>rw [q] at e';exact nope e'
  |some p'=>rw [q] at e';cases Option.some.inj e';exact congrArg (y::·) (ih p' q)
end
theorem Ams (l:Addr)(items:Array Value)(n:Nat)(b:Addr)(items2:Array Value)(n2:Nat)(dd:Option Addr)(sl:Array (Option Value))(hs0:¬(!items.isEmpty&&Builtin.List.listTooLong (items.size+items2.size))=true)(hs1:items.size≤sizeLine)(hs2:items.size+items2.size≤sizeLine+1) :
  Meets (Builtin.«list.extend» ⟨[.ref l,.ref b],[]⟩) (fun _ R s=>s.heap.get? l=some { cls:=.type "list",dict:=none,data:=.seq items n,slots:=#[] }∧s.heap.get? b=some { cls:=.type "tuple",dict:=dd,data:=.seq items2 n2,slots:=sl }∧R (.ok (.ret Value.none)) { s with heap:=s.heap.update l (Obj.mapSeq fun x=>x++items2),toks:=s.toks }) :=
 .of_wp fun prog w A R s h=>by
  obtain ⟨hp,g,d,tk,os⟩:=s
  obtain ⟨hl,hb,h⟩:=h
  have f4:=AutoSeq1.sub_tuple_list
  have hz':(items++items2).size≤sizeLine+1:=by rw [Array.size_append];exact hs2
  wp_walk using (wpAny_updateSeq hl rfl (hz:=hs1) (_hz':=hz')),wpAny_loadPart' hl,wpAny_loadPart' hb
  exact ⟨_,rfl,h⟩
theorem AnB (l:Addr)(items:Array Value)(n:Nat)(b:Addr)(items2:Array Value)(n2:Nat)(dd:Option Addr)(sl:Array (Option Value))(hs0:¬(!items.isEmpty&&Builtin.List.listTooLong (items.size+items2.size))=true)(hs1:items.size≤sizeLine)(hs2:items.size+items2.size≤sizeLine+1) :
  Meets (Builtin.«list.extend» ⟨[.ref l,.ref b],[]⟩) (fun _ R s=>s.heap.get? l=some { cls:=.type "list",dict:=none,data:=.seq items n,slots:=#[] }∧s.heap.get? b=some { cls:=.type "list",dict:=dd,data:=.seq items2 n2,slots:=sl }∧R (.ok (.ret Value.none)) { s with heap:=s.heap.update l (Obj.mapSeq fun x=>x++items2),toks:=s.toks }) :=
 .of_wp fun prog w A R s h=>by
  obtain ⟨hp,g,d,tk,os⟩:=s
  obtain ⟨hl,hb,h⟩:=h
  have f3:=AutoSeq1.sub_list_list
  have hz':(items++items2).size≤sizeLine+1:=by rw [Array.size_append];exact hs2
  wp_walk using (wpAny_updateSeq hl rfl (hz:=hs1) (_hz':=hz')),wpAny_loadPart' hl,wpAny_loadPart' hb
  exact ⟨_,rfl,h⟩
noncomputable def bmId (b:Bm):String:=@Bm.casesOn (fun b=>String) b "list.append" "list.pop" "list.pop" "list.extend" "dict.get" "dict.get" "dict.pop" "dict.update" "str.join"
section
variable {Γ:Wo}{FL:List Nat}{ι:Io}{s:Shared}{σ:Hp}{Qd:D→Hp→Prop}{Xd:Nat→Hp→Prop}{Q:Value→Shared→Prop}{E:Value→Shared→Prop}{A:Around}{v u:Value}{o d:D}{h':Heap}{t:Nat}
theorem Afe {G:Prop}{l a:Nat}{ob o':AO}(H:HR Γ ι σ s.heap)(hF:∀b∈FL,b∉adr ι)(ep:ι.nums[l]? = some (a,none))(q:σ[l]? = some ob)(hs:Heap.SameBut a s.heap h')(hv:J6 h' a)(r:Mo ι ι s.heap h'→ObjR Γ ι h' (a,none) o')
  (k:Ext FL [] ι ι s.heap h'→HR Γ ι (σ.set l o') h'→Mo ι ι s.heap h'→G):G :=
 have hs':∀b,¬Of (a,none) b→h'.get? b=s.heap.get? b:=fun b hb=>hs.2 b fun z=>hb (.inl z)
 have m:=Mo.upd ep hs'
 k (Ext.upd ep hF (fun b hb=>Ac0 hb fun z=>z▸hv) hs') (H.upd ep q hs' (r m)) m
theorem Kn.upd {l a:Nat}{ob o':AO}(K:Kn Γ FL VR ι s Qd Xd Q E)(H:HR Γ ι σ s.heap)(hF:∀b∈FL,b∉adr ι)(ep:ι.nums[l]? = some (a,none))(q:σ[l]? = some ob)(hs:Heap.SameBut a s.heap h')(hv:J6 h' a)(r:Mo ι ι s.heap h'→ObjR Γ ι h' (a,none) o')
  (rv:VR ι s.heap v d) (w:Qd d (σ.set l o')):Q v (upd s h' t):=Afe H hF ep q hs hv r fun e h m=>K.ok v ι h' t d _ e h (rv.mono m) w
theorem lstO {a:Nat}{vs:List Value}{ds:List D}{n:Nat}{h:Heap}(g:h'.get? a=some (X9 vs n))(r:VRs ι h vs ds):Mo ι ι h h'→ObjR Γ ι h' (a,none) (.list ds):=fun m=>LstO.mk g (r.mono m)
theorem dicO {a:Nat}{es:List (Str×Value)}{kvs:List (List Nat×D)}{h:Heap}(g:h'.DictOf (PySem.strKind Γ.prog Γ.w) a es)(r:Ents ι h es kvs):Mo ι ι h h'→ObjR Γ ι h' (a,none) (.dict kvs):=fun m=>DicO.mk g (Ents.mono m r)
theorem ApK {b:Bm}{P:Prop}{pl:Sem Bool}{Q:Value×List Value→Shared→Prop}(H:HR Γ ι σ s.heap)(r:VR ι s.heap v o)(hw:isK σ o (bmK b) P)(k:P→Q (.builtin (bmId b),[v]) s) :
  wpAny Γ.M A (getMethod v (Str.ofString (bmOf b)) pl) Q E s :=
 have onL:(locK o fun l=>at_ σ l fun o=>W6 o fun x=>P)→P∧s.TypeIs v "list" ∧ ∀a,v=.ref a→∃ob,s.heap.get? a=some ob∧ob.dict=none:=fun w=>U4 w r fun l p e w=>Y8 (B:=fun p=>P∧s.TypeIs (.ref p.1) "list" ∧ ∀a,Value.ref p.1=.ref a→∃ob,s.heap.get? a=some ob∧ob.dict=none) H e w fun a vs n ds x y g q p=>⟨p,⟨_,g,rfl⟩,fun b z=>⟨_,(congrArg s.heap.get? (Value.ref.inj z)).symm.trans g,rfl⟩⟩
 have onD:(locK o fun l=>at_ σ l fun o=>W2 o fun x=>P)→P∧s.TypeIs v "dict" ∧ ∀a,v=.ref a→∃ob,s.heap.get? a=some ob∧ob.dict=none:=fun w=>U4 w r fun l p e w=>V3 (B:=fun p=>P∧s.TypeIs (.ref p.1) "dict" ∧ ∀a,Value.ref p.1=.ref a→∃ob,s.heap.get? a=some ob∧ob.dict=none) H e w fun a es kvs x y g q p=>⟨p,g.typeIs,fun b z=>g.mapOf.noDict b z⟩
 @Bm.casesOn (fun b=>isK σ o (bmK b) P→(P→Q (.builtin (bmId b),[v]) s)→wpAny Γ.M A (getMethod v (Str.ofString (bmOf b)) pl) Q E s) b
  (fun w k=>getMethod_builtin (onL w).2.1 PySem.F.plainAttrs_list PySem.F.slot_list_append PySem.F.type_list_append (onL w).2.2 (k (onL w).1)) (fun w k=>getMethod_builtin (onL w).2.1 PySem.F.plainAttrs_list PySem.F.slot_list_pop PySem.F.type_list_pop (onL w).2.2 (k (onL w).1))
  (fun w k=>getMethod_builtin (onL w).2.1 PySem.F.plainAttrs_list PySem.F.slot_list_pop PySem.F.type_list_pop (onL w).2.2 (k (onL w).1)) (fun w k=>getMethod_builtin (onL w).2.1 PySem.F.plainAttrs_list PySem.F.slot_list_extend PySem.F.type_list_extend (onL w).2.2 (k (onL w).1))
  (fun w k=>getMethod_builtin (onD w).2.1 PySem.F.plainAttrs_dict PySem.F.slot_dict_get PySem.F.type_dict_get (onD w).2.2 (k (onD w).1)) (fun w k=>getMethod_builtin (onD w).2.1 PySem.F.plainAttrs_dict PySem.F.slot_dict_get PySem.F.type_dict_get (onD w).2.2 (k (onD w).1))
  (fun w k=>getMethod_builtin (onD w).2.1 PySem.F.plainAttrs_dict PySem.F.slot_dict_pop PySem.F.type_dict_pop (onD w).2.2 (k (onD w).1)) (fun w k=>getMethod_builtin (onD w).2.1 PySem.F.plainAttrs_dict PySem.F.slot_dict_update PySem.F.type_dict_update (onD w).2.2 (k (onD w).1))
  (fun w k=>Acq (C:=fun v=>(P→Q (.builtin "str.join",[v]) s)→wpAny Γ.M A (getMethod v (Str.ofString "join") pl) Q E s) w r (fun x t ax p k=>getMethod_builtin (typeIs_str _ _ _) PySem.F.plainAttrs_str PySem.F.slot_str_join PySem.F.type_str_join (fun a e=>nomatch e) (k p)) k) hw k
end
end Mine
end
section
namespace Mine
theorem Ag7 (n:Nat):sliceRange ((n:Int) - 1) (-1) (-1)=(List.range n).reverse:=by
 unfold sliceRange
 rw [if_neg (by decide)]
 have hc:((if (n:Int) - 1 > -1 then ((n:Int) - 1 - -1 - -1 - 1) / - -1 else 0:Int)).toNat=n:=by
  by_cases h:n=0
  ·subst h;rfl
  ·rw [if_pos (by omega)]
   have e:((n:Int) - 1 - -1 - -1 - 1)=n+0:=by omega
   rw [e]
   simp
 simp only [hc]
 refine List.ext_getElem (by simp) fun i h1 h2=>?_
 simp at h1
 simp
 omega
theorem AkG (vs:List Value):slicePick vs.toArray none none (some (-1))=vs.reverse.toArray:=by
 have key:∀(l:List Value),(List.range l.length).filterMap (fun k=>l[k]?)=l:=@List.rec Value _ rfl fun x r ih=>by
  rw [List.length_cons,List.range_succ_eq_map,List.filterMap_cons]
  simp only [List.getElem?_cons_zero,List.filterMap_map]
  exact congrArg (x::·) ih
 rw [←Array.toArray_toList (xs:=slicePick vs.toArray none none (some (-1)))]
 refine congrArg List.toArray ?_
 unfold slicePick
 simp only [sliceBounds,Option.getD_some]
 rw [if_neg (by decide),if_neg (by decide),Ag7]
 simp only [List.filterMap_reverse,List.getElem?_toArray]
 rw [List.size_toArray,key]
section
variable {Γ:Wo}{FL:List Nat}{ι:Io}{s:Shared}{σ:Hp}{Qd:D→Hp→Prop}{Xd:Nat→Hp→Prop}{Q:Value→Shared→Prop}{E:Value→Shared→Prop}{A:Around}{v u:Value}{o d:D}{vs:List Value}{ds:List D}
theorem Aol {value:PySem.Expr}{l u:Option PySem.Expr}{st:PySem.Expr}{p:Pos}{sl:Addr}{a:Addr}{t:Tok}(H:HR Γ ι σ s.heap)(hl:IsSq "list" s.heap a vs.toArray)(rs:VRs ι s.heap vs ds)(hz:Nat.ble ds.length most=true)
  (hs:s.heap.IsSliceOf sl .none .none (.int (-1) t)) (K:Kn Γ FL VR ι s Qd Xd Q E) (w:Qd (.lst ds.reverse) σ):wpAny Γ.M A (subscriptTail value (.Slice l u (some st) p) (.ref a) (.ref sl)) Q E s :=
 tail_any (show s.heap.IsList a _ from hl).typeIs PySem.list_getitem_lookup (wpAny_getItem_list_slice hl hs .none .none (.int _ _) (by decide) (by rw [AkG];exact K.lstNew H rs.rev 0 w) (by rw [List.size_toArray,rs.length];exact fit (Y2 hz))) rfl
theorem toN {v:List Value}{d:List D}{h:Heap}(r:VRs ι h v d){m:Nat}(hz:Nat.ble d.length m=true):v.toArray.size≤m:=by rw [List.size_toArray,r.length];exact Y2 hz
theorem Af3 {o i:D}{x:Value}{Kf:Hp→Prop}{Q:Unit→Shared→Prop}(H:HR Γ ι σ s.heap)(hF:∀b∈FL,b∉adr ι)(ro:VR ι s.heap v o)(ri:VR ι s.heap u i)(rd:VR ι s.heap x d)
  (hw:Aaf o i d σ Kf) (O:∀h' tk' σ',Ext FL [] ι ι s.heap h'→HR Γ ι σ' h'→Kf σ'→Q () (upd s h' tk')):wpAny Γ.M A (setItem v u x) Q E s :=
 U4 hw ro fun l p e w=>@D.casesOn (fun i=>VR ι s.heap u i→Aaf (.loc l) i d σ Kf→wpAny Γ.M A (setItem (.ref p.1) u x) Q E s) i (fun r w=>hiE w) (fun x r w=>hiE w)
  (fun k ri w=>ri.int_i fun t=>Y8 (B:=fun p=>wpAny Γ.M A (setItem (.ref p.1) (.int k t) x) Q E s) H e w fun a vs n ds ep q hg rs w=>X6 w fun hk w=>by
   have hn:=toN rs (aR hk)
   have hlt:k < (vs.toArray.size:Int):=(Int.toNat_lt (of_decide_eq_true (aL (aL hk)))).mp (by rw [List.size_toArray,rs.length];exact AcE (aR (aL hk)))
   refine ki_setAt (items:=vs.toArray) (n:=n) hg (of_decide_eq_true (aL (aL hk))) (Int.lt_of_lt_of_le hlt (Int.le_trans (Int.ofNat_le.mpr hn) (by decide))) hlt ?_
   have e1:=PySem.IsL.update (show PySem.IsL s.heap a vs.toArray n from hg) (fun xs=>xs.setIfInBounds k.toNat x)
   rw [show vs.toArray.setIfInBounds k.toNat x=(vs.set k.toNat x).toArray by simp] at e1
   exact Afe (o':=.list (ds.set k.toNat d)) H hF ep q (Heap.SameBut.update ..) ⟨_,e1⟩ (lstO e1 (rs.set rd)) fun E1 H1 m=>O _ _ _ E1 H1 w)
  (fun y ri w=>ri.str_i fun t ay=>V3 (B:=fun p=>wpAny Γ.M A (setItem (.ref p.1) (.str (toS y) t) x) Q E s) H e w fun a es kvs ep q hd rs w=>X6 w fun hz w =>
   wpAny_setItem_pairs (knd:=PySem.strKind Γ.prog Γ.w) (k:=toS y) Aa6 hd (fun h' hm hs=>by
    rw [AcI es (Aal hd)] at hm
    exact Afe (o':=.dict (putK kvs y d)) H hF ep q hs (U1 hm) (dicO hm (Ents.put rs ay rd)) fun E1 H1 m=>O _ _ _ E1 H1 w) (by rw [rs.length];exact fit (Y2 hz)))
  (fun x r w=>hiE w) (fun x r w=>hiE w) (fun x r w=>hiE w) (fun r w=>hiE w) ri w
section
variable {us:List Value}{as:List D}(H:HR Γ ι σ s.heap)(hF:∀b∈FL,b∉adr ι)(ra:VRs ι s.heap us as)(K:Kn Γ FL VR ι s Qd Xd Q E)
include H hF ra K
theorem Ahd {l:Nat}{p:Nat×Option Nat}(e:ι.nums[l]? = some p)(hw:un as (Ahe l) σ Qd Xd):wpAny Γ.M A (call (.builtin "list.append") (.ref p.1::us)) Q E s :=
 AaB hw ra fun u x ru w=>Y8 (B:=fun p=>wpAny Γ.M A (call (.builtin "list.append") [.ref p.1,u]) Q E s) H e w fun a vs n ds ep q hg rs w=>X6 w fun hz w =>
  call_meets PySem.F.slot_list_append ⟨_,hg,rfl⟩ PySem.F.entry_list_append (PySem.F.args_list_append_2 _ _) (PySem.list_append a vs.toArray n u (fit (toN rs hz))) ⟨hg,by
   have e:=PySem.IsL.update (show PySem.IsL s.heap a vs.toArray n from hg) (fun x=>x.push u)
   rw [List.push_toArray] at e
   exact K.upd (o':=.list (ds++[x])) H hF ep q (Heap.SameBut.update ..) ⟨_,e⟩ (lstO e (rs.append (LR.cons ru LR.nil))) Ad0 w⟩
theorem App {l:Nat}{p:Nat×Option Nat}(e:ι.nums[l]? = some p)(hw:nilK as (popD l σ Qd Xd)):wpAny Γ.M A (call (.builtin "list.pop") (.ref p.1::us)) Q E s :=
 ApR hw ra fun w=>Y8 (B:=fun p=>wpAny Γ.M A (call (.builtin "list.pop") [.ref p.1]) Q E s) H e w fun a vs n ds ep q hg rs w=>Y6 w fun ix hl w=>X6 w fun hz w=>by
  refine LR.split (P:=fun vs=>s.heap.get? a=some (X9 vs n)→vs.toArray.size≤100000→wpAny Γ.M A (call (.builtin "list.pop") [.ref a]) Q E s) (Adg ds ix hl▸rs) (fun ws ys r1 r2 hg hz'=>?_) hg (toN rs hz)
  refine LR.one_i (P:=fun ys=>s.heap.get? a=some (X9 (ws++ys) n)→(ws++ys).toArray.size≤100000→wpAny Γ.M A (call (.builtin "list.pop") [.ref a]) Q E s) r2 (fun y ry hg hz'=>?_) hg hz'
  have hk:(ws++[y]).toArray.size - 1=ws.length:=by rw [List.size_toArray,List.length_append];rfl
  refine call_meets PySem.F.slot_list_pop ⟨_,hg,rfl⟩ PySem.F.entry_list_pop (PySem.F.args_list_pop_1 _) (PySem.MeetsSeq.list_pop_last a _ n y (by rw [hk];simp) (fit hz')) ⟨hg,?_⟩
  have e:=PySem.IsL.update (show PySem.IsL s.heap a (ws++[y]).toArray n from hg) (fun xs=>xs.eraseIdxIfInBounds ((ws++[y]).toArray.size - 1))
  rw [show (ws++[y]).toArray.eraseIdxIfInBounds ((ws++[y]).toArray.size - 1)=ws.toArray by rw [hk,kl_erase,List.append_nil]] at e
  exact K.upd (o':=.list ix.1) H hF ep q (Heap.SameBut.update ..) ⟨_,e⟩ (lstO e r1) ry w
theorem Amp {l:Nat}{p:Nat×Option Nat}(e:ι.nums[l]? = some p)(hw:un as (AoC l) σ Qd Xd):wpAny Γ.M A (call (.builtin "list.pop") (.ref p.1::us)) Q E s :=
 AaB hw ra fun u x ru w=>AaC w ru fun i t w=>X6 w fun h0 w=>Y8 (B:=fun p=>wpAny Γ.M A (call (.builtin "list.pop") [.ref p.1,.int i t]) Q E s) H e w fun a vs n ds ep q hg rs w=>by
  cases bE h0
  cases ds with
  |nil=>exact hiE w
  |cons x r =>
   refine X6 w fun hz w=>LR.cons_i (P:=fun vs=>s.heap.get? a=some (X9 vs n)→wpAny Γ.M A (call (.builtin "list.pop") [.ref a,.int 0 t]) Q E s) rs (fun y ys ry rr hg=>?_) hg
   have hz':([]++y::ys).toArray.size≤sizeLine:=Nat.le_trans (Nat.succ_le_succ (toN rr hz)) (by rw [sizeLine_eq];decide)
   refine call_meets PySem.F.slot_list_pop ⟨_,hg,rfl⟩ PySem.F.entry_list_pop (PySem.F.args_list_pop_2 _ _) (PySem.MeetsSeq.list_pop_at a ([]++y::ys).toArray n 0 t 0 y (by decide) (by simp [seqIndex?]) (by simp) hz') ⟨hg,?_⟩
   have e:=PySem.IsL.update (show PySem.IsL s.heap a ([]++y::ys).toArray n from hg) (fun xs=>xs.eraseIdxIfInBounds 0)
   have e2:([]++y::ys).toArray.eraseIdxIfInBounds 0=ys.toArray:=kl_erase [] ys y
   rw [e2] at e
   exact K.upd (o':=.list r) H hF ep q (Heap.SameBut.update ..) ⟨_,e⟩ (lstO e rr) ry w
theorem Aih {l:Nat}{p:Nat×Option Nat}(e:ι.nums[l]? = some p)(hw:un as (AiR l) σ Qd Xd):wpAny Γ.M A (call (.builtin "list.extend") (.ref p.1::us)) Q E s :=
 AaB hw ra fun u x ru w=>Y8 (B:=fun p=>wpAny Γ.M A (call (.builtin "list.extend") [.ref p.1,u]) Q E s) H e w fun a vs n ds ep q hg rs w=>Aca w ru fun b ws es hb nb rw' w=>X6 w fun hz w=>by
  have hsz:vs.toArray.size+ws.toArray.size≤sizeLine:=by rw [List.size_toArray,List.size_toArray,rs.length,rw'.length];exact fit (Y2 hz)
  have e:=PySem.IsL.update (show PySem.IsL s.heap a vs.toArray n from hg) (fun x=>x++ws.toArray)
  rw [List.append_toArray] at e
  have fin:Q .none (Mine.upd s (s.heap.update a (Obj.mapSeq fun x=>x++ws.toArray)) s.toks):=K.upd (o':=.list (ds++es)) H hF ep q (Heap.SameBut.update ..) ⟨_,e⟩ (lstO e (rs.append rw')) Ad0 w
  exact hb.elim (fun hb=>sq_i hb fun dd m sl ho=>call_meets PySem.F.slot_list_extend ⟨_,hg,rfl⟩ PySem.F.entry_list_extend (PySem.F.args_list_extend_2 _ _) (Ams a vs.toArray n b ws.toArray m dd sl (extend_door hsz) (Nat.le_trans (Nat.le_add_right _ _) hsz) (Nat.le_succ_of_le hsz)) ⟨hg,ho,fin⟩)
   fun hb=>sq_i hb fun dd m sl ho=>call_meets PySem.F.slot_list_extend ⟨_,hg,rfl⟩ PySem.F.entry_list_extend (PySem.F.args_list_extend_2 _ _) (AnB a vs.toArray n b ws.toArray m dd sl (extend_door hsz) (Nat.le_trans (Nat.le_add_right _ _) hsz) (Nat.le_succ_of_le hsz)) ⟨hg,ho,fin⟩
omit H hF ra K in
theorem AiG {es:List (Str×Value)}{kvs:List (List Nat×D)}{x:List Nat}{u2:Value}{d2:D}(rs:Ents ι s.heap es kvs)(r2:VR ι s.heap u2 d2):VR ι s.heap ((valueAt es (toS x)).getD u2) ((find kvs x).getD d2) :=
 (Ents.find rs x).elim (fun z=>z.elim fun v z=>z.elim fun d z=>by rw [z.1,z.2.1];exact z.2.2) fun z=>by rw [z.1,z.2];exact r2
omit hF in
theorem AmX {l:Nat}{p:Nat×Option Nat}(e:ι.nums[l]? = some p)(hw:un as (fun x=>AjI l x .none) σ Qd Xd):wpAny Γ.M A (call (.builtin "dict.get") (.ref p.1::us)) Q E s :=
 AaB hw ra fun u x ru w=>V3 (B:=fun p=>wpAny Γ.M A (call (.builtin "dict.get") [.ref p.1,u]) Q E s) H e w fun a es kvs ep q hd rs w=>Acq w ru fun x t ax w =>
  call_meetsIn PySem.F.slot_dict_get hd.typeIs PySem.F.entry_dict_get (PySem.F.args_dict_get_2 _ _) (meets_dict_get (PySem.strKind Γ.prog Γ.w) (k:=toS x) a Aa6 (H.notSys ep)) ⟨_,hd.mapOf,K.tick H (AiG rs Ad0) w⟩
omit hF in
theorem AlU {l:Nat}{p:Nat×Option Nat}(e:ι.nums[l]? = some p)(hw:du as (AjI l) σ Qd Xd):wpAny Γ.M A (call (.builtin "dict.get") (.ref p.1::us)) Q E s :=
 AdQ hw ra fun u u2 x d ru ru2 w=>V3 (B:=fun p=>wpAny Γ.M A (call (.builtin "dict.get") [.ref p.1,u,u2]) Q E s) H e w fun a es kvs ep q hd rs w=>Acq w ru fun x t ax w =>
  call_meetsIn PySem.F.slot_dict_get hd.typeIs PySem.F.entry_dict_get (PySem.F.args_dict_get_3 _ _ _) (meets_dict_get_default (PySem.strKind Γ.prog Γ.w) (k:=toS x) a Aa6 (H.notSys ep) u2) ⟨_,hd.mapOf,K.tick H (AiG rs ru2) w⟩
theorem Anj {l:Nat}{p:Nat×Option Nat}(e:ι.nums[l]? = some p)(hw:du as (AnW l) σ Qd Xd):wpAny Γ.M A (call (.builtin "dict.pop") (.ref p.1::us)) Q E s :=
 AdQ hw ra fun u u2 x d ru ru2 w=>V3 (B:=fun p=>wpAny Γ.M A (call (.builtin "dict.pop") [.ref p.1,u,u2]) Q E s) H e w fun a es kvs ep q hd rs w=>Acq w ru fun x t ax w =>
  (Ents.find rs x).elim (fun z=>z.elim fun v z=>z.elim fun d' z=>by
   rw [z.2.1] at w
   exact X6 w fun hz w=>call_meetsIn PySem.F.slot_dict_pop hd.typeIs PySem.F.entry_dict_pop (PySem.F.args_dict_pop_3 _ _ _) (meets_dict_pop_there (PySem.strKind Γ.prog Γ.w) (k:=toS x) a Aa6 [u2] (.inr ⟨_,rfl⟩) rfl) ⟨es,v,hd,by rw [rs.length];exact Nat.le_trans (Y2 hz) (by decide),z.1,fun h' hd' hs =>
    K.upd (o':=.dict (Acn kvs x)) H hF ep q hs (U1 hd') (dicO hd' (Ents.drop rs (Aal hd))) z.2.2 w⟩) fun z=>by
   rw [z.2] at w
   exact call_meetsIn PySem.F.slot_dict_pop hd.typeIs PySem.F.entry_dict_pop (PySem.F.args_dict_pop_3 _ _ _) (meets_dict_pop_default (PySem.strKind Γ.prog Γ.w) (k:=toS x) a Aa6 (H.notSys ep) rfl u2) ⟨es,hd,z.1,K.tick H ru2 w⟩
theorem Aht {l:Nat}{p:Nat×Option Nat}(e:ι.nums[l]? = some p)(hw:un as (Aic l) σ Qd Xd):wpAny Γ.M A (call (.builtin "dict.update") (.ref p.1::us)) Q E s :=
 AaB hw ra fun u x ru w=>U4 w ru fun l' p' e' w=>X6 w fun hne w=>V3 (B:=fun p=>wpAny Γ.M A (call (.builtin "dict.update") [.ref p.1,.ref p'.1]) Q E s) H e w fun a es kvs ep q hd rs w =>
  V3 (B:=fun p'=>wpAny Γ.M A (call (.builtin "dict.update") [.ref a,.ref p'.1]) Q E s) H e' w fun b es' more ep' q' hd' rs' w=>X6 w fun hz w =>
   have hd0:a≠b:=fun z=>beq_eq_false_iff_ne.mp (nT hne) (Ace H.nd ep ep' (b:=a) (.inl rfl) (.inl z))
   call_meetsIn PySem.F.slot_dict_update hd.typeIs PySem.F.entry_dict_update (PySem.F.args_dict_update_2 _ _) (meets_dict_update (PySem.strKind Γ.prog Γ.w) a b hd0 (H.notSys ep')) ⟨es,es',hd,hd',by rw [rs.length,rs'.length];exact Nat.le_trans (Y2 hz) (by decide),fun h' hm x hs =>
    K.upd (o':=.dict (Y3 kvs more)) H hF ep q hs (U1 hm) (dicO hm (Ents.merge rs' rs (Aal hd))) Ad0 w⟩
omit hF in
theorem AnI {sep:List Nat}{t:Tok}(as0:ascN sep=true)(hw:un as (AnU sep) σ Qd Xd):wpAny Γ.M A (call (.builtin "str.join") (.str (toS sep) t::us)) Q E s :=
 AaB hw ra fun u x ru w=>Ak0 w ru fun a vs ds ht n rs w=>Y6 w fun ss hs w=>X6 w fun hz w=>join_tuple (ys:=ss.map toS) (show IsTup s.heap a _ from ht) (AiJ rs hs).1 (by
  have e1:((ss.map toS).map (·.length))=ss.map List.length:=by
   rw [List.map_map]
   exact List.map_congr_left fun x _=>rfl
  rw [e1,List.length_map]
  exact Nat.le_trans (Y2 hz) (by decide)) fun t' k=>by
  show Q (.str (PySem.Builtin.Str.glued (toS sep) (ss.map toS)) t') _
  rw [Ajm]
  exact K.tick H (vStr (AjG as0 ss (AiJ rs hs).2)) w
end
theorem Ar5 {b:Bm}{us:List Value}{as:List D}(H:HR Γ ι σ s.heap)(hF:∀b∈FL,b∉adr ι)(ro:VR ι s.heap v o)(ra:VRs ι s.heap us as)(hw:bmD b o as σ Qd Xd)(K:Kn Γ FL VR ι s Qd Xd Q E):wpAny Γ.M A (call (.builtin (bmId b)) (v::us)) Q E s :=
 @Bm.casesOn (fun b=>bmD b o as σ Qd Xd→wpAny Γ.M A (call (.builtin (bmId b)) (v::us)) Q E s) b (fun w=>U4 w ro fun l p e w=>Ahd H hF ra K e w) (fun w=>U4 w ro fun l p e w=>App H hF ra K e w) (fun w=>U4 w ro fun l p e w=>Amp H hF ra K e w) (fun w=>U4 w ro fun l p e w=>Aih H hF ra K e w)
  (fun w=>U4 w ro fun l p e w=>AmX H ra K e w) (fun w=>U4 w ro fun l p e w=>AlU H ra K e w) (fun w=>U4 w ro fun l p e w=>Anj H hF ra K e w) (fun w=>U4 w ro fun l p e w=>Aht H hF ra K e w) (fun w=>Acq w ro fun x t ax w=>AnI H ra K ax w) hw
end
end Mine
end
section
namespace Mine
structure Amv (A:Around)(n:Nat):Prop where
 hh:A.handled=none
 dep:A.depth+8 * n+2 < recursionLimit
 uni:A.units+64 * n+50 < cLine
noncomputable abbrev VL (m:Nat)(ι:Io)(h:Heap)(vs:List Value)(ds:List D):Prop:=VRs ι h vs ds∧vs.length=m
noncomputable abbrev VB (ι:Io)(h:Heap)(b c:Bool):Prop:=b=c
noncomputable abbrev Br (P R:Hp→Prop)(b:Bool)(h:Hp):Prop:=@Bool.casesOn (fun b=>Prop) b (R h) (P h)
section
variable (Γ:Wo)(n:Nat)
noncomputable def AaJ:Prop:=∀(f:Nat) (fi:FnI) (vs:List Value) (as:List D) (fl:List PEnv) (A:Around) (ι:Io) (s:Shared) (σ:Hp) (Qd:D→Hp→Prop) (Xd:Nat→Hp→Prop) (Q E:Value→Shared→Prop),fnT[f]? = some fi→A.frames=some fl→Amv A n →
  HR Γ ι σ s.heap→FramesR Γ fl ι s.heap→VRs ι s.heap vs as→J0 n f as σ Qd Xd→Kn Γ (fls fl) VR ι s Qd Xd Q E→codeAny Γ.M A (.call (.ref fi.addr) ⟨vs,[]⟩) (wants Q E) s
noncomputable def EvOK (e:Ex):Prop:=∀(Φ:Fx n) (x:PySem.Expr) (ι:Io) (s:Shared) (σ:Hp) (ρ:Ve) (Qd:D→Hp→Prop) (Xd:Nat→Hp→Prop) (Q E:Value→Shared→Prop),
 chkE Γ.K e Φ.env.scope Φ.NE x=true→SR Γ Φ ι σ ρ s.heap→wE (J0 n) e ρ σ Qd Xd→Kn Γ Φ.F VR ι s Qd Xd Q E→wpAny Γ.M Φ.A (eval x Φ.env) Q E s
noncomputable def EvsOK (es:Exs):Prop:=∀(Φ:Fx n) (l:List PySem.Expr) (pos:Pos) (ι:Io) (s:Shared) (σ:Hp) (ρ:Ve) (Qd:List D→Hp→Prop) (Xd:Nat→Hp→Prop) (Q:List Value→Shared→Prop) (E:Value→Shared→Prop),
 Aba Γ.K es Φ.env.scope Φ.NE l=true→SR Γ Φ ι σ ρ s.heap→wEs (J0 n) es ρ σ Qd Xd→Kn Γ Φ.F (VL l.length) ι s Qd Xd Q E→wpAny Γ.M Φ.A (spliced (backTo pos (starEach l Φ.env))) Q E s
noncomputable def TrOK (e:Ex):Prop:=∀(Φ:Fx n) (x:PySem.Expr) (ι:Io) (s:Shared) (σ:Hp) (ρ:Ve) (P R:Hp→Prop) (Xd:Nat→Hp→Prop) (Q:Bool→Shared→Prop) (E:Value→Shared→Prop),
 chkE Γ.K e Φ.env.scope Φ.NE x=true→SR Γ Φ ι σ ρ s.heap→wE (J0 n) e ρ σ (fun d h=>br d (P h) (R h)) Xd→Kn Γ Φ.F VB ι s (Br P R) Xd Q E→wpAny Γ.M Φ.A (PySem.isTrue x Φ.env (eval x Φ.env)) Q E s
end
section
variable {Γ:Wo}{n:Nat}{Φ:Fx n}{ι:Io}{s:Shared}{σ:Hp}{ρ:Ve}{Xd:Nat→Hp→Prop}{E:Value→Shared→Prop}{A:Around}{x:PySem.Expr}
theorem EvOK.go {e:Ex}{α β:Type}{rel:Io→Heap→β→α→Prop}{Qd:α→Hp→Prop}{Q:β→Shared→Prop}{Qe:D→Hp→Prop}{Q':Value→Shared→Prop}(h:EvOK Γ n e)(hc:chkE Γ.K e Φ.env.scope Φ.NE x=true)(S:SR Γ Φ ι σ ρ s.heap)(w:wE (J0 n) e ρ σ Qe Xd)(K:Kn Γ Φ.F rel ι s Qd Xd Q E)
  (k:∀v s1 d σ1 ι1,SR Γ Φ ι1 σ1 ρ s1.heap→Ext Φ.F [] ι ι1 s.heap s1.heap→VR ι1 s1.heap v d→Qe d σ1→Kn Γ Φ.F rel ι1 s1 Qd Xd Q E→Q' v s1):wpAny Γ.M Φ.A (eval x Φ.env) Q' E s :=
 h Φ x ι s σ ρ Qe Xd Q' E hc S w ⟨fun v ι' h' tk' d σ' e H r q=>k v _ d σ' ι' (S.ext e H) e r q (K.later e),K.ex⟩
theorem EvsOK.go {es:Exs}{α β:Type}{rel:Io→Heap→β→α→Prop}{Qd:α→Hp→Prop}{Q:β→Shared→Prop}{Qe:List D→Hp→Prop}{Q':List Value→Shared→Prop}{l:List PySem.Expr}{pos:Pos}(h:EvsOK Γ n es)(hc:Aba Γ.K es Φ.env.scope Φ.NE l=true)(S:SR Γ Φ ι σ ρ s.heap)(w:wEs (J0 n) es ρ σ Qe Xd)(K:Kn Γ Φ.F rel ι s Qd Xd Q E)
  (k:∀vs s1 ds σ1 ι1,SR Γ Φ ι1 σ1 ρ s1.heap→Ext Φ.F [] ι ι1 s.heap s1.heap→VL l.length ι1 s1.heap vs ds→Qe ds σ1→Kn Γ Φ.F rel ι1 s1 Qd Xd Q E→Q' vs s1):wpAny Γ.M Φ.A (spliced (backTo pos (starEach l Φ.env))) Q' E s :=
 h Φ l pos ι s σ ρ Qe Xd Q' E hc S w ⟨fun v ι' h' tk' d σ' e H r q=>k v _ d σ' ι' (S.ext e H) e r q (K.later e),K.ex⟩
theorem TrOK.go {e:Ex}{α β:Type}{rel:Io→Heap→β→α→Prop}{Qd:α→Hp→Prop}{Q:β→Shared→Prop}{P R:Hp→Prop}{Q':Bool→Shared→Prop}(h:TrOK Γ n e)(hc:chkE Γ.K e Φ.env.scope Φ.NE x=true)(S:SR Γ Φ ι σ ρ s.heap)(w:wE (J0 n) e ρ σ (fun d h=>br d (P h) (R h)) Xd)(K:Kn Γ Φ.F rel ι s Qd Xd Q E)
  (kt:∀s1 σ1 ι1,SR Γ Φ ι1 σ1 ρ s1.heap→Ext Φ.F [] ι ι1 s.heap s1.heap→P σ1→Kn Γ Φ.F rel ι1 s1 Qd Xd Q E→Q' true s1) (kf:∀s1 σ1 ι1,SR Γ Φ ι1 σ1 ρ s1.heap→Ext Φ.F [] ι ι1 s.heap s1.heap→R σ1→Kn Γ Φ.F rel ι1 s1 Qd Xd Q E→Q' false s1):wpAny Γ.M Φ.A (PySem.isTrue x Φ.env (eval x Φ.env)) Q' E s :=
 h Φ x ι s σ ρ P R Xd Q' E hc S w ⟨fun v ι' h' tk' d σ' e H r q=>by
  subst r
  cases v
  ·exact kf _ σ' ι' (S.ext e H) e q (K.later e)
  ·exact kt _ σ' ι' (S.ext e H) e q (K.later e),K.ex⟩
theorem AfO (X:Γ.K.In Γ.base)(H:HR Γ ι σ s.heap):(∀d v,Ap1 Γ.K d v=true→VR ι s.heap v d)∧∀ds vs,AhK Γ.K ds vs=true→VRs ι s.heap vs ds :=
 D.ind2 (fun v h=>bE h) (fun b v h=>bE h) (fun i v h=>Apd (P:=fun v=>VR ι s.heap v (.int i)) h fun c t h=>bE h▸vInt) (fun x v h=>Apb (P:=fun v=>VR ι s.heap v (.str x)) h fun c t h=>by cases bE (aL h);exact vStr (x:=c.cps.toList) (aR h))
  (fun ds ih v h=>Ac2 (P:=fun v=>VR ι s.heap v (.tup ds)) h fun a h=>oS_e h fun o e h =>
   AgN (P:=fun d=>o.data=d→VR ι s.heap (.ref a) (.tup ds)) (aR h) (fun xs m h' ed=>vTup ⟨o,H.stay a _ (X a _ e),bE (aL h),m,ed⟩ (fun z=>two (X a _ e) (H.off a z)) (ih xs.toList h')) rfl)
  (fun ds ih v h=>ffE h) (fun l v h=>ffE h) (fun v h=>Ac2 (P:=fun v=>VR ι s.heap v .opq) h fun a h=>vOpq) (fun vs h=>lN_i (P:=fun vs=>VRs ι s.heap vs []) h LR.nil)
  (fun d ds a b vs h=>lC_i (P:=fun vs=>VRs ι s.heap vs (d::ds)) h fun v us h=>LR.cons (a v (aL h)) (b us (aR h)))
theorem Acy {A:Around}{x:Str}{f:Value→Bool}{Q:Value→Shared→Prop}(W:Good Γ)(S:SR Γ Φ ι σ ρ s.heap)(e:glob Γ.K Φ.env.scope x f=true)(pos:Pos)(h:∀v,f v=true→Q v s):wpAny Γ.M A (eval (.Name x pos) Φ.env) Q E s :=
 have hg:s.heap.Ns Φ.env.globals Γ.mg:=by rw [S.fr.glob];exact Abj W.g fun o e=>S.hr.stay _ o e
 have hb:s.heap.Ns Φ.env.builtins Γ.mb:=by rw [S.fr.blt];exact Abj W.b fun o e=>S.hr.stay _ o e
 Calls.Name_function_global S.fr.kind (bE (aL e)) (oS_e (aR (aR e)) fun o q h0=>@Option.casesOn _ (fun o=>nsIn Γ.K mainGlobals x=some o→@Option.casesOn _ (fun o=>Bool) o (oS (blt x) f) f=true→wpAny Γ.M A (loadGlobal Φ.env x) Q E s) o
  (fun q h0=>oS_e h0 fun v e h0=>loadGlobal_builtin hg (mg_none_of W.X W.g q) hb ((W.bb x (AfB e).2).trans (AfB e).1) (h v h0)) (fun v q h0=>loadGlobal_global hg (mg_of W.X W.g q) (h v h0)) q h0) (bE (aL (aR e)))
theorem Ab6 {A:Around}{x:Str}{a:Nat}{Q:Value→Shared→Prop}(W:Good Γ)(S:SR Γ Φ ι σ ρ s.heap)(e:glob Γ.K Φ.env.scope x (isRf a)=true)(pos:Pos)(h:Q (.ref a) s):wpAny Γ.M A (eval (.Name x pos) Φ.env) Q E s :=
 Acy W S e pos fun v z=>Ac2 (P:=fun v=>Q v s) z fun b z=>bE z▸h
theorem Adi {A:Around}{x:Str}{a:String}{Q:Value→Shared→Prop}(W:Good Γ)(S:SR Γ Φ ι σ ρ s.heap)(e:glob Γ.K Φ.env.scope x (isTy a)=true)(pos:Pos)(h:Q (.type a) s):wpAny Γ.M A (eval (.Name x pos) Φ.env) Q E s :=
 Acy W S e pos fun v z=>Ahp (P:=fun v=>Q v s) z fun b z=>bE z▸h
theorem AlQ {a:String}{v:Value}{P:Value→Prop}(h:isBu a v=true)(k:P (.builtin a)):P v:=Age (P:=P) h fun b z=>bE z▸k
theorem AkW {a:String}{v:Value}{P:Value→Prop}(h:isTy a v=true)(k:P (.type a)):P v:=Ahp (P:=P) h fun b z=>bE z▸k
theorem AlJ {A:Around}{env:PEnv}{c:Const}{d:D}{k:Nat}{pos:Pos}{Q:Value→Shared→Prop}(hc:litC c d=true)(h:∀v tk,VR ι s.heap v d→Q v { s with toks:=tk }):wpAny Γ.M A (eval (.Constant c k pos) env) Q E s :=
 @D.casesOn (fun d=>litC c d=true→(∀v tk,VR ι s.heap v d→Q v { s with toks:=tk })→wpAny Γ.M A (eval (.Constant c k pos) env) Q E s) d (fun hc h=>bE hc▸Constant_none (h _ s.toks Ad0)) (fun b hc h=>bE hc▸Constant_bool (h _ s.toks AbD))
  (fun i hc h=>Ahh (P:=fun c=>wpAny Γ.M A (eval (.Constant c k pos) env) Q E s) hc fun j z=>by cases bE z;exact wpAny_Constant_int (h _ _ vInt)) (fun x hc h=>Ali (P:=fun c=>wpAny Γ.M A (eval (.Constant c k pos) env) Q E s) hc fun y z=>by cases bE (aL z);exact Constant_str (h _ _ (vStr (x:=y.cps.toList) (aR z))))
  (fun x hc h=>ffE hc) (fun x hc h=>ffE hc) (fun x hc h=>ffE hc) (fun hc h=>ffE hc) hc h
theorem ApM {d:D}(W:Good Γ):EvOK Γ n (.lit d):=fun Φ x ι s σ ρ Qd Xd Q E hc S w K =>
 (oR hc).elim (fun hc=>W0 (P:=fun x=>wpAny Γ.M Φ.A (eval x Φ.env) Q E s) hc fun c k p hc=>AlJ hc fun v tk r=>K.tick S.hr r w) fun hc=>X3 (P:=fun x=>wpAny Γ.M Φ.A (eval x Φ.env) Q E s) hc fun x p hc=>Acy W S hc p fun v z=>K.now S.hr ((AfO W.X S.hr).1 d v z) w
theorem Ao3 {k:Nat}:EvOK Γ n (.neg k):=fun Φ x ι s σ ρ Qd Xd Q E hc S w K=>Aax (P:=fun x=>wpAny Γ.M Φ.A (eval x Φ.env) Q E s) hc fun op v p hc=>bE (aL hc)▸W0 (P:=fun v=>wpAny Γ.M Φ.A (eval (.UnaryOp .USub v p) Φ.env) Q E s) (aR hc) fun c k p' hc=>Ahh (P:=fun c=>wpAny Γ.M Φ.A (eval (.UnaryOp .USub (.Constant c k p') p) Φ.env) Q E s) hc fun i z=>by
 cases bE z
 exact UnaryOp_ (wpAny_Constant_int (PySem.P.neg_int (K.tick S.hr vInt w)))
theorem ApX {i:Nat}:EvOK Γ n (.var i):=fun Φ x ι s σ ρ Qd Xd Q E hc S w K=>X3 (P:=fun x=>wpAny Γ.M Φ.A (eval x Φ.env) Q E s) hc fun x p hc=>Y6 w fun o e w=>Y6 w fun d e' w =>
 wpAny_Name (AkL (S.lc x i d (bE (aL hc)) (e.trans (congrArg some e'))) S.fr.kind (fun v r=>K.now S.hr r w) (bE (aR (aR hc)))) (bE (aL (aR hc)))
theorem AjF:EvOK Γ n .stuck:=fun Φ x ι s σ ρ Qd Xd Q E hc S w K=>hiE w
theorem Abm {l:List PySem.Expr}{m:Nat}(h:Akb l=true)(e:m=l.length):m≤sizeLine:=Nat.le_trans (Nat.le_of_lt (e▸AcE h)) (fit (by decide))
theorem An0 {es:Exs}(h:EvsOK Γ n es):EvOK Γ n (.tup es):=fun Φ x ι s σ ρ Qd Xd Q E hc S w K=>Aan (P:=fun x=>wpAny Γ.M Φ.A (eval x Φ.env) Q E s) hc fun l k p hc =>
 wpAny_Tuple (h.go (aL hc) S (Qe:=fun ds h=>Qd (.tup ds) h) w K fun vs s1 ds σ1 ι1 S1 e r w K=>⟨Abm (aR hc) r.2,K.tupNew S1.hr r.1 0 w⟩)
theorem Aj6 {es:Exs}(h:EvsOK Γ n es):EvOK Γ n (.vlist es):=fun Φ x ι s σ ρ Qd Xd Q E hc S w K=>Adx (P:=fun x=>wpAny Γ.M Φ.A (eval x Φ.env) Q E s) hc fun l p hc =>
 wpAny_List (h.go (aL hc) S (Qe:=fun ds h=>Qd (.lst ds) h) w K fun vs s1 ds σ1 ι1 S1 e r w K=>⟨Abm (aR hc) r.2,K.lstNew S1.hr r.1 0 w⟩)
theorem Aj3 {es:Exs}(h:EvsOK Γ n es):EvOK Γ n (.mlist es):=fun Φ x ι s σ ρ Qd Xd Q E hc S w K=>Adx (P:=fun x=>wpAny Γ.M Φ.A (eval x Φ.env) Q E s) hc fun l p hc =>
 wpAny_List (h.go (aL hc) S (Qe:=fun ds h1=>Qd (.loc (List.length h1)) (h1++[AO.list ds])) w K fun vs s1 ds σ1 ι1 S1 e r w K=>⟨Abm (aR hc) r.2,K.listNew S1.hr r.1 0 w⟩)
theorem Anh {e i:Ex}(h1:EvOK Γ n e)(h2:EvOK Γ n i):EvOK Γ n (.item e i):=fun Φ x ι s σ ρ Qd Xd Q E hc S w K=>V6 (P:=fun x=>wpAny Γ.M Φ.A (eval x Φ.env) Q E s) hc fun v sl p hc =>
 Subscript_ (h1.go (aL hc) S (Qe:=fun a h1=>wE (J0 n) i ρ h1 (fun k h2=>AaR a k h2 Qd) Xd) w K fun v s1 a σ1 ι1 S1 e r w K=>h2.go (aL (aR hc)) S1 w K fun u s2 k σ2 ι2 S2 e2 r2 w K=>AhA (nT (aR (aR hc))) S2.hr (r.mono (S1.mo e2)) r2 w K)
theorem Aj9 {es:Exs}{i:Ex}(h1:EvsOK Γ n es)(h2:EvOK Γ n i):EvOK Γ n (.lpick es i):=fun Φ x ι s σ ρ Qd Xd Q E hc S w K=>V6 (P:=fun x=>wpAny Γ.M Φ.A (eval x Φ.env) Q E s) hc fun v sl p hc =>
 Adx (P:=fun v=>wpAny Γ.M Φ.A (eval (.Subscript v sl p) Φ.env) Q E s) (aL hc) fun l p' hc'=>Subscript_ (wpAny_List (h1.go (aL hc') S (Qe:=fun ds h1=>wE (J0 n) i ρ h1 (fun k h2=>AaR (.lst ds) k h2 Qd) Xd) w K fun vs s1 ds σ1 ι1 S1 e r w K=>⟨Abm (aR hc') r.2,by
  have r2:VR ι1 (s1.heap.push (X9 vs 0)) (.ref s1.heap.objs.size) (.lst ds):=vLst AdK (S1.hr.fresh X1) (r.1.mono (Mo.more J1))
  have S2:=S1.more (h':=s1.heap.push (X9 vs 0)) J1
  exact h2.go (s:=upd s1 (s1.heap.push (X9 vs 0)) s1.toks) (aL (aR hc)) S2 w (K.later (Ext.more J1)) fun u s2 k σ2 ι2 S3 e2 r3 w K=>AhA (nT (aR (aR hc))) S3.hr (r2.mono (S2.mo e2)) r3 w K⟩))
theorem Apo {e:Ex}(h1:EvOK Γ n e):EvOK Γ n (.rev e):=fun Φ x ι s σ ρ Qd Xd Q E hc S w K=>V6 (P:=fun x=>wpAny Γ.M Φ.A (eval x Φ.env) Q E s) hc fun v sl p hc =>
 Ajt (P:=fun sl=>wpAny Γ.M Φ.A (eval (.Subscript v sl p) Φ.env) Q E s) (aR hc) fun lo up st p2 hc2=>oN_i (P:=fun lo=>wpAny Γ.M Φ.A (eval (.Subscript v (.Slice lo up st p2) p) Φ.env) Q E s) (aL hc2) (oN_i (P:=fun up=>wpAny Γ.M Φ.A (eval (.Subscript v (.Slice none up st p2) p) Φ.env) Q E s) (aL (aR hc2))
  (oS_i (P:=fun st=>wpAny Γ.M Φ.A (eval (.Subscript v (.Slice none none st p2) p) Φ.env) Q E s) (aR (aR hc2)) fun u hu=>Aax (P:=fun u=>wpAny Γ.M Φ.A (eval (.Subscript v (.Slice none none (some u) p2) p) Φ.env) Q E s) hu fun op y p3 hu=>bE (aL hu)▸W0 (P:=fun y=>wpAny Γ.M Φ.A (eval (.Subscript v (.Slice none none (some (.UnaryOp .USub y p3)) p2) p) Φ.env) Q E s) (aR hu) fun c k p4 hu =>
   Ahh (P:=fun c=>wpAny Γ.M Φ.A (eval (.Subscript v (.Slice none none (some (.UnaryOp .USub (.Constant c k p4) p3)) p2) p) Φ.env) Q E s) hu fun i z=>by
    cases bE z
    refine Subscript_ (h1.go (aL hc) S (Qe:=fun a h1=>revK a fun d=>Qd d h1) w K fun v s1 a σ1 ι1 S1 e r w K=>?_)
    refine wpAny_Slice (wpAny_pure (wpAny_pure (UnaryOp_ (wpAny_Constant_int (PySem.P.neg_int ?_)))))
    exact Aph w r fun b vs ds hl nl rs w=>X6 w fun hz w=>Aol (S1.hr.more J1) (hl.move (Mo.more J1) nl).1 (rs.mono (Mo.more J1)) hz (Heap.IsSliceOf.new ..) (K.later (Ext.more J1)) w))
theorem Ah2 {o:PySem.Expr}{a:Str}{env:PEnv}{W:Sem Value}(h:Akg o=true):attributeBase o a env W=W:=by
 have h':=nT h
 cases o<;>first|rfl|skip
 rename_i f args ks p
 cases f<;>first|rfl|skip
 rename_i id q
 cases args with
 |cons _ _=>rfl
 |nil=>cases ks with
  |cons _ _=>rfl
  |nil =>
   have:(id==("super" : Str))=false:=by
    have h2:((id==("super" : Str))&&(true&&true))=false:=h'
    rwa [Bool.and_true,Bool.and_true] at h2
   show (if (id != ("super" : Str)||_||_||_)=true then _ else _)=W
   rw [show (id != ("super" : Str))=true by rw [bne,this];rfl]
   rfl
theorem Ana {e:Ex}{a:Nat}(W:Good Γ)(h1:EvOK Γ n e):EvOK Γ n (.attr e a):=fun Φ x ι s σ ρ Qd Xd Q E hc S w K=>Z3 (P:=fun x=>wpAny Γ.M Φ.A (eval x Φ.env) Q E s) hc fun v x p hc=>by
 cases bE (aL (aR hc))
 exact Attribute_any_ (h1.go (aL hc) S (Qe:=fun d h1=>Af8 a d h1 Qd) w K fun v s1 o σ1 ι1 S1 e r w K=>AmI W (List.contains_iff_mem.mp (aL (aR (aR hc)))) S1.hr r w K) (by rw [arm_eval_Attribute,Ah2 (aR (aR (aR hc)))])
theorem Alw {e:Ex}{P:Ex→Prop}(h:exLN e=true)(k:P (.lit .none)):P e:=by
 cases e<;>first|exact ffE h|skip
 rename_i d
 cases d<;>first|exact ffE h|exact k
theorem Afv {op:Cm}{a b:Ex}{l r:PySem.Expr}{Qd:D→Hp→Prop}{Q:Value→Shared→Prop}(h1:EvOK Γ n a)(h2:EvOK Γ n b)(c2:chkE Γ.K a Φ.env.scope Φ.NE l=true)(c3:chkE Γ.K b Φ.env.scope Φ.NE r=true)(c5:ApV op b r=true)(S:SR Γ Φ ι σ ρ s.heap)
  (w:wE (J0 n) (.cmp op a b) ρ σ Qd Xd) (K:Kn Γ Φ.F VR ι s Qd Xd Q E):wpAny Γ.M Φ.A (eval l Φ.env) (fun v s1=>wpAny Γ.M Φ.A (eval r Φ.env) (fun u s2=>wpAny Γ.M Φ.A (compareOp (cmOf op) v u) Q E s2) E s1) E s :=
 h1.go c2 S (Qe:=fun x h1=>wE (J0 n) b ρ h1 (fun y h2=>Eo (cmpD op x y h2) Qd Xd) Xd) w K fun v s1 d σ1 ι1 S1 e r1 w K=>(Classical.em (op=.isN∨op=.isnN)).elim (fun hn=>by
  have c6:exLN b=true∧isNone r=true:=by rcases hn with rfl|rfl<;>exact ⟨aL c5,aR c5⟩
  refine Alw (P:=fun b=>wE (J0 n) b ρ σ1 (fun y h2=>Eo (cmpD op d y h2) Qd Xd) Xd→_) c6.1 (fun w=>?_) w
  refine W0 (P:=fun r=>wpAny Γ.M Φ.A (eval r Φ.env) (fun u s2=>wpAny Γ.M Φ.A (compareOp (cmOf op) v u) Q E s2) E s1) c6.2 fun c k p z=>?_
  cases bE z
  exact Constant_none (Ak5 Φ.Rm S1.hr r1 Ad0 (fun _=>rfl) w K)) fun hn=>h2.go c3 S1 w K fun u s2 k σ2 ι2 S2 e2 r2 w K=>Ak5 Φ.Rm S2.hr (r1.mono (S1.mo e2)) r2 (fun z=>absurd z hn) w K
theorem AnO {op:Cm}{a b:Ex}(h1:EvOK Γ n a)(h2:EvOK Γ n b):EvOK Γ n (.cmp op a b):=fun Φ x ι s σ ρ Qd Xd Q E hc S w K=>AcZ (P:=fun x=>wpAny Γ.M Φ.A (eval x Φ.env) Q E s) hc fun l os rs p hc=>lC_i (P:=fun os=>wpAny Γ.M Φ.A (eval (.Compare l os rs p) Φ.env) Q E s) hc fun o t hc=>lN_i (P:=fun t=>wpAny Γ.M Φ.A (eval (.Compare l (o::t) rs p) Φ.env) Q E s) (aL hc)
 (lC_i (P:=fun rs=>wpAny Γ.M Φ.A (eval (.Compare l [o] rs p) Φ.env) Q E s) (aR (aR hc)) fun r u hr=>lN_i (P:=fun u=>wpAny Γ.M Φ.A (eval (.Compare l [o] (r::u) p) Φ.env) Q E s) (aL hr) (by
  cases bE (aL (aR hc))
  exact wpAny_Compare1 (Afv h1 h2 (aL (aR hr)) (aL (aR (aR hr))) (aR (aR (aR (aR hr)))) S w K) (bE (aL (aR (aR (aR hr)))))))
theorem Aql {op:Bo}{a b:Ex}(h1:EvOK Γ n a)(h2:EvOK Γ n b):EvOK Γ n (.bin op a b):=fun Φ x ι s σ ρ Qd Xd Q E hc S w K=>AfY (P:=fun x=>wpAny Γ.M Φ.A (eval x Φ.env) Q E s) hc fun l o r p hc=>by
 cases bE (aL hc)
 exact wpAny_BinOp (h1.go (aL (aR hc)) S (Qe:=fun x h1=>wE (J0 n) b ρ h1 (fun y h2=>Eo (binD op x y h2) Qd Xd) Xd) w K fun v s1 d σ1 ι1 S1 e r1 w K=>h2.go (aR (aR hc)) S1 w K fun u s2 k σ2 ι2 S2 e2 r2 w K=>Apc S2.hr (r1.mono (S1.mo e2)) r2 w K)
end
end Mine
end
section
namespace Mine
inductive AllOK (Γ:Wo) (n:Nat):Exs→Prop
 |nil:AllOK Γ n .nil
 |cons {e:Ex} {es:Exs}:EvOK Γ n e→TrOK Γ n e→AllOK Γ n es→AllOK Γ n (.cons e es)
section
variable {Γ:Wo}{n:Nat}{Φ:Fx n}{ι:Io}{s:Shared}{σ:Hp}{ρ:Ve}{Xd:Nat→Hp→Prop}{E:Value→Shared→Prop}{A:Around}{x:PySem.Expr}
theorem Z4 {b:Bool}{M:Model}{Q:Bool→Shared→Prop}(h:Q b s):wpAny M A (truthy (.bool b)) Q E s:=by
 unfold truthy
 exact wpAny_pure h
theorem Kn.truth {FL:List Nat}{P R:Hp→Prop}{Q:Bool→Shared→Prop}(K:Kn Γ FL VB ι s (Br P R) Xd Q E):Kn Γ FL VR ι s (fun d h=>br d (P h) (R h)) Xd (fun v s1=>wpAny Γ.M A (truthy v) Q E s1) E :=
 ⟨fun v ι' h' tk' d σ' e H r w=>Aje w r (fun w=>Z4 (K.ok true ι' h' tk' true σ' e H rfl w)) fun w=>Z4 (K.ok false ι' h' tk' false σ' e H rfl w),K.ex⟩
theorem Afi {e:Ex}(h:EvOK Γ n e)(hp:∀sc NE x env whole,chkE Γ.K e sc NE x=true→PySem.isTrue x env whole=(do let v ←whole;standAt x.pos;holding [v] (truthy v))):TrOK Γ n e:=fun Φ x ι s σ ρ P R Xd Q E hc S w K =>
 isTrue_plain (h Φ x ι s σ ρ _ Xd _ E hc S w K.truth) (hp _ _ x Φ.env _ hc)
theorem Ai7:TrOK Γ n .stuck:=fun Φ x ι s σ ρ P R Xd Q E hc S w K=>hiE w
theorem ApO {c a b:Ex}(h0:TrOK Γ n c)(h1:EvOK Γ n a)(h2:EvOK Γ n b):EvOK Γ n (.ite c a b):=fun Φ x ι s σ ρ Qd Xd Q E hc S w K=>Afu (P:=fun x=>wpAny Γ.M Φ.A (eval x Φ.env) Q E s) hc fun t l r p hc =>
 IfExp_ (h0.go (aL hc) S (P:=fun h=>wE (J0 n) a ρ h Qd Xd) (R:=fun h=>wE (J0 n) b ρ h Qd Xd) w K (fun s1 σ1 ι1 S1 e w K=>h1 Φ l ι1 s1 σ1 ρ Qd Xd Q E (aL (aR hc)) S1 w K) fun s1 σ1 ι1 S1 e w K=>h2 Φ r ι1 s1 σ1 ρ Qd Xd Q E (aR (aR hc)) S1 w K)
theorem AoF {c a b:Ex}(h0:TrOK Γ n c)(h1:TrOK Γ n a)(h2:TrOK Γ n b):TrOK Γ n (.ite c a b):=fun Φ x ι s σ ρ P R Xd Q E hc S w K=>Afu (P:=fun x=>wpAny Γ.M Φ.A (PySem.isTrue x Φ.env (eval x Φ.env)) Q E s) hc fun t l r p hc =>
 isTrue_IfExp (h0.go (aL hc) S (P:=fun h=>wE (J0 n) a ρ h (fun d h=>br d (P h) (R h)) Xd) (R:=fun h=>wE (J0 n) b ρ h (fun d h=>br d (P h) (R h)) Xd) w K (fun s1 σ1 ι1 S1 e w K=>h1 Φ l ι1 s1 σ1 ρ P R Xd Q E (aL (aR hc)) S1 w K) fun s1 σ1 ι1 S1 e w K=>h2 Φ r ι1 s1 σ1 ρ P R Xd Q E (aR (aR hc)) S1 w K)
theorem ApT {e:Ex}(h:EvOK Γ n e):EvOK Γ n (.not e):=fun Φ x ι s σ ρ Qd Xd Q E hc S w K=>Aax (P:=fun x=>wpAny Γ.M Φ.A (eval x Φ.env) Q E s) hc fun op v p hc=>by
 cases bE (aL hc)
 exact UnaryOp_ (h.go (aR hc) S (Qe:=fun d h1=>br d (Qd (.bool false) h1) (Qd (.bool true) h1)) w K fun v s1 d σ1 ι1 S1 e r w K=>not_of (Aje w r (fun w=>Z4 (K.now S1.hr AbD w)) fun w=>Z4 (K.now S1.hr AbD w)))
theorem AoY {e:Ex}(h:TrOK Γ n e):TrOK Γ n (.not e):=fun Φ x ι s σ ρ P R Xd Q E hc S w K=>Aax (P:=fun x=>wpAny Γ.M Φ.A (PySem.isTrue x Φ.env (eval x Φ.env)) Q E s) hc fun op v p hc=>by
 cases bE (aL hc)
 exact isTrue_not (h.go (aR hc) S (P:=R) (R:=P) w K (fun s1 σ1 ι1 S1 e w K=>K.now (d:=false) S1.hr rfl w) fun s1 σ1 ι1 S1 e w K=>K.now (d:=true) S1.hr rfl w)
theorem An9 {op:Cm}{a b:Ex}(h1:EvOK Γ n a)(h2:EvOK Γ n b):TrOK Γ n (.cmp op a b):=fun Φ x ι s σ ρ P R Xd Q E hc S w K=>AcZ (P:=fun x=>wpAny Γ.M Φ.A (PySem.isTrue x Φ.env (eval x Φ.env)) Q E s) hc fun l os rs p hc=>lC_i (P:=fun os=>wpAny Γ.M Φ.A (PySem.isTrue (.Compare l os rs p) Φ.env (eval (.Compare l os rs p) Φ.env)) Q E s) hc fun o t hc=>lN_i (P:=fun t=>wpAny Γ.M Φ.A (PySem.isTrue (.Compare l (o::t) rs p) Φ.env (eval (.Compare l (o::t) rs p) Φ.env)) Q E s) (aL hc)
 (lC_i (P:=fun rs=>wpAny Γ.M Φ.A (PySem.isTrue (.Compare l [o] rs p) Φ.env (eval (.Compare l [o] rs p) Φ.env)) Q E s) (aR (aR hc)) fun r u hr=>lN_i (P:=fun u=>wpAny Γ.M Φ.A (PySem.isTrue (.Compare l [o] (r::u) p) Φ.env (eval (.Compare l [o] (r::u) p) Φ.env)) Q E s) (aL hr) (by
  cases bE (aL (aR hc))
  exact wpAny_isTrue_Compare1 (Afv (Q:=fun c s3=>wpAny Γ.M Φ.A (truthy c) Q E s3) h1 h2 (aL (aR hr)) (aL (aR (aR hr))) (aR (aR (aR (aR hr)))) S w K.truth) (bE (aL (aR (aR (aR hr)))))))
theorem AaY {env:PEnv}{e:PySem.Expr}{r:List PySem.Expr}(h:Ac1 e=false):starEach (e::r) env=(false,eval e env)::starEach r env :=
 @PySem.Expr.casesOn (fun e=>Ac1 e=false→starEach (e::r) env=(false,eval e env)::starEach r env) e (fun x0 x1 x2 h=>rfl) (fun x0 x1 x2 h=>rfl) (fun x0 x1 x2 x3 h=>rfl) (fun x0 x1 x2 h=>rfl) (fun x0 x1 x2 x3 h=>rfl) (fun x0 x1 x2 x3 h=>rfl) (fun x0 x1 x2 h=>rfl) (fun x0 x1 x2 h=>rfl) (fun x0 x1 x2 x3 h=>rfl) (fun x0 x1 x2 x3 h=>rfl) (fun x0 x1 x2 x3 x4 h=>rfl) (fun x0 x1 x2 x3 h=>rfl) (fun x0 x1 h=>rfl) (fun x0 x1 h=>rfl) (fun x0 x1 h=>rfl) (fun x0 x1 x2 x3 h=>rfl) (fun x0 x1 x2 x3 h=>rfl) (fun x0 x1 x2 x3 h=>rfl) (fun x0 x1 h=>rfl) (fun x0 x1 x2 h=>rfl) (fun x0 x1 x2 h=>rfl) (fun x0 x1 x2 h=>rfl) (fun x0 x1 (h:true=false)=>ffE h.symm) (fun x0 x1 h=>rfl) (fun x0 x1 h=>rfl) (fun x0 x1 x2 h=>rfl) (fun x0 x1 x2 x3 h=>rfl) h
theorem Z9 {es:Exs}(h:AllOK Γ n es):EvsOK Γ n es :=
 @AllOK.rec Γ n (fun es h=>EvsOK Γ n es) (fun Φ l pos ι s σ ρ Qd Xd Q E hc S w K=>lN_i (P:=fun l=>Kn Γ Φ.F (VL l.length) ι s Qd Xd Q E→wpAny Γ.M Φ.A (spliced (backTo pos (starEach l Φ.env))) Q E s) hc (fun K=>args_nil (K.now S.hr ⟨LR.nil,rfl⟩ w)) K)
  (fun {e es} h0 ht h1 ih Φ l pos ι s σ ρ Qd Xd Q E hc S w K=>lC_i (P:=fun l=>Kn Γ Φ.F (VL l.length) ι s Qd Xd Q E→wpAny Γ.M Φ.A (spliced (backTo pos (starEach l Φ.env))) Q E s) hc (fun y r hc K =>
   args_cons (h0.go (aL (aR hc)) S (Qe:=fun d h1=>wEs (J0 n) es ρ h1 (fun ds h2=>Qd (d::ds) h2) Xd) w K fun v s1 d σ1 ι1 S1 e r1 w K=>EvsOK.go ih (aR (aR hc)) S1 w K fun vs s2 ds σ2 ι2 S2 e2 r2 w K =>
    K.now S2.hr ⟨LR.cons (r1.mono (S1.mo e2)) r2.1,congrArg Nat.succ r2.2⟩ w) (AaY (nT (aL hc)))) K) es h
noncomputable abbrev aoOp (a:Bool):BoolOp:=bT a BoolOp.And BoolOp.Or
theorem AoD {a:Bool}{es:Exs}(h:AllOK Γ n es):∀(Φ:Fx n) (l:List PySem.Expr) (pos:Pos) (ι:Io) (s:Shared) (σ:Hp) (Qd:D→Hp→Prop) (Q:Value→Shared→Prop) (E:Value→Shared→Prop),Aba Γ.K es Φ.env.scope Φ.NE l=true→SR Γ Φ ι σ ρ s.heap→wAO (J0 n) a es ρ σ Qd Xd→Kn Γ Φ.F VR ι s Qd Xd Q E→wpAny Γ.M Φ.A (eval (.BoolOp (aoOp a) l pos) Φ.env) Q E s:=by
 induction h with
 |nil=>exact fun Φ l pos ι s σ Qd Q E hc S w K=>hiE w
 |@cons e es h0 ht h1 ih =>
  intro Φ l pos ι s σ Qd Q E hc S w K
  cases es with
  |nil =>
   refine lC_i (P:=fun l=>wpAny Γ.M Φ.A (eval (.BoolOp (aoOp a) l pos) Φ.env) Q E s) hc fun y r hc=>lN_i (P:=fun r=>wpAny Γ.M Φ.A (eval (.BoolOp (aoOp a) (y::r) pos) Φ.env) Q E s) (aR (aR hc)) ?_
   have:=h0 Φ y ι s σ ρ Qd Xd Q E (aL (aR hc)) S w K
   cases a<;>exact BoolOp_one this
  |cons e2 es =>
   refine lC_i (P:=fun l=>wpAny Γ.M Φ.A (eval (.BoolOp (aoOp a) l pos) Φ.env) Q E s) hc fun y r hc=>?_
   have hr:=aR (aR hc)
   refine lC_i (P:=fun r=>Aba Γ.K (.cons e2 es) Φ.env.scope Φ.NE r=true→wpAny Γ.M Φ.A (eval (.BoolOp (aoOp a) (y::r) pos) Φ.env) Q E s) hr (fun z r _ hr=>?_) hr
   have rest:∀s1 σ1 ι1,SR Γ Φ ι1 σ1 ρ s1.heap→wAO (J0 n) a (.cons e2 es) ρ σ1 Qd Xd→Kn Γ Φ.F VR ι1 s1 Qd Xd Q E→wpAny Γ.M Φ.A (eval (.BoolOp (aoOp a) (z::r) pos) Φ.env) Q E s1:=fun s1 σ1 ι1 S1 w K=>ih Φ (z::r) pos ι1 s1 σ1 Qd Q E hr S1 w K
   cases a with
   |true=>exact BoolOp_and (h0.go (aL (aR hc)) S (Qe:=fun d h1=>br d (wAO (J0 n) true (.cons e2 es) ρ h1 Qd Xd) (Qd (.bool false) h1)) w K fun v s1 d σ1 ι1 S1 e r1 w K=>Aje w r1 (fun w=>Z4 (rest s1 σ1 ι1 S1 w K)) fun w=>Z4 (K.now S1.hr AbD w))
   |false=>exact BoolOp_or (h0.go (aL (aR hc)) S (Qe:=fun d h1=>br d (Qd (.bool true) h1) (wAO (J0 n) false (.cons e2 es) ρ h1 Qd Xd)) w K fun v s1 d σ1 ι1 S1 e r1 w K=>Aje w r1 (fun w=>Z4 (K.now S1.hr AbD w)) fun w=>Z4 (rest s1 σ1 ι1 S1 w K))
theorem Akv {a:Bool}{es:Exs}(h:AllOK Γ n es):EvOK Γ n (.andor a es):=fun Φ x ι s σ ρ Qd Xd Q E hc S w K=>AdR (P:=fun x=>wpAny Γ.M Φ.A (eval x Φ.env) Q E s) hc fun op l p hc=>by
 cases bE (aL hc)
 exact AoD h Φ l p ι s σ Qd Q E (aR hc) S w K
theorem ApU {a:Bool}{es:Exs}(h:AllOK Γ n es):∀(Φ:Fx n) (l:List PySem.Expr) (pos:Pos) (W:Sem Value) (ι:Io) (s:Shared) (σ:Hp) (P R:Hp→Prop) (Q:Bool→Shared→Prop) (E:Value→Shared→Prop),Aba Γ.K es Φ.env.scope Φ.NE l=true→SR Γ Φ ι σ ρ s.heap→wAO (J0 n) a es ρ σ (fun d h=>br d (P h) (R h)) Xd→Kn Γ Φ.F VB ι s (Br P R) Xd Q E→wpAny Γ.M Φ.A (PySem.isTrue (.BoolOp (aoOp a) l pos) Φ.env W) Q E s:=by
 induction h with
 |nil=>exact fun Φ l pos W ι s σ P R Q E hc S w K=>hiE w
 |@cons e es h0 ht h1 ih =>
  intro Φ l pos W ι s σ P R Q E hc S w K
  cases es with
  |nil =>
   refine lC_i (P:=fun l=>wpAny Γ.M Φ.A (PySem.isTrue (.BoolOp (aoOp a) l pos) Φ.env W) Q E s) hc fun y r hc=>lN_i (P:=fun r=>wpAny Γ.M Φ.A (PySem.isTrue (.BoolOp (aoOp a) (y::r) pos) Φ.env W) Q E s) (aR (aR hc)) ?_
   cases a with
   |true=>exact isTrue_and (ht.go (aL (aR hc)) S w K (fun s1 σ1 ι1 S1 e w K=>isTrue_and_nil (K.now (d:=true) S1.hr rfl w)) fun s1 σ1 ι1 S1 e w K=>K.now (d:=false) S1.hr rfl w)
   |false=>exact isTrue_or (ht.go (aL (aR hc)) S w K (fun s1 σ1 ι1 S1 e w K=>K.now (d:=true) S1.hr rfl w) fun s1 σ1 ι1 S1 e w K=>isTrue_or_nil (K.now (d:=false) S1.hr rfl w))
  |cons e2 es =>
   refine lC_i (P:=fun l=>wpAny Γ.M Φ.A (PySem.isTrue (.BoolOp (aoOp a) l pos) Φ.env W) Q E s) hc fun y r hc=>?_
   have rest:∀s1 σ1 ι1,SR Γ Φ ι1 σ1 ρ s1.heap→wAO (J0 n) a (.cons e2 es) ρ σ1 (fun d h=>br d (P h) (R h)) Xd→Kn Γ Φ.F VB ι1 s1 (Br P R) Xd Q E→wpAny Γ.M Φ.A (PySem.isTrue (.BoolOp (aoOp a) r pos) Φ.env W) Q E s1:=fun s1 σ1 ι1 S1 w K=>ih Φ r pos W ι1 s1 σ1 P R Q E (aR (aR hc)) S1 w K
   cases a with
   |true=>exact isTrue_and (ht.go (aL (aR hc)) S (P:=fun h=>wAO (J0 n) true (.cons e2 es) ρ h (fun d h=>br d (P h) (R h)) Xd) (R:=R) w K (fun s1 σ1 ι1 S1 e w K=>rest s1 σ1 ι1 S1 w K) fun s1 σ1 ι1 S1 e w K=>K.now (d:=false) S1.hr rfl w)
   |false=>exact isTrue_or (ht.go (aL (aR hc)) S (P:=P) (R:=fun h=>wAO (J0 n) false (.cons e2 es) ρ h (fun d h=>br d (P h) (R h)) Xd) w K (fun s1 σ1 ι1 S1 e w K=>K.now (d:=true) S1.hr rfl w) fun s1 σ1 ι1 S1 e w K=>rest s1 σ1 ι1 S1 w K)
theorem Akj {a:Bool}{es:Exs}(h:AllOK Γ n es):TrOK Γ n (.andor a es):=fun Φ x ι s σ ρ P R Xd Q E hc S w K=>AdR (P:=fun x=>wpAny Γ.M Φ.A (PySem.isTrue x Φ.env (eval x Φ.env)) Q E s) hc fun op l p hc=>by
 cases bE (aL hc)
 exact ApU h Φ l p _ ι s σ P R Q E (aR hc) S w K
end
end Mine
end
section
namespace Mine
section
variable {Γ:Wo}{n:Nat}{Φ:Fx n}{ι:Io}{s:Shared}{σ:Hp}{ρ:Ve}{Xd:Nat→Hp→Prop}{E:Value→Shared→Prop}{A:Around}{x:PySem.Expr}
theorem Room.call (R:Room A n):Amv A n:=⟨R.hh,Nat.lt_of_le_of_lt (Nat.add_le_add_left (by decide) _) R.dep,Nat.lt_of_le_of_lt (Nat.add_le_add_left (by decide) _) R.uni⟩
theorem AcD {env:PEnv}{pos:Pos}:∀(es:Exs) {sc:PySem.Scope} {NE:NEt} (l:List PySem.Expr),Aba Γ.K es sc NE l=true→(backTo pos (starEach l env)).any (·.1)=false
 |.nil,sc,NE,l,h=>lN_i (P:=fun l=>(backTo pos (starEach l env)).any (·.1)=false) h rfl
 |.cons e es,sc,NE,l,h=>lC_i (P:=fun l=>(backTo pos (starEach l env)).any (·.1)=false) h fun y r h=>by
  rw [AaY (nT (aL h))]
  show (false||(backTo pos (starEach r env)).any (·.1))=false
  rw [AcD es r (aR (aR h))]
  rfl
theorem Ahf {env:PEnv}{sc:PySem.Scope}{NE:NEt}{es:Exs}{l:List PySem.Expr}{pos:Pos}{f:Value}{Q:Args→Shared→Prop}(hc:Aba Γ.K es sc NE l=true)(h:wpAny Γ.M A (spliced (backTo pos (starEach l env))) (fun vs s'=>Q ⟨vs,[]⟩ s') E s) :
  wpAny Γ.M A (evalArgs f true (backTo pos (starEach l env)) []) Q E s:=by
 cases l with
 |nil =>
  show wpAny _ _ (evalArgs f true [] []) _ _ _
  unfold evalArgs
  show wpAny Γ.M A (spliced [] >>= _) Q E s
  exact wpAny_bind (wpAny_mono h (fun vs s' h'=>wpAny_bind (wpAny_pure (wpAny_holding (wpAny_bind (wpAny_pure (wpAny_bind (wpAny_pure (wpAny_pure h')))))))) fun _ _ e=>e)
 |cons y r =>
  have hy:Ac1 y=false:=by cases es with
   |nil=>exact ffE hc
   |cons e es=>exact nT (aL hc)
  rw [AaY hy] at h ⊢
  exact evalArgs_plain h
theorem Aah {es:Exs}{l:List PySem.Expr}{pos:Pos}{fv:Value}{first:List Value}{Ph:Heap→Prop}{α β:Type}{rel:Io→Heap→β→α→Prop}{Qd:α→Hp→Prop}{Q:β→Shared→Prop}{Qe:List D→Hp→Prop}{Q':Value→Shared→Prop}
  (hk:∀h,Ph h→∃k,(k=Keeper.frame∨k=Keeper.machine∨k=Keeper.boundFrame)∧Looks Γ.M h (keeperOf fv) k) (hP:∀h,Γ.base.StaysIn h→Ph h) (h:EvsOK Γ n es) (hc:Aba Γ.K es Φ.env.scope Φ.NE l=true) (S:SR Γ Φ ι σ ρ s.heap) (w:wEs (J0 n) es ρ σ Qe Xd) (K:Kn Γ Φ.F rel ι s Qd Xd Q E)
  (k:∀vs s1 ds σ1 ι1,SR Γ Φ ι1 σ1 ρ s1.heap→Ext Φ.F [] ι ι1 s.heap s1.heap→VL l.length ι1 s1.heap vs ds→Qe ds σ1→Kn Γ Φ.F rel ι1 s1 Qd Xd Q E→wpAny Γ.M Φ.A (call fv (first++vs)) Q' E s1):wpAny Γ.M Φ.A (callWith pos fv first (backTo pos (starEach l Φ.env)) []) Q' E s :=
 callWith_of (P:=Ph) (by rw [AcD es l hc];rfl) hk (Ahf hc (h.go hc S w K fun vs s1 ds σ1 ι1 S1 e r w K=>⟨hP _ S1.hr.stay,k vs s1 ds σ1 ι1 S1 e r w K⟩))
theorem U9 {M:Model}{f:Value}(hf:∀a,f≠.ref a)(h:Heap):∃k,(k=Keeper.frame∨k=Keeper.machine∨k=Keeper.boundFrame)∧Looks M h (keeperOf f) k:=by
 refine ⟨.machine,.inr (.inl rfl),Looks.of_pure ?_⟩
 cases f<;>first|rfl|exact absurd rfl (hf _)
theorem Good.keepF (W:Good Γ){f:Nat}{fi:FnI}(e:fnT[f]? = some fi):keepIn Γ.K (.ref fi.addr)=true:=List.all_eq_true.mp W.kp fi (List.mem_of_getElem? e)
theorem Ael {es:Exs}{f:Nat}{g:PySem.Expr}{l:List PySem.Expr}{pos:Pos}{α β:Type}{rel:Io→Heap→β→α→Prop}{Qd:α→Hp→Prop}{Q:β→Shared→Prop}{Qe:List D→Hp→Prop}{Q':Value→Shared→Prop}(W:Good Γ)(h:EvsOK Γ n es)(hg:V9 g (fun x p=>isFn Γ.K Φ.env.scope x f)=true)
  (hc:Aba Γ.K es Φ.env.scope Φ.NE l=true) (S:SR Γ Φ ι σ ρ s.heap) (w:wEs (J0 n) es ρ σ Qe Xd) (K:Kn Γ Φ.F rel ι s Qd Xd Q E)
  (k:∀fi vs s1 ds σ1 ι1,fnT[f]? = some fi→SR Γ Φ ι1 σ1 ρ s1.heap→VRs ι1 s1.heap vs ds→Qe ds σ1→Kn Γ Φ.F rel ι1 s1 Qd Xd Q E→wpAny Γ.M Φ.A (call (.ref fi.addr) vs) Q' E s1):wpAny Γ.M Φ.A (eval (.Call g l [] pos) Φ.env) Q' E s :=
 X3 (P:=fun g=>wpAny Γ.M Φ.A (eval (.Call g l [] pos) Φ.env) Q' E s) hg fun x p hg=>oS_e hg fun fi e hg=>Call_ (Ab6 W S hg p (Aah (first:=[]) (Ph:=Γ.K.In) (fun h=>keeps_K (W.keepF e) h) (fun h=>W.In) h hc S w K fun vs s1 ds σ1 ι1 S1 e1 r w K=>k fi vs s1 ds σ1 ι1 e S1 r.1 w K))
theorem Al0 {f:Nat}{es:Exs}(W:Good Γ)(C:AaJ Γ n)(h:EvsOK Γ n es):EvOK Γ n (.call f es):=fun Φ x ι s σ ρ Qd Xd Q E hc S w K=>W4 (P:=fun x=>wpAny Γ.M Φ.A (eval x Φ.env) Q E s) hc fun g l ks p hc=>lN_i (P:=fun ks=>wpAny Γ.M Φ.A (eval (.Call g l ks p) Φ.env) Q E s) (aL hc)
 (Ael W h (aL (aR hc)) (aR (aR hc)) S (Qe:=fun ds h1=>Ev (J0 n f ds h1) Qd Xd) w K fun fi vs s1 ds σ1 ι1 e S1 r w K=>wpAny_call (C f fi vs ds Φ.fl Φ.A ι1 s1 σ1 Qd Xd Q E e Φ.hf Φ.Rm.call S1.hr S1.ff r (Abk w) K))
theorem AcG {env:PEnv}{o:PySem.Expr}{name:Str}{apos pos:Pos}{l:List PySem.Expr}{Q:Value→Shared→Prop}(hs:Akg o=true)(hc:(backTo pos (starEach l env)).any (·.1)=false)(hlen:Nat.blt l.length 30=true)(hline:(apos.endLine==pos.line)=true)
  (h:wpAny Γ.M A (eval o env) (fun ov s₁=>∀pl:Sem Bool,wpAny Γ.M A (getMethod ov name pl) (fun p s₂=>wpAny Γ.M A (callWith pos p.1 p.2 (backTo pos (starEach l env)) []) Q E s₂) E s₁) E s) :
  wpAny Γ.M A (eval (.Call (.Attribute o name apos) l [] pos) env) Q E s:=by
 rw [arm_eval_Call,Ah2 hs]
 refine wpAny_bind (wpAny_mono h (fun ov s₁ h₁=>wpAny_bind (wpAny_standAt ?_)) fun _ _ e=>e)
 have hform:methodCallForm (l.length+([]:List PySem.Keyword).length) (backTo pos (starEach l env)) (backToKw pos (keywordEach [] env))=true:=by
  unfold methodCallForm
  have e2:(backTo pos (starEach l env)).all (fun x=>!x.1)=true:=List.all_eq_true.mpr fun p hp=>by have:=List.any_eq_false.mp hc p hp;simpa using this
  rw [e2]
  show (true&&true&&decide (l.length+0+0 < 30))=true
  rw [decide_eq_true (show l.length+0+0 < 30 from AcE hlen)]
  rfl
 have hpos:methodCallPos true o env apos pos=pure pos:=by unfold methodCallPos;simp [hline]
 unfold methodCall
 rw [hform]
 unfold calleeOf
 rw [if_pos rfl]
 exact wpAny_bind (wpAny_holding (wpAny_mono (h₁ _) (fun p s₂ h₂=>wpAny_bind (wpAny_of_eq hpos h₂)) fun _ _ e=>e))
theorem ArZ {b:Bm}{e:Ex}{es:Exs}(h1:EvOK Γ n e)(h2:EvsOK Γ n es):EvOK Γ n (.bm b e es):=fun Φ x ι s σ ρ Qd Xd Q E hc S w K=>W4 (P:=fun x=>wpAny Γ.M Φ.A (eval x Φ.env) Q E s) hc fun g l ks p hc=>lN_i (P:=fun ks=>wpAny Γ.M Φ.A (eval (.Call g l ks p) Φ.env) Q E s) (aL hc)
 (Z3 (P:=fun g=>wpAny Γ.M Φ.A (eval (.Call g l [] p) Φ.env) Q E s) (aL (aR hc)) fun v nm ap hm=>by
  cases bE (aL (aR hm))
  exact AcG (aL (aR (aR hm))) (AcD es l (aR (aR hc))) (aR (aR (aR (aR hm)))) (aL (aR (aR (aR hm)))) (h1.go (aL hm) S (Qe:=fun o h1=>isK h1 o (bmK b) (wEs (J0 n) es ρ h1 (fun ds h2=>Eo (bmD b o ds h2) Qd Xd) Xd)) w K fun v s1 o σ1 ι1 S1 e1 r1 w K=>fun pl =>
   ApK S1.hr r1 w fun w=>Aah (first:=[v]) (Ph:=fun h=>True) (fun h _=>U9 (by intro a q;cases q) h) (fun h _=>trivial) h2 (aR (aR hc)) S1 w K fun vs s2 ds σ2 ι2 S2 e2 r2 w K=>Ar5 S2.hr S2.ff.off (r1.mono (S1.mo e2)) r2.1 w K))
theorem Anx {a:Nat}{e:Ex}{es:Exs}(W:Good Γ)(C:AaJ Γ n)(h1:EvOK Γ n e)(h2:EvsOK Γ n es):EvOK Γ n (.meth a e es):=fun Φ x ι s σ ρ Qd Xd Q E hc S w K=>W4 (P:=fun x=>wpAny Γ.M Φ.A (eval x Φ.env) Q E s) hc fun g l ks p hc=>lN_i (P:=fun ks=>wpAny Γ.M Φ.A (eval (.Call g l ks p) Φ.env) Q E s) (aL hc)
 (Z3 (P:=fun g=>wpAny Γ.M Φ.A (eval (.Call g l [] p) Φ.env) Q E s) (aL (aR hc)) fun v nm ap hm=>by
  cases bE (aL (aR hm))
  have hc':=aR (aR hc)
  exact AcG (aL (aR (aR hm))) (AcD es l (aR (aR hc'))) (aR (aR (aR (aR hm)))) (aL (aR (aR (aR hm)))) (h1.go (aL hm) S (Qe:=fun o h1=>Agl o a h1 fun f=>wEs (J0 n) es ρ h1 (fun ds h2=>Ev (J0 n f (o::ds) h2) Qd Xd) Xd) w K fun v s1 o σ1 ι1 S1 e1 r1 w K=>fun pl =>
   AnA W (nT (aL hc')) (AcE (aL (aR hc'))) S1.hr r1 w fun f fi ef w=>Aah (first:=[v]) (Ph:=Γ.K.In) (fun h=>keeps_K (W.keepF ef) h) (fun h=>W.In) h2 (aR (aR hc')) S1 w K fun vs s2 ds σ2 ι2 S2 e2 r2 w K =>
    wpAny_call (C f fi _ _ Φ.fl Φ.A ι2 s2 σ2 Qd Xd Q E ef Φ.hf Φ.Rm.call S2.hr S2.ff (LR.cons (r1.mono (S1.mo e2)) r2.1) (Abk w) K)))
theorem Ajf {b:Bi}{es:Exs}{args:List PySem.Expr}{g:PySem.Expr}{p:Pos}{Qd:D→Hp→Prop}{Q:Value→Shared→Prop}(W:Good Γ)(h2:EvsOK Γ n es)(hb:b≠.isBool)(hz1:b≠.dictzip)(hz2:b≠.listzip)(hv:∀v,biF b v=true→v=biV b)(hn:∀a,biV b≠.ref a)(hg:V9 g (fun x p=>glob Γ.K Φ.env.scope x (biF b))=true)
  (hc:Aba Γ.K es Φ.env.scope Φ.NE args=true) (S:SR Γ Φ ι σ ρ s.heap) (w:wEs (J0 n) es ρ σ (fun ds h1=>Eo (biD b ds h1) Qd Xd) Xd) (K:Kn Γ Φ.F VR ι s Qd Xd Q E):wpAny Γ.M Φ.A (eval (.Call g args [] p) Φ.env) Q E s :=
 X3 (P:=fun g=>wpAny Γ.M Φ.A (eval (.Call g args [] p) Φ.env) Q E s) hg fun x q hg=>Call_ (Acy W S hg q fun v z=>hv v z▸Aah (first:=[]) (Ph:=fun h=>True) (fun h _=>U9 hn h) (fun h _=>trivial) h2 hc S w K fun vs s2 ds σ2 ι2 S2 e2 r2 w K=>ArK hb hz1 hz2 Φ.Rm S2.hr r2.1 w K)
theorem AoH {es:Exs}{a b:PySem.Expr}{p:Pos}{Qd:D→Hp→Prop}{Q:Value→Shared→Prop}(W:Good Γ)(h3:AllOK Γ n es)(hc:Aba Γ.K es Φ.env.scope Φ.NE [a]=true)(hb:V9 b (fun y p=>glob Γ.K Φ.env.scope y (isTy "bool"))=true)(S:SR Γ Φ ι σ ρ s.heap)
  (w:wEs (J0 n) es ρ σ (fun ds h1=>Eo (biD .isBool ds h1) Qd Xd) Xd) (K:Kn Γ Φ.F VR ι s Qd Xd Q E):wpAny Γ.M Φ.A (callWith p (.builtin "isinstance") [] (backTo p (starEach [a,b] Φ.env)) []) Q E s:=by
 refine X3 (P:=fun b=>wpAny Γ.M Φ.A (callWith p (.builtin "isinstance") [] (backTo p (starEach [a,b] Φ.env)) []) Q E s) hb fun y py hy=>?_
 cases h3 with
 |nil=>exact ffE hc
 |@cons e es h0 ht h1 =>
  cases h1 with
  |@cons e2 es h1 ht1 h2=>exact ffE (aR (aR hc))
  |nil =>
   rw [show backTo p (starEach [a,.Name y py] Φ.env)=[(false,eval a Φ.env),(false,eval (.Name y py) Φ.env)] by rw [AaY (nT (aL hc))];rfl]
   refine callWith_of (P:=fun _=>True) rfl (fun h _=>U9 (by intro a q;cases q) h) ?_
   exact evalArgs_plain (spliced_cons (h0.go (aL (aR hc)) S (Qe:=fun d h=>AdH d h Qd Xd) w K fun v s1 d σ1 ι1 S1 e r1 w K=>spliced_cons (Adi W S1 hy py (spliced_nil ⟨trivial,AiS S1.hr r1 w K⟩))))
theorem Aoy {es:Exs}(W:Good Γ)(h3:AllOK Γ n es):EvOK Γ n (.bi .isBool es):=fun Φ x ι s σ ρ Qd Xd Q E hc S w K=>W4 (P:=fun x=>wpAny Γ.M Φ.A (eval x Φ.env) Q E s) hc fun g args ks p hc=>lN_i (P:=fun ks=>wpAny Γ.M Φ.A (eval (.Call g args ks p) Φ.env) Q E s) (aL hc)
 (X3 (P:=fun g=>wpAny Γ.M Φ.A (eval (.Call g args [] p) Φ.env) Q E s) (aL (aR hc)) fun x q hg=>lC_i (P:=fun args=>wpAny Γ.M Φ.A (eval (.Call (.Name x q) args [] p) Φ.env) Q E s) (aR (aR hc)) fun a r hc=>lC_i (P:=fun r=>wpAny Γ.M Φ.A (eval (.Call (.Name x q) (a::r) [] p) Φ.env) Q E s) (aR hc) fun b r hc2 =>
  lN_i (P:=fun r=>wpAny Γ.M Φ.A (eval (.Call (.Name x q) (a::b::r) [] p) Φ.env) Q E s) (aL hc2) (Call_ (Acy W S hg q fun v z=>AlQ (P:=fun v=>wpAny Γ.M Φ.A (callWith p v [] (backTo p (starEach [a,b] Φ.env)) []) Q E s) z (AoH W h3 (aL hc) (aR hc2) S w K))))
theorem Ark {b:Bi}{es:Exs}(hz1:b≠.dictzip)(hz2:b≠.listzip)(W:Good Γ)(h3:AllOK Γ n es):EvOK Γ n (.bi b es):=by
 have go:∀{b:Bi},b≠.isBool→b≠.dictzip→b≠.listzip→(∀K sc f args,biA K sc f args b=f args)→(∀v,biF b v=true→v=biV b)→(∀a,biV b≠.ref a)→EvOK Γ n (.bi b es):=fun {b} h1 h2 h4 ha hv hn Φ x ι s σ ρ Qd Xd Q E hc S w K =>
  W4 (P:=fun x=>wpAny Γ.M Φ.A (eval x Φ.env) Q E s) hc fun g args ks p hc=>lN_i (P:=fun ks=>wpAny Γ.M Φ.A (eval (.Call g args ks p) Φ.env) Q E s) (aL hc) (Ajf W (Z9 h3) h1 h2 h4 hv hn (aL (aR hc)) (by have:=aR (aR hc);rwa [ha] at this) S w K)
 cases b with
 |dictzip=>exact absurd rfl hz1
 |listzip=>exact absurd rfl hz2
 |isBool=>exact Aoy W h3
 |_=>exact go (fun z=>nomatch z) (fun z=>nomatch z) (fun z=>nomatch z) (fun _ _ _ _=>rfl) (fun v z=>by first|exact AkW (P:=fun v=>v=_) z rfl|exact AlQ (P:=fun v=>v=_) z rfl) (fun a z=>nomatch z)
end
end Mine
end
section
namespace Mine
section
variable {Γ:Wo}{n:Nat}{Φ:Fx n}{ι:Io}{s:Shared}{σ:Hp}{ρ:Ve}{Qd:D→Hp→Prop}{Xd:Nat→Hp→Prop}{Q E:Value→Shared→Prop}{A:Around}{x:PySem.Expr}{fl:List PEnv}
theorem Ajl {C:Addr}{rest:List Value}{kw:List (Str×Value)}(R:Room A n):Amv (A.under (.builtin "type.__call__" ⟨.ref C::rest,kw⟩)) n :=
 ⟨R.hh,by show A.depth+1+8 * n+2 < _;have:=R.dep;omega,by show A.units+1+64 * n+50 < _;have:=R.uni;omega⟩
theorem Anl {c:Nat}{ci:ClsI}(q:clsT[c]? = some ci):clsA c=ci.addr:=by unfold clsA;rw [q]
theorem Ap7 {c:Nat}{ci:ClsI}{vs:List Value}{ds:List D}(W:Good Γ)(C:AaJ Γ n)(hci:clsT[c]? = some ci)(hx:ci.isExc=false)(hf:A.frames=some fl)(Rm:Room A n)(H:HR Γ ι σ s.heap)(F:FramesR Γ fl ι s.heap)(rs:VRs ι s.heap vs ds)
  (w:J0 n ci.init (.loc σ.length::ds) (σ++[.inst c []]) (fun r h2=>newK r (Qd (.loc σ.length) h2)) Xd) (K:Kn Γ (fls fl) VR ι s Qd Xd Q E):wpAny Γ.M A (call (.ref ci.addr) vs) Q E s:=by
 obtain ⟨h,g,dr,t,os⟩:=s
 have CO:=W.cls hci hx
 refine Ahi CO.init fun fi M=>?_
 have X:Γ.K.In h:=W.In H.stay
 refine wpAny_call (make_core (makes_of X CO.makes) (looks_findIn X M.a) (fun self=>bind_fn X self M.t) (.inl rfl) ?_)
 have k2:X0 h ((h.push emptyDict).push (instObj ci.addr h.objs.size)):=fun b o e=>J1 b o (J1 b o e)
 have g1:((h.push emptyDict).push (instObj ci.addr h.objs.size)).get? (h.objs.size+1)=some (instObj ci.addr h.objs.size):=by
  have:=Heap.get?_push_size (h.push emptyDict) (o:=instObj ci.addr h.objs.size) rfl
  rwa [Heap.size_push] at this
 have hp:∀b,Of (h.objs.size+1,some h.objs.size) b→h.get? b=none∧mainGlobals < b:=fun b hb=>hb.elim (fun z=>⟨Heap.get?_none_of_le (z▸Nat.le_succ _),z▸Nat.lt_succ_of_lt H.mainLt⟩) fun z=>Option.some.inj z▸⟨X1,H.mainLt⟩
 have E1:Ext (fls fl) [] ι (ι.add (h.objs.size+1,some h.objs.size)) h ((h.push emptyDict).push (instObj ci.addr h.objs.size)):=Ext.alloc k2 fun b hb=>(hp b hb).1
 have H1:=H.alloc (o:=.inst c []) k2 hp (fun z=>Nat.succ_ne_self _ (Option.some.inj z).symm) fun m=>InsO.mk (es:=[]) (n:=0) hci hx g1 (J1 _ _ (Heap.get?_push_size h (o:=emptyDict) rfl)) LR.nil
 have r0:VR (ι.add (h.objs.size+1,some h.objs.size)) ((h.push emptyDict).push (instObj ci.addr h.objs.size)) (.ref (h.objs.size+1)) (.loc σ.length):=vLoc (p:=(h.objs.size+1,some h.objs.size)) (AeZ H)
 have F1:=F.ext E1 fun _ q=>nomatch q
 have K1:=K.later (tk':=t) E1
 refine codeAny_mono (C ci.init fi _ _ fl _ _ _ _ _ Xd (fun v s'=>v=.none∧Q (.ref (h.objs.size+1)) s') E M.f hf (Ajl Rm) H1 F1 (LR.cons r0 (rs.mono (Mo.alloc k2 fun b hb=>(hp b hb).1))) w ⟨fun v ι' h' tk' d σ' e H' r w=>?_,K1.ex⟩) fun r s' z=>?_
 ·exact @D.casesOn (fun d=>VR ι' h' v d→newK d (Qd (.loc σ.length) σ')→v=.none∧Q (.ref (h.objs.size+1)) _) d (fun r w=>⟨r,K1.ok _ ι' h' tk' _ σ' e H' (r0.mono (e.mo F1.soft fun _ q=>nomatch q)) w⟩) (fun x r w=>hiE w) (fun x r w=>hiE w) (fun x r w=>hiE w) (fun x r w=>hiE w) (fun x r w=>hiE w) (fun x r w=>hiE w) (fun r w=>hiE w) r w
 ·rcases r with e|(v|_|_|_)<;>exact z
theorem ApP {c:Nat}{es:Exs}(W:Good Γ)(C:AaJ Γ n)(h2:EvsOK Γ n es):EvOK Γ n (.new c es):=fun Φ x ι s σ ρ Qd Xd Q E hc S w K=>W4 (P:=fun x=>wpAny Γ.M Φ.A (eval x Φ.env) Q E s) hc fun g l ks p hc=>lN_i (P:=fun ks=>wpAny Γ.M Φ.A (eval (.Call g l ks p) Φ.env) Q E s) (aL hc)
 (X3 (P:=fun g=>wpAny Γ.M Φ.A (eval (.Call g l [] p) Φ.env) Q E s) (aL (aR hc)) fun x q hg=>Call_ (Ab6 W S hg q (Aah (first:=[]) (Ph:=Γ.K.In) (fun h=>keeps_K (aL (aR (aR hc))) h) (fun h=>W.In) h2 (aR (aR (aR hc))) S (Qe:=fun ds h1=>J9 clsT[c]? fun ci=>grd (!ci.isExc) <| Ev (J0 n ci.init (.loc (List.length h1)::ds) (h1++[AO.inst c []])) (fun r h2=>newK r (Qd (.loc (List.length h1)) h2)) Xd) w K
  fun vs s1 ds σ1 ι1 S1 e r w K=>Y6 w fun ci hci w=>X6 w fun hx w=>by
   rw [Anl hci]
   exact Ap7 W C hci (nT hx) Φ.hf Φ.Rm S1.hr S1.ff r.1 (Abk w) K)))
theorem VR.move {ι':Io}{h:Heap}(hA:∀a,a∉adr ι→a∉adr ι'):(∀d,d.plain=true→∀v,VR ι h v d→VR ι' h v d)∧∀ds,D.plainAll ds=true→∀vs,VRs ι h vs ds→VRs ι' h vs ds :=
 D.ind2 (fun p v r=>r) (fun b p v r=>r) (fun i p v r=>r) (fun x p v r=>r) (fun ds ih p v r=>r.tup_i fun a vs e n rs=>vTup e (hA a n) (ih p vs rs)) (fun ds ih p v r=>r.lst_i fun a vs e n rs=>vLst e (hA a n) (ih p vs rs)) (fun l p=>ffE p) (fun p=>ffE p)
  (fun p vs r=>r) (fun d ds a b p vs r=>LR.cons_i r fun v vs q r=>LR.cons (a (aL p) v q) (b (aR p) vs r))
noncomputable def inner (ι:Io):Io:=⟨[(tabA,none)],nad (ι.nums.drop 1)++ι.hid⟩
theorem num0 {ι:Io}(h:ι.nums[(0:Nat)]? = some (tabA,none)):nad ι.nums=tabA::nad (ι.nums.drop 1):=by
 cases q:ι.nums with
 |nil=>rw [q] at h;exact nope h
 |cons p r=>rw [q] at h;cases Option.some.inj h;rfl
theorem Aeb (h:ι.nums[(0:Nat)]? = some (tabA,none)):adr (inner ι)=adr ι:=by
 show [tabA]++(nad (ι.nums.drop 1)++ι.hid)=nad ι.nums++ι.hid
 rw [num0 h]
 rfl
theorem HR.inner (H:HR Γ ι σ s.heap)(t0:ι.nums[(0:Nat)]? = some (tabA,none))(t1:TabO s.heap (tabA,none)):HR Γ (inner ι) [.tab] s.heap :=
 have hadr:=Aeb t0
 have hin:tabA∈nad ι.nums:=AaQ t0 (.inl rfl)
 have one:∀{a},a∈nad (Mine.inner ι).nums→a=tabA:=fun q=>List.mem_singleton.mp q
 ⟨H.stay,rfl,fun l o e=>by
  cases l with
  |succ l=>exact nope (show ([]:Hp)[l]? = some o from e)
  |zero=>cases Option.some.inj e;exact ⟨_,rfl,t1⟩,List.nodup_cons.mpr ⟨(fun z=>nomatch z),List.nodup_nil⟩,fun a ha=>H.off a (hadr▸ha),
 fun a ha=>⟨fun q=>by
  cases one q
  rcases List.mem_append.mp ha with z|z
  ·have:=H.nd
   rw [num0 t0] at this
   exact (List.nodup_cons.mp this).1 z
  ·exact (H.hids tabA z).1 hin,H.alive (hadr▸J8 ha)⟩,H.sys,fun a ha=>H.low a (one ha▸hin)⟩
theorem Ape {h':Heap}{ι':Io}{σ':Hp}{v:Value}{d:D}{Kf:D→Prop}{G:Prop}(H1:HR Γ ι' σ' h')(q0:σ'[(0:Nat)]? = some .tab)(hA:∀a,a∉adr ι'→a∉adr ι)(hN:∀a,a∈nad ι'.nums→a=tabA∨a∉adr ι)(r:VR ι' h' v d)(w:frzK σ' d Kf)(k:∀d,VR ι h' v d→Kf d→G):G :=
 have m:∀{x},VR ι' h' v x→grd (D.plain x) (Kf x)→G:=fun r w=>X6 w fun p w=>k _ ((VR.move hA).1 _ p v r) w
 @D.casesOn (fun d=>opK σ' d (fun d=>grd (D.plain d) (Kf d))→VR ι' h' v d→G) d (fun w r=>m r w) (fun x w r=>m r w) (fun x w r=>m r w) (fun x w r=>m r w) (fun x w r=>m r w) (fun x w r=>m r w)
  (fun l w r=>VR.loc_i (P:=fun v=>(∀d,VR ι h' v d→Kf d→G)→G) r (fun p e k=>Y8 (B:=fun p=>(∀d,VR ι h' (.ref p.1) d→Kf d→G)→G) H1 e w (fun a vs n ds e' q g rs w k=>X6 w fun p w=>k (.lst ds) (vLst (Z8 g) ((hN a (AaQ e' (.inl rfl))).elim (fun z=>by
   have t:=(tab0 H1 q0).1
   have hl:l=0:=Ace H1.nd e' t (b:=a) (.inl rfl) (.inl z)
   rw [hl,q0] at q
   exact nomatch q) id) ((VR.move hA).2 ds p vs rs)) w) k) k) (fun w r=>m r w) w r
theorem AkA {f:Nat}{fi:FnI}{vs:List Value}{ds:List D}(C:AaJ Γ n)(hfi:fnT[f]? = some fi)(hf:A.frames=some fl)(Rm:Room A n)(H:HR Γ ι σ s.heap)(F:FramesR Γ fl ι s.heap)(rs:VRs ι s.heap vs ds)(hp:D.plainAll ds=true)
  (w:thaw σ (J0 n f ds [.tab]) Qd) (K:Kn Γ (fls fl) VR ι s Qd Xd Q E):wpAny Γ.M A (call (.ref fi.addr) vs) Q E s:=by
 obtain ⟨qt,w⟩:=AeD w
 obtain ⟨t0,t1⟩:=tab0 H qt
 have hadr:=Aeb t0
 have F0:FramesR Γ fl (inner ι) s.heap:=⟨F.ff,F.ns,fun b hb=>hadr▸F.off b hb⟩
 refine wpAny_call (C f fi vs ds fl A (inner ι) s [.tab] _ _ Q E hfi hf Rm.call (H.inner t0 t1) F0 ((VR.move fun a ha=>hadr▸ha).2 ds hp vs rs) (Abk w) ⟨fun v ι' h' tk' d σ' e1 H1 r1 w=>?_,fun x ι' h' tk' c σ' e1 H1 r1 w=>w.elim⟩)
 obtain ⟨qt',w⟩:=AeD w
 obtain ⟨u0,u1⟩:=tab0 H1 qt'
 have hin:tabA∈nad ι.nums:=AaQ t0 (.inl rfl)
 have hW:∀b o,b≠tabA→b∉fls fl→s.heap.get? b=some o→h'.get? b=some o:=fun b o ht hb e=>e1.keep b o e (fun z=>ht (List.mem_singleton.mp z)) hb fun q=>nomatch q
 have E2:Ext (fls fl) [] ι ι s.heap h':=⟨List.prefix_refl _,rfl,e1.live,fun _ z=>.inl z,fun b o e hn hb _=>hW b o (fun z=>hn (z▸hin)) hb e,fun b o e hb ho=>e1.slot b o e hb ho⟩
 have m2:Mo ι ι s.heap h':=E2.mo F.soft fun _ q=>nomatch q
 have H2:HR Γ ι σ h':=⟨fun b o e=>hW b o (fun z=>two e (H.off b (J4 (z▸hin)))) (fun z=>two e (F.ff.mem z).1) (H.stay b o e),H.len,fun l o e=>(H.obj l o e).elim fun p z=>by
   by_cases hl:l=0
   ·subst hl
    cases Option.some.inj (qt.symm.trans e)
    exact ⟨_,t0,u1⟩
   ·exact ⟨p,z.1,z.2.move m2 fun b hb ob q=>hW b ob (fun y=>hl (Ace H.nd z.1 t0 hb (.inl y))) (fun y=>F.off b y (Acs z.1 hb)) q⟩,
  H.nd,H.off,fun a ha=>⟨(H.hids a ha).1,(H.hids a ha).2.elim fun o e=>e1.live a o e⟩,H.sys,H.low⟩
 have sub:∀a,a∉adr ι'→a∉adr ι:=fun a ha z=>ha (by
  rw [←hadr] at z
  exact W1 z (fun q=>Acs u0 (.inl (List.mem_singleton.mp q))) fun q=>J8 (e1.same▸q))
 exact Ape (ι:=ι) H1 qt' sub (fun a ha=>(e1.new a ha).imp (fun q=>List.mem_singleton.mp q) fun q=>H.fresh q) r1 w fun d rd w=>K.ok v ι h' tk' d σ E2 H2 rd w
theorem AkM {f:Nat}{es:Exs}(W:Good Γ)(C:AaJ Γ n)(h:EvsOK Γ n es):EvOK Γ n (.fresh f es):=fun Φ x ι s σ ρ Qd Xd Q E hc S w K=>W4 (P:=fun x=>wpAny Γ.M Φ.A (eval x Φ.env) Q E s) hc fun g l ks p hc=>lN_i (P:=fun ks=>wpAny Γ.M Φ.A (eval (.Call g l ks p) Φ.env) Q E s) (aL hc)
 (Ael W h (aL (aR hc)) (aR (aR hc)) S (Qe:=fun ds h1=>grd (D.plainAll ds) <| thaw h1 (J0 n f ds [.tab]) Qd) w K fun fi vs s1 ds σ1 ι1 e S1 r w K=>X6 w fun hp w=>AkA C e Φ.hf Φ.Rm S1.hr S1.ff r hp w K)
noncomputable abbrev PrR (ι:Io)(h:Heap)(p:Value×Value)(kd:List Nat×D):Prop:=(∃t,p.1=.str (toS kd.1) t)∧ascN kd.1=true∧VR ι h p.2 kd.2
noncomputable abbrev PR (ks:List (List Nat))(ι:Io)(h:Heap)(prs:List (Value×Value))(ds:List D):Prop:=ks.length=ds.length∧LR (PrR ι h) prs (ks.zip ds)
noncomputable abbrev AmJ (prs:List (Value×Value))(kds:List (List Nat×D)):List (Str×Value):=List.zipWith (fun p kd=>(toS kd.1,p.2)) prs kds
theorem Afp {h:Heap}{prs:List (Value×Value)}{kds:List (List Nat×D)}(r:LR (PrR ι h) prs kds):Carries (PySem.strKind Γ.prog Γ.w) prs (AmJ prs kds)∧Ents ι h (AmJ prs kds) kds :=
 LR.ind r ⟨trivial,LR.nil⟩ fun p prs kd kds a r ih=>⟨⟨a.1.elim fun t e=>e▸Aa6,rfl,ih.1⟩,LR.cons (EntR.mk a.2.1 a.2.2) ih.2⟩
theorem Ahc {es:Exs}(h:AllOK Γ n es):∀(ks:List (List Nat)) (keys:List (Option PySem.Expr)) (vals:List PySem.Expr) (pos:Pos) (ι:Io) (s:Shared) (σ:Hp) (Qe:List D→Hp→Prop) (Q:List (Value×Value)→Shared→Prop),
  Ae8 ks keys=true→Aba Γ.K es Φ.env.scope Φ.NE vals=true→ks.length=vals.length→SR Γ Φ ι σ ρ s.heap→wEs (J0 n) es ρ σ Qe Xd→Kn Γ Φ.F (PR ks) ι s Qe Xd Q E→wpAny Γ.M Φ.A (evalPairs (pairTrees keys vals Φ.env pos)) Q E s:=by
 induction h with
 |nil =>
  intro ks keys vals pos ι s σ Qe Q hk hc hl S w K
  refine lN_i (P:=fun vals=>ks.length=vals.length→wpAny Γ.M Φ.A (evalPairs (pairTrees keys vals Φ.env pos)) Q E s) hc (fun hl=>?_) hl
  cases ks with
  |cons _ _=>exact absurd hl (Nat.succ_ne_zero _)
  |nil=>exact lN_i (P:=fun keys=>wpAny Γ.M Φ.A (evalPairs (pairTrees keys [] Φ.env pos)) Q E s) hk (pairTrees_nil_walk (K.now S.hr ⟨rfl,LR.nil⟩ w))
 |@cons e es h0 ht h1 ih =>
  intro ks keys vals pos ι s σ Qe Q hk hc hl S w K
  refine lC_i (P:=fun vals=>ks.length=vals.length→wpAny Γ.M Φ.A (evalPairs (pairTrees keys vals Φ.env pos)) Q E s) hc (fun v vals hc hl=>?_) hl
  cases ks with
  |nil=>exact absurd hl.symm (Nat.succ_ne_zero _)
  |cons k ks =>
   refine lC_i (P:=fun keys=>wpAny Γ.M Φ.A (evalPairs (pairTrees keys (v::vals) Φ.env pos)) Q E s) hk fun o keys hk=>oS_i (P:=fun o=>wpAny Γ.M Φ.A (evalPairs (pairTrees (o::keys) (v::vals) Φ.env pos)) Q E s) (aL hk) fun c hk1=>W0 (P:=fun c=>wpAny Γ.M Φ.A (evalPairs (pairTrees (some c::keys) (v::vals) Φ.env pos)) Q E s) hk1 fun c k1 p1 hk1 =>
    Ali (P:=fun c=>wpAny Γ.M Φ.A (evalPairs (pairTrees (some (.Constant c k1 p1)::keys) (v::vals) Φ.env pos)) Q E s) hk1 fun y hk1=>?_
   cases bE (aL hk1)
   exact pairTrees_cons_walk (Constant_str (h0.go (s:={ s with toks:=s.toks+1 }) (aL (aR hc)) S (Qe:=fun d h1=>wEs (J0 n) es ρ h1 (fun ds h2=>Qe (d::ds) h2) Xd) w (K.later (tk':=s.toks+1) Ext.refl) fun u s1 d σ1 ι1 S1 e1 r1 w K=>ih ks keys vals pos ι1 s1 σ1 _ _ (aR hk) (aR (aR hc)) (Nat.succ.inj hl) S1 w
    ⟨fun prs ι' h' tk' ds σ' e H r w=>K.ok _ ι' h' tk' (d::ds) σ' e H ⟨congrArg Nat.succ r.1,LR.cons (y:=(y.cps.toList,d)) ⟨⟨_,rfl⟩,aR hk1,r1.mono (S1.mo e)⟩ r.2⟩ w,K.ex⟩))
theorem Aik {FL:List Nat}{ι₁:Io}{σ₁:Hp}{kvs:List (List Nat×D)}{es:List (Str×Value)}{a:Nat}{h₀ h₁ h':Heap}{t:Nat}{o₀:Obj}(K:Kn Γ FL VR ι s Qd Xd Q E)(H:HR Γ ι σ s.heap)(hF:a∉FL)(ha:s.heap.get? a=none)(hlo:mainGlobals < a)(k0:X0 s.heap h₀)(g0:h₀.get? a=some o₀)(hd0:∀xs n,o₀.data≠.seq xs n)
  (e1:Ext FL [] ι ι₁ h₀ h₁) (H1:HR Γ ι₁ σ₁ h₁) (hs:Heap.SameBut a h₁ h') (hd:h'.DictOf (PySem.strKind Γ.prog Γ.w) a es) (r:Ents ι₁ h₁ es kvs) (w:Qd (.loc σ₁.length) (σ₁++[.dict kvs])):Q (.ref a) (upd s h' t):=by
 have hn:=H.fresh ha
 have hn1:a∉adr ι₁:=e1.off ⟨_,g0⟩ hn
 have g1:h₁.get? a=some o₀:=e1.keep a o₀ g0 (fun z=>hn (J4 z)) hF fun q=>nomatch q
 have ne:∀{b o},s.heap.get? b=some o→b≠a:=fun e z=>two (z▸e) ha
 have H2:=H1.allocG (p:=(a,none)) (o:=.dict kvs) (fun b o hb e=>(hs.2 b fun z=>hb (.inl z)).trans e) (fun b hb=>Ac0 hb fun z=>z▸⟨hn1,Adn H.stay ha,hlo,fun o xs n e=>Option.some.inj (g1.symm.trans e)▸hd0 xs n⟩) (fun z=>nope z) fun m=>DicO.mk hd (Ents.mono m r)
 refine K.ok (.ref a) (ι₁.add (a,none)) h' t _ _ ⟨e1.pre.trans (List.prefix_append ..),e1.same,fun b o e=>(e1.live b o (k0 b o e)).elim fun o1 q1=>⟨o1,(hs.2 b (ne e)).trans q1⟩,fun b hb=>(AaO hb).elim (fun q=>(e1.new b q).imp id fun y=>dead (AdB k0) y) fun q=>Ac0 q fun z=>.inr (z▸ha),
  fun b o e n1 n2 n3=>(hs.2 b (ne e)).trans (e1.keep b o (k0 b o e) n1 n2 n3),fun b o e n1 n2=>(e1.slot b o (k0 b o e) n1 n2).elim fun sl q=>⟨sl,(hs.2 b (ne e)).trans q⟩⟩ H2 (vLoc (p:=(a,none)) (AeZ H1)) w
theorem Ajw:∀(ks:List (List Nat)) (keys:List (Option PySem.Expr)),Ae8 ks keys=true→keys.length=ks.length∧keys.all (·.isSome)=true:=@List.rec _ _ (fun keys h=>lN_i (P:=fun keys=>keys.length=0∧keys.all (·.isSome)=true) h ⟨rfl,rfl⟩) fun k ks ih keys h =>
 lC_i (P:=fun keys=>keys.length=ks.length+1∧keys.all (·.isSome)=true) h fun o u h=>⟨congrArg Nat.succ (ih u (aR h)).1,by rw [List.all_cons,(ih u (aR h)).2,Bool.and_true];exact oS_i (P:=fun o=>o.isSome=true) (aL h) fun a _=>rfl⟩
theorem Aj7 {ks:List (List Nat)}{es:Exs}(h:AllOK Γ n es):EvOK Γ n (.mdict ks es):=fun Φ x ι s σ ρ Qd Xd Q E hc S w K=>AgW (P:=fun x=>wpAny Γ.M Φ.A (eval x Φ.env) Q E s) hc fun keys vals pos hc=>by
 obtain ⟨l1,l2⟩:=Ajw ks keys (aL hc)
 have l3:ks.length=vals.length:=bE (aL (aR (aR hc)))
 by_cases h0:keys=[]
 ·subst h0
  cases List.length_eq_zero_iff.mp l1.symm
  cases List.length_eq_zero_iff.mp l3.symm
  have w':wEs (J0 n) es ρ σ (fun ds h1=>grd (([]:List (List Nat)).length==ds.length) <| Qd (.loc (List.length h1)) (h1++[AO.dict (Y3 [] (([]:List (List Nat)).zip ds))])) Xd:=w
  cases h with
  |cons _ _ _=>exact ffE (aL (aR hc))
  |nil =>
   rw [eval_Dict_empty]
   simp only [newDict,newObj]
   exact wpAny_bind (wpAny_standAt (wpAny_bind (wpAny_alloc (wpAny_pure (K.numNew (o:=.dict []) S.hr J1 X1 S.hr.mainLt (fun m=>DicO.mk (Heap.DictOf.new s.heap) LR.nil) w')))))
 ·have hd0:(s.heap.push { cls:=.type "dict",data:=.dict #[] }).DictOf (PySem.strKind Γ.prog Γ.w) s.heap.objs.size []:=Heap.DictOf.new s.heap
  have hFa:s.heap.objs.size∉Φ.F:=S.ff.dead X1
  refine wpAny_Dict_walk (knd:=PySem.strKind Γ.prog Γ.w) l2 (by rw [l1,l3]) h0 (by rw [l1];exact Y2 (aR (aR (aR hc)))) ?_
  refine Ahc h ks keys vals pos ι (upd s (s.heap.push { cls:=.type "dict",data:=.dict #[] }) s.toks) σ (fun ds h1=>grd (ks.length==ds.length) <| Qd (.loc (List.length h1)) (h1++[AO.dict (Y3 [] (ks.zip ds))])) _ (aL hc) (aL (aR hc)) l3 (S.more J1) w
   ⟨fun prs ι₁ h₁ tk' ds σ₁ e1 H1 r w=>X6 w fun hl w=>⟨AmJ prs (ks.zip ds),(Afp r.2).1,Heap.DictOf.at hd0 (fun o e=>e1.keep _ o e (fun z=>Nat.lt_irrefl _ (AoG S.hr (J4 z))) hFa fun q=>nomatch q),fun h' hm hs=>?_⟩,(K.later (Ext.more J1)).ex⟩
  exact Aik (s:=s) (h₀:=s.heap.push { cls:=.type "dict",data:=.dict #[] }) (o₀:={ cls:=.type "dict",data:=.dict #[] }) K S.hr hFa X1 S.hr.mainLt J1 (Heap.get?_push_size _ rfl) (fun xs n q=>nomatch q) e1 H1 hs hm (Ents.merge (Afp (Γ:=Γ) r.2).2 LR.nil List.nodup_nil) w
end
end Mine
end
section
namespace Mine
noncomputable abbrev tySq (b:Bool):String:=bT b "list" "tuple"
noncomputable abbrev tyIt (b:Bool):String:=bT b "list_iterator" "tuple_iterator"
noncomputable def IsIt (b:Bool)(h:Heap)(I l:Addr)(k:Nat):Prop:=∃o,h.get? I=some o∧o.cls=.type (tyIt b)∧o.data=.fields #[.ref l,.int k 0]
inductive SqIt (ι:Io) (h:Heap) (I l:Addr) (ds:List D):Prop
 |mk (b:Bool) (k:Nat) (vs:List Value):IsIt b h I l k→IsSq (tySq b) h l vs.toArray→l∉adr ι→VRs ι h (vs.drop k) ds→SqIt ι h I l ds
section
variable {Γ:Wo}{ι ι':Io}{s:Shared}{σ:Hp}{A:Around}{E:Value→Shared→Prop}{h h':Heap}{I l:Addr}{ds:List D}{d:D}
theorem Ap9 (b:Bool):tyIt b ≠ "zip" := by cases b<;>decide
theorem As6 {b:Bool}{k:Nat}(x:IsIt b h I l k)(e:∀o,h.get? I=some o→h'.get? I=some o):IsIt b h' I l k:=x.elim fun o z=>⟨o,e o z.1,z.2⟩
theorem SqIt.move (r:SqIt ι h I l ds)(M:Mo ι ι' h h')(k:∀o,h.get? I=some o→h'.get? I=some o):SqIt ι' h' I l ds :=
 SqIt.casesOn r fun b i vs x e n r=>.mk b i vs (As6 x k) (e.move M n).1 (e.move M n).2 (r.mono M)
theorem SqIt.obj (r:SqIt ι h I l ds):∃o vs b,h.get? I=some o∧o.data=.fields vs∧o.cls=.type (tyIt b):=SqIt.casesOn r fun b i vs x e n q=>x.elim fun o z=>⟨o,_,b,z.1,z.2.2,z.2.1⟩
theorem SqIt.alive (r:SqIt ι h I l ds):J6 h I:=r.obj.elim fun o z=>z.elim fun _ z=>z.elim fun _ z=>⟨o,z.1⟩
theorem Ab7 {o:Obj}{vs:Array Value}(e:h.get? I=some o)(d:o.data=.fields vs):W7 h I:=fun o' xs n e' q=>by
 rw [e] at e';cases e';rw [d] at q;cases q
theorem SqIt.soft (r:SqIt ι h I l ds):W7 h I:=r.obj.elim fun o z=>z.elim fun vs z=>z.elim fun _ z=>Ab7 z.1 z.2.1
theorem Ach (r:SqIt ι h I l ds)(hs:Heap.SameBut I h h'):Mo ι ι h h':=Mo.one hs (.inr r.soft)
theorem SqIt.ne_sq {T:String}{xs:Array Value}{a:Nat}(r:SqIt ι h I l ds)(e:IsSq T h a xs):I≠a:=fun q=>e.elim fun o e=>e.2.2.elim fun n z=>r.soft o xs n (q▸e.1) z
theorem Ap3 {vs:List Value}{k:Nat}{G:Prop}(r:VRs ι h (vs.drop k) (d::ds))(g:∀v,vs[k]? = some v→VR ι h v d→VRs ι h (vs.drop (k+1)) ds→G):G:=by
 generalize hq:vs.drop k=us at r
 refine LR.cons_i (P:=fun us=>vs.drop k=us→G) r (fun v us a b hq=>g v (by have:=congrArg (fun l=>l[0]?) hq;simpa using this) a (by
  have:vs.drop (k+1)=us:=by rw [←List.drop_drop,hq];rfl
  rw [this];exact b)) hq
theorem SqIt.cons {G:Prop}(r:SqIt ι h I l (d::ds))(g:∀b k vs v,IsIt b h I l k→IsSq (tySq b) h l vs→vs[k]? = some v→VR ι h v d→(∀h',IsIt b h' I l (k+1)→Heap.SameBut I h h'→SqIt ι h' I l ds)→G):G :=
 SqIt.casesOn r fun b i vs x e n q=>Ap3 q fun v hv rv q'=>g b i _ v x e ((List.getElem?_toArray ..).trans hv) rv fun h' x' hs =>
  have M:=Ach r hs
  .mk b _ vs x' (e.move M n).1 n (q'.mono M)
theorem SqIt.nil {G:Prop}(r:SqIt ι h I l [])(g:∀b k vs,IsIt b h I l k→IsSq (tySq b) h l vs→vs[k]? = none→G):G :=
 SqIt.casesOn r fun b i vs x e n q=>g b i _ x e ((List.getElem?_toArray ..).trans (List.getElem?_eq_none (List.drop_eq_nil_iff.mp (LR.nil_i (P:=fun l=>l=[]) q rfl))))
theorem Afj {b:Bool}{k:Nat}(x:IsIt b h I l k):J6 h I:=x.elim fun o z=>⟨o,z.1⟩
theorem AiE {Q:Option Value→Shared→Prop}(r:SqIt ι s.heap I l (d::ds))(hQ:∀v h',Heap.SameBut I s.heap h'→J6 h' I→VR ι s.heap v d→SqIt ι h' I l ds→Q (some v) { s with heap:=h' }):wpAny Γ.M A (pyNext (.ref I)) Q E s :=
 r.cons fun b k vs v x e hv rv f=>@Bool.casesOn (fun b=>IsIt b s.heap I l k→IsSq (tySq b) s.heap l vs→(∀h',IsIt b h' I l (k+1)→Heap.SameBut I s.heap h'→SqIt ι h' I l ds)→wpAny Γ.M A (pyNext (.ref I)) Q E s) b
  (fun x e f=>wpAny_pyNext_tuple_item x e hv fun h' x' hs=>hQ v h' hs (Afj (b:=false) x') rv (f h' x' hs)) (fun x e f=>wpAny_pyNext_list_item x e hv fun h' x' hs=>hQ v h' hs (Afj (b:=true) x') rv (f h' x' hs)) x e f
theorem Ale {Q:Option Value→Shared→Prop}(hh:A.handled=none)(r:SqIt ι s.heap I l [])(hQ:∀h',Heap.ExtBut I s.heap h'→Q none { s with heap:=h' }):wpAny Γ.M A (pyNext (.ref I)) Q E s :=
 r.nil fun b k vs x e hv=>@Bool.casesOn (fun b=>IsIt b s.heap I l k→IsSq (tySq b) s.heap l vs→wpAny Γ.M A (pyNext (.ref I)) Q E s) b (fun x e=>wpAny_pyNext_tuple_end hh x e hv hQ) (fun x e=>wpAny_pyNext_list_end hh x e hv hQ) x e
theorem Anw {Q:Value→Shared→Prop}(r:SqIt ι s.heap I l ds)(h:Q (.ref I) s):wpAny Γ.M A (pyIter (.ref I)) Q E s :=
 SqIt.casesOn r fun b i vs x e n q=>@Bool.casesOn (fun b=>IsIt b s.heap I l i→wpAny Γ.M A (pyIter (.ref I)) Q E s) b (fun x=>wpAny_pyIter_tupleiter x h) (fun x=>wpAny_pyIter_listiter x h) x
noncomputable abbrev AcV (b:Bool)(l:Addr):Obj:={ cls:=.type (tyIt b),data:=.fields #[.ref l,.int 0 0] }
theorem AfA {b:Bool}{vs:List Value}(e:IsSq (tySq b) h l vs.toArray)(n:l∉adr ι)(r:VRs ι h vs ds):SqIt ι (h.push (AcV b l)) h.objs.size l ds :=
 .mk b 0 vs ⟨_,Heap.get?_push_size _ rfl,rfl,rfl⟩ (e.move (Mo.more J1) n).1 n (r.mono (Mo.more J1))
theorem Aiy {v:Value}{Kf:List D→Prop}{Q:Value→Shared→Prop}(hw:X4 d Kf)(r:VR ι s.heap v d)
  (k:∀b l ds,Kf ds→SqIt ι (s.heap.push (AcV b l)) s.heap.objs.size l ds→Q (.ref s.heap.objs.size) { s with heap:=s.heap.push (AcV b l) }):wpAny Γ.M A (pyIter v) Q E s :=
 Aca hw r fun a vs ds e n rs w=>e.elim (fun e=>wpAny_pyIter_tuple (show s.heap.IsTuple a _ from e) (k false a ds w (AfA (b:=false) e n rs))) fun e=>wpAny_pyIter_list (show s.heap.IsList a _ from e) (k true a ds w (AfA (b:=true) e n rs))
theorem Af7 {it t:Addr}{i:Nat}{xs:Array Value}{x:Value}{Q:Value→Shared→Prop}(hit:s.heap.IsTupleIter it t i)(ht:s.heap.IsTuple t xs)(hx:xs[i]? = some x)
  (hQ:∀h',h'.IsTupleIter it t (i+1)→Heap.SameBut it s.heap h'→Q x { s with heap:=h' }):wpAny Γ.M A (Builtin.SmallTypes.nextOf (.ref it)) Q E s:=by
 obtain ⟨o,ho,hc,hd⟩:=id hit
 obtain ⟨ol,hol,_,nl,hdl⟩:=ht
 unfold Builtin.SmallTypes.nextOf
 refine wpAny_bind (wpAny_callSpecial?_slot (name:=Str.ofString "__next__") hit.typeIs PySem.F.slot_tuple_iterator_next
  (wpAny_call_entry PySem.F.slot_tuple_iterator_next hit.typeIs PySem.F.entry_tuple_iterator_next ?_ (PySem.F.args_tuple_iterator_next_1 _)))
 show wpAny _ _ (field (.ref it) 0 >>= _) _ _ s
 refine wpAny_bind (wpAny_field ho hd (x:=.ref t) rfl ?_)
 show wpAny _ _ (field (.ref it) 1 >>= _) _ _ s
 refine wpAny_bind (wpAny_field ho hd (x:=.int i 0) rfl ?_)
 show wpAny _ _ (seqItems? (.ref t) >>= _) _ _ s
 refine wpAny_bind (wpAny_seqItems hol hdl ?_)
 simp only [Int.toNat_natCast,hx]
 refine wpAny_bind (wpAny_setField ho hd (by simp) (wpAny_pure ⟨x,rfl,wpAny_pure (hQ _ ?_ (Heap.SameBut.update ..))⟩))
 exact ⟨_,Heap.get?_update_self _ ho (Obj.isFreed_of_fields (Obj.data_mapFields hd _)),(Obj.cls_mapFields ..).trans hc,by
  rw [Obj.data_mapFields hd];simp [rawInt]⟩
theorem AcQ {it t:Addr}{i:Nat}{xs:Array Value}{Q:Value→Shared→Prop}(hh:A.handled=none)(hit:s.heap.IsTupleIter it t i)(ht:s.heap.IsTuple t xs)(hx:xs[i]? = none)
  (hE:∀h' e,Heap.ExtBut it s.heap h'→(∃o,h'.get? e=some o∧o.cls=.type "StopIteration")→E (.ref e) { s with heap:=h' }):wpAny Γ.M A (Builtin.SmallTypes.nextOf (.ref it)) Q E s:=by
 obtain ⟨o,ho,hc,hd⟩:=id hit
 obtain ⟨ol,hol,_,nl,hdl⟩:=ht
 unfold Builtin.SmallTypes.nextOf
 refine wpAny_bind (wpAny_callSpecial?_slot (name:=Str.ofString "__next__") hit.typeIs PySem.F.slot_tuple_iterator_next
  (wpAny_call_entry PySem.F.slot_tuple_iterator_next hit.typeIs PySem.F.entry_tuple_iterator_next ?_ (PySem.F.args_tuple_iterator_next_1 _)))
 show wpAny _ _ (field (.ref it) 0 >>= _) _ _ s
 refine wpAny_bind (wpAny_field ho hd (x:=.ref t) rfl ?_)
 show wpAny _ _ (field (.ref it) 1 >>= _) _ _ s
 refine wpAny_bind (wpAny_field ho hd (x:=.int i 0) rfl ?_)
 show wpAny _ _ (seqItems? (.ref t) >>= _) _ _ s
 refine wpAny_bind (wpAny_seqItems hol hdl ?_)
 simp only [Int.toNat_natCast,hx]
 refine wpAny_bind (wpAny_rule (wpAny_bind (wpAny_setField ho hd (by simp) ?_)))
 show wpAny _ _ (newExc (.type "StopIteration") [] >>= _) _ _ _
 refine wpAny_bind ?_
 simp only [newExc,newTuple]
 refine wpAny_bind (wpAny_newObj_type ?_ (by size_fits))
 refine wpAny_bind (m:=firstArgMember _ _) (wpAny_of_eq (a:=Value.none) (by first|rfl|(simp only [firstArgMember];rfl)) ?_)
 refine wpAny_newObj_type ?_ (by size_fits)
 simp only [raiseNew]
 refine wpAny_bind (wpAny_handled ?_)
 first|rw [show A.in1.handled=none from hh]|rw [hh]
 refine wpAny_bind (wpAny_pure (wpAny_throw ?_))
 exact hE _ _ (((Heap.SameBut.update ..).extBut.push _).push _) ⟨_,Heap.get?_push_size _ rfl,rfl⟩
theorem AbQ {Q:Value→Shared→Prop}(r:SqIt ι s.heap I l (d::ds))(hQ:∀v h',Heap.SameBut I s.heap h'→VR ι s.heap v d→SqIt ι h' I l ds→Q v { s with heap:=h' }):wpAny Γ.M A (Builtin.SmallTypes.nextOf (.ref I)) Q E s :=
 r.cons fun b k vs v x e hv rv f=>@Bool.casesOn (fun b=>IsIt b s.heap I l k→IsSq (tySq b) s.heap l vs→(∀h',IsIt b h' I l (k+1)→Heap.SameBut I s.heap h'→SqIt ι h' I l ds)→wpAny Γ.M A (Builtin.SmallTypes.nextOf (.ref I)) Q E s) b
  (fun x e f=>Af7 x e hv fun h' x' hs=>hQ v h' hs rv (f h' x' hs)) (fun x e f=>wpAny_nextOf_list_item x e hv fun h' x' hs=>hQ v h' hs rv (f h' x' hs)) x e f
theorem AdD {Q:Value→Shared→Prop}(hh:A.handled=none)(r:SqIt ι s.heap I l [])(hE:∀h' e,Heap.ExtBut I s.heap h'→(∃o,h'.get? e=some o∧o.cls=.type "StopIteration")→E (.ref e) { s with heap:=h' }):wpAny Γ.M A (Builtin.SmallTypes.nextOf (.ref I)) Q E s :=
 r.nil fun b k vs x e hv=>@Bool.casesOn (fun b=>IsIt b s.heap I l k→IsSq (tySq b) s.heap l vs→wpAny Γ.M A (Builtin.SmallTypes.nextOf (.ref I)) Q E s) b (fun x e=>AcQ hh x e hv hE) (fun x e=>wpAny_nextOf_list_end hh x e hv hE) x e
end
noncomputable abbrev zObj (f0 f1:Value)(TI TO:Addr):Obj:={ cls:=.type "zip",dict:=none,data:=.fields #[f0,f1,.bool false,.ref TI,.ref TO],slots:=#[] }
structure Zs (ι:Io)(h:Heap)(z TI TO i1 i2 l1 l2:Addr)(f0 f1 a b:Value)(xs ys:List D):Prop where
 hz:h.get? z=some (zObj f0 f1 TI TO)
 hI:IsPair h TI (.ref i1) (.ref i2)
 hO:IsPair h TO a b
 s1:SqIt ι h i1 l1 xs
 s2:SqIt ι h i2 l2 ys
 ne:i1≠i2
 hid:TO∈adr ι
 off:TI∉adr ι
section
variable {ι ι':Io}{h h':Heap}{z TI TO i1 i2 l1 l2:Addr}{f0 f1 g0 g1 a b c d:Value}{xs ys xs' ys':List D}
theorem Ahz {p q:Nat}{o o':Obj}(e:h.get? p=some o)(e':h.get? q=some o')(n:o.cls≠o'.cls):p≠q:=fun y=>n (congrArg Obj.cls (Option.some.inj (e.symm.trans (y▸e'))))
theorem Aa9 {T:Nat}(e:IsPair h T a b):IsSq "tuple" h T #[a,b]:=⟨_,e,rfl,_,rfl⟩
theorem SqIt.ne_z (r:SqIt ι h i1 l1 xs)(e:h.get? z=some (zObj f0 f1 TI TO)):i1≠z:=r.obj.elim fun o x=>x.elim fun _ x=>x.elim fun b x=>Ahz x.1 e (by rw [x.2.2];exact fun q=>Ap9 b (Value.type.inj q))
theorem Acr {T:Nat}(e:IsPair h T a b)(q:h.get? z=some (zObj f0 f1 TI TO)):T≠z:=Ahz e q (show Value.type "tuple" ≠ Value.type "zip" by decide)
theorem X2 {b c:Nat}{o:Obj}(hs:Heap.SameBut b h h')(e:h.get? c=some o)(n:c≠b):h'.get? c=some o:=(hs.2 c n).trans e
theorem Zs.move (Z:Zs ι h z TI TO i1 i2 l1 l2 f0 f1 a b xs ys)(M:Mo ι ι' h h')(k:∀c∈[z,TI,TO,i1,i2],∀o,h.get? c=some o→h'.get? c=some o)(hO:TO∈adr ι'):Zs ι' h' z TI TO i1 i2 l1 l2 f0 f1 a b xs ys :=
 ⟨k z List.mem_cons_self _ Z.hz,k TI (by simp) _ Z.hI,k TO (by simp) _ Z.hO,Z.s1.move M (k i1 (by simp)),Z.s2.move M (k i2 (by simp)),Z.ne,hO,fun q=>(M.new _ q).elim Z.off fun y=>y _ _ _ Z.hI rfl⟩
theorem Zs.atZ (Z:Zs ι h z TI TO i1 i2 l1 l2 f0 f1 a b xs ys)(hs:Heap.SameBut z h h')(e:h'.get? z=some (zObj g0 g1 TI TO)):Zs ι h' z TI TO i1 i2 l1 l2 g0 g1 a b xs ys∧Mo ι ι h h' :=
 have M:=Mo.one (ι:=ι) hs (.inr (Ab7 Z.hz rfl))
 ⟨⟨e,X2 hs Z.hI (Acr Z.hI Z.hz),X2 hs Z.hO (Acr Z.hO Z.hz),Z.s1.move M fun o q=>X2 hs q (Z.s1.ne_z Z.hz),Z.s2.move M fun o q=>X2 hs q (Z.s2.ne_z Z.hz),Z.ne,Z.hid,Z.off⟩,M⟩
theorem Zs.at1 (Z:Zs ι h z TI TO i1 i2 l1 l2 f0 f1 a b xs ys)(hs:Heap.SameBut i1 h h')(r:SqIt ι h' i1 l1 xs'):Zs ι h' z TI TO i1 i2 l1 l2 f0 f1 a b xs' ys∧Mo ι ι h h' :=
 have M:=Ach Z.s1 hs
 ⟨⟨X2 hs Z.hz (Z.s1.ne_z Z.hz).symm,X2 hs Z.hI (Z.s1.ne_sq (Aa9 Z.hI)).symm,X2 hs Z.hO (Z.s1.ne_sq (Aa9 Z.hO)).symm,r,Z.s2.move M fun o q=>X2 hs q Z.ne.symm,Z.ne,Z.hid,Z.off⟩,M⟩
theorem Zs.at2 (Z:Zs ι h z TI TO i1 i2 l1 l2 f0 f1 a b xs ys)(hs:Heap.SameBut i2 h h')(r:SqIt ι h' i2 l2 ys'):Zs ι h' z TI TO i1 i2 l1 l2 f0 f1 a b xs ys'∧Mo ι ι h h' :=
 have M:=Ach Z.s2 hs
 ⟨⟨X2 hs Z.hz (Z.s2.ne_z Z.hz).symm,X2 hs Z.hI (Z.s2.ne_sq (Aa9 Z.hI)).symm,X2 hs Z.hO (Z.s2.ne_sq (Aa9 Z.hO)).symm,Z.s1.move M fun o q=>X2 hs q Z.ne,r,Z.ne,Z.hid,Z.off⟩,M⟩
theorem Zs.atO (Z:Zs ι h z TI TO i1 i2 l1 l2 f0 f1 a b xs ys)(hs:Heap.SameBut TO h h')(e:IsPair h' TO c d):Zs ι h' z TI TO i1 i2 l1 l2 f0 f1 c d xs ys∧Mo ι ι h h' :=
 have M:=Mo.one (ι:=ι) hs (.inl Z.hid)
 ⟨⟨X2 hs Z.hz (Acr Z.hO Z.hz).symm,X2 hs Z.hI fun q=>Z.off (q▸Z.hid),e,Z.s1.move M fun o q=>X2 hs q (Z.s1.ne_sq (Aa9 Z.hO)),Z.s2.move M fun o q=>X2 hs q (Z.s2.ne_sq (Aa9 Z.hO)),Z.ne,Z.hid,Z.off⟩,M⟩
theorem Zs.more (Z:Zs ι h z TI TO i1 i2 l1 l2 f0 f1 a b xs ys)(k:X0 h h'):Zs ι h' z TI TO i1 i2 l1 l2 f0 f1 a b xs ys∧Mo ι ι h h':=⟨Z.move (Mo.more k) (fun c _ o=>k c o) Z.hid,Mo.more k⟩
theorem Zs.alive (Z:Zs ι h z TI TO i1 i2 l1 l2 f0 f1 a b xs ys):∀c∈[z,TO,i1,i2],J6 h c:=fun c hc=>(List.mem_cons.mp hc).elim (fun e=>e▸⟨_,Z.hz⟩) fun hc=>(List.mem_cons.mp hc).elim (fun e=>e▸⟨_,Z.hO⟩) fun hc=>(List.mem_cons.mp hc).elim (fun e=>e▸Z.s1.alive) fun hc=>List.mem_singleton.mp hc▸Z.s2.alive
end
noncomputable def ZipR (ι:Io)(h:Heap)(z TI TO i1 i2 l1 l2:Addr)(xs ys:List D):Prop:=∃f0 f1 a b,Zs ι h z TI TO i1 i2 l1 l2 f0 f1 a b xs ys∧(f0=.none∨∃a t,f0=.int a t)
section
variable {Γ:Wo}{ι ι':Io}{s:Shared}{σ:Hp}{A:Around}{E:Value→Shared→Prop}{h h':Heap}{z TI TO i1 i2 l1 l2:Addr}{f0 f1:Value}{xs ys:List D}{x y:D}
theorem AbP {M:Model}{a:Addr}{Q:Option Obj→Shared→Prop}(h:Q (s.heap.get? a) s):wpAny M A (loadIfAlive a) Q E s:=fun Γ p _=>by
 unfold loadIfAlive
 rw [Sem.wp_loadIfAlive]
 exact h
theorem Afy {Q:Bool→Shared→Prop}(hz:s.heap.get? z=some (zObj f0 f1 TI TO))(hf:f0=.none∨∃a t,f0=.int a t)(h1:Q true s)
  (h2:∀h' f1',h'.get? z=some (zObj f0 f1' TI TO)→Heap.SameBut z s.heap h'→Q false { s with heap:=h' }):wpAny Γ.M A (Builtin.SmallTypes.ownedTupleIsFree (.ref z)) Q E s:=by
 unfold Builtin.SmallTypes.ownedTupleIsFree
 refine wpAny_bind (wpAny_field hz rfl (x:=f0) rfl ?_)
 rcases hf with rfl|⟨a,t,rfl⟩
 ·exact wpAny_pure h1
 ·refine wpAny_bind (AbP ?_)
  cases hq:s.heap.get? a.toNat with
  |none=>exact wpAny_pure h1
  |some o =>
   simp only [Option.isNone_some,Bool.false_eq_true,if_false]
   refine wpAny_bind (wpAny_field hz rfl (x:=f1) rfl ?_)
   split
   ·exact wpAny_bind (wpAny_setField_rec hz (by simp) fun h' hz' hs'=>wpAny_pure (h2 h' _ hz' hs'))
   ·exact wpAny_pure (h2 s.heap f1 hz (Heap.SameBut.refl _ _))
theorem Y1 {W:List Nat}{b:Nat}(hb:b∈W)(hs:Heap.SameBut b h h'):But W h h':=fun c o n e=>X2 hs e fun q=>n (q▸hb)
theorem But.trans {W:List Nat}{h₁ h₂ h₃:Heap}(x:But W h₁ h₂)(y:But W h₂ h₃):But W h₁ h₃:=fun b o n e=>y b o n (x b o n e)
theorem mz:z∈[z,TO,i1,i2]:=List.mem_cons_self
theorem mO:TO∈[z,TO,i1,i2]:=List.mem_cons_of_mem _ List.mem_cons_self
theorem m1:i1∈[z,TO,i1,i2]:=List.mem_cons_of_mem _ (List.mem_cons_of_mem _ List.mem_cons_self)
theorem m2:i2∈[z,TO,i1,i2]:=List.mem_cons_of_mem _ (List.mem_cons_of_mem _ (List.mem_cons_of_mem _ List.mem_cons_self))
theorem Ajz {Q:Value→Shared→Prop}(Z:ZipR ι s.heap z TI TO i1 i2 l1 l2 (x::xs) (y::ys))
  (hQ:∀h' u v,But [z,TO,i1,i2] s.heap h'→(∀c∈[z,TO,i1,i2],J6 h' c)→IsPair h' s.heap.objs.size u v→VR ι h' u x→VR ι h' v y→ZipR ι h' z TI TO i1 i2 l1 l2 xs ys→Q (.ref s.heap.objs.size) { s with heap:=h' }) :
  wpAny Γ.M A (Builtin.«zip.__next__» ⟨[.ref z],[]⟩) (fun fin s'=>∃v,fin=.done (.ret v)∧Q v s') E s:=by
 obtain ⟨f0,f1,a,b,Z,hf⟩:=Z
 show wpAny _ _ (field (.ref z) 2 >>= _) _ _ _
 refine wpAny_bind (wpAny_field Z.hz rfl (x:=.bool false) rfl ?_)
 show wpAny _ _ (field (.ref z) 3 >>= _) _ _ _
 refine wpAny_bind (wpAny_field Z.hz rfl (x:=.ref TI) rfl ?_)
 refine wpAny_bind (wpAny_seqItems Z.hI rfl ?_)
 show wpAny _ _ (Builtin.SmallTypes.ownedTupleIsFree (.ref z) >>= _) _ _ _
 refine wpAny_bind (Afy Z.hz hf ?_ ?_)
 ·simp only [if_true]
  refine wpAny_bind (wpAny_rule ?_)
  refine wpAny_bind (wpAny_field Z.hz rfl (x:=.ref TO) rfl ?_)
  refine wpAny_bind (wpAny_setField_rec Z.hz (by simp) fun h₁ hz₁ hs₁=>?_)
  obtain ⟨Z₁,M₁⟩:=Z.atZ (g0:=.ellipsis) (g1:=f1) hs₁ hz₁
  refine wpAny_bind ?_
  simp only [List.zipIdx_cons,List.zipIdx_nil,List.forIn_cons,List.forIn_nil]
  refine wpAny_bind (wpAny_bind (wpAny_onRaise ?_))
  show wpAny _ _ (Builtin.SmallTypes.nextOf (.ref i1) >>= _) _ _ _
  refine wpAny_bind (AbQ Z₁.s1 fun u h₂ hs₂ ru r₂=>wpAny_pure ?_)
  obtain ⟨Z₂,M₂⟩:=Z₁.at1 hs₂ r₂
  refine wpAny_bind (wpAny_seqItems Z₂.hO rfl ?_)
  refine wpAny_bind (wpAny_updateSeq_pair Z₂.hO fun h₃ hO₃ hs₃=>?_)
  obtain ⟨Z₃,M₃⟩:=Z₂.atO (c:=u) (d:=b) hs₃ hO₃
  refine wpAny_bind (wpAny_letGo (wpAny_pure ?_))
  refine wpAny_bind (wpAny_bind (wpAny_onRaise ?_))
  show wpAny _ _ (Builtin.SmallTypes.nextOf (.ref i2) >>= _) _ _ _
  refine wpAny_bind (AbQ Z₃.s2 fun v h₄ hs₄ rv r₄=>wpAny_pure ?_)
  obtain ⟨Z₄,M₄⟩:=Z₃.at2 hs₄ r₄
  refine wpAny_bind (wpAny_seqItems Z₄.hO rfl ?_)
  refine wpAny_bind (wpAny_updateSeq_pair Z₄.hO fun h₅ hO₅ hs₅=>?_)
  obtain ⟨Z₅,M₅⟩:=Z₄.atO (c:=u) (d:=v) hs₅ hO₅
  refine wpAny_bind (wpAny_letGo (wpAny_pure (wpAny_pure ?_)))
  refine wpAny_bind (wpAny_seqItems Z₅.hO rfl ?_)
  refine wpAny_bind (wpAny_newTuple ?_)
  have hsz:h₅.objs.size=s.heap.objs.size:=by rw [hs₅.1,hs₄.1,hs₃.1,hs₂.1,hs₁.1]
  show wpAny _ _ (Builtin.SmallTypes.ownedTupleHandOut (.ref z) (.ref h₅.objs.size) >>= _) _ _ _
  refine wpAny_bind ?_
  unfold Builtin.SmallTypes.ownedTupleHandOut
  obtain ⟨Z₆,M₆⟩:=Z₅.more (h':=h₅.push { cls:=.type "tuple",data:=.seq #[u,v] }) J1
  refine wpAny_bind (wpAny_setField_rec Z₆.hz (by simp) fun h₇ hz₇ hs₇=>?_)
  obtain ⟨Z₇,M₇⟩:=Z₆.atZ (g0:=rawInt h₅.objs.size) (g1:=f1) hs₇ hz₇
  refine wpAny_setField_rec Z₇.hz (by simp) fun h₈ hz₈ hs₈=>?_
  obtain ⟨Z₈,M₈⟩:=Z₇.atZ (g0:=rawInt h₅.objs.size) (g1:=.bool false) hs₈ hz₈
  have nz:h₅.objs.size≠z:=Nat.ne_of_gt (Heap.lt_size Z₅.hz)
  have hnew:IsPair h₈ h₅.objs.size u v:=X2 hs₈ (X2 hs₇ (Heap.get?_push_size _ rfl) nz) nz
  rw [hsz] at hnew
  refine wpAny_pure ⟨_,rfl,?_⟩
  show Q (.ref h₅.objs.size) _
  rw [hsz]
  have mv:Mo ι ι h₃ h₈:=M₄.trans (M₅.trans (M₆.trans (M₇.trans M₈)))
  exact hQ h₈ u v (But.trans (Y1 mz hs₁) (But.trans (Y1 m1 hs₂) (But.trans (Y1 mO hs₃) (But.trans (Y1 m2 hs₄) (But.trans (Y1 mO hs₅) (But.trans (fun c o _ e=>Heap.get?_push_of_some _ e) (But.trans (Y1 mz hs₇) (Y1 mz hs₈)))))))) Z₈.alive hnew (ru.mono (M₂.trans (M₃.trans mv))) (rv.mono mv) ⟨_,_,_,_,Z₈,.inr ⟨_,_,rfl⟩⟩
 ·intro h₁ f1' hz₁ hs₁
  obtain ⟨Z₁,M₁⟩:=Z.atZ hs₁ hz₁
  simp only [Bool.false_eq_true,if_false]
  refine wpAny_bind ?_
  simp only [List.forIn_cons,List.forIn_nil,←Array.forIn_toList]
  refine wpAny_bind (wpAny_bind (wpAny_holding ?_))
  show wpAny _ _ (Builtin.SmallTypes.nextOf (.ref i1) >>= _) _ _ _
  refine wpAny_bind (AbQ Z₁.s1 fun u h₂ hs₂ ru r₂=>wpAny_pure (wpAny_pure ?_))
  obtain ⟨Z₂,M₂⟩:=Z₁.at1 hs₂ r₂
  dsimp only
  refine wpAny_bind (wpAny_bind (wpAny_holding ?_))
  show wpAny _ _ (Builtin.SmallTypes.nextOf (.ref i2) >>= _) _ _ _
  refine wpAny_bind (AbQ Z₂.s2 fun v h₃ hs₃ rv r₃=>wpAny_pure (wpAny_pure ?_))
  obtain ⟨Z₃,M₃⟩:=Z₂.at2 hs₃ r₃
  dsimp only
  refine wpAny_pure ?_
  dsimp only
  show wpAny _ _ (newTuple [u,v] >>= fun x=>ret x) _ _ _
  refine wpAny_bind (wpAny_newTuple ?_)
  have hsz:h₃.objs.size=s.heap.objs.size:=by rw [hs₃.1,hs₂.1,hs₁.1]
  obtain ⟨Z₄,M₄⟩:=Z₃.more (h':=h₃.push { cls:=.type "tuple",data:=.seq #[u,v] }) J1
  have hnew:IsPair (h₃.push { cls:=.type "tuple",data:=.seq #[u,v] }) h₃.objs.size u v:=Heap.get?_push_size _ rfl
  rw [hsz] at hnew
  refine wpAny_pure ⟨_,rfl,?_⟩
  show Q (.ref h₃.objs.size) _
  rw [hsz]
  exact hQ _ u v (But.trans (Y1 mz hs₁) (But.trans (Y1 m1 hs₂) (But.trans (Y1 m2 hs₃) fun c o _ e=>Heap.get?_push_of_some _ e))) Z₄.alive hnew (ru.mono (M₂.trans (M₃.trans M₄))) (rv.mono (M₃.trans M₄)) ⟨_,_,_,_,Z₄,hf⟩
end
end Mine
end
section
namespace Mine
theorem Afl {xs ys:List D}(h:zipD xs ys=[]):xs=[]∨ys=[]:=by
 cases xs with
 |nil=>exact .inl rfl
 |cons x xs=>cases ys with
  |nil=>exact .inr rfl
  |cons y ys=>cases (show D.tup [x,y]::zipD xs ys=[] from h)
theorem AfP:∀xs ys:List D,(zipD xs ys).length≤xs.length:=@List.rec D _ (fun ys=>Nat.le_refl _) fun x xs ih ys=>@List.casesOn D (fun ys=>(zipD (x::xs) ys).length≤xs.length+1) ys (Nat.zero_le _) fun y ys=>Nat.succ_le_succ (ih ys)
section
variable {Γ:Wo}{ι ι':Io}{s:Shared}{σ:Hp}{A:Around}{E:Value→Shared→Prop}{h h':Heap}{z TI TO i1 i2 l1 l2:Addr}{f0 f1:Value}{xs ys:List D}{x y d e:D}
theorem AaN {W:List Nat}{b:Nat}(hb:b∈W)(hs:Heap.ExtBut b h h'):But W h h':=fun c o n e=>hs c o (fun q=>n (q▸hb)) e
theorem AiQ {Q:Unit→Shared→Prop}{v:Value}{b:Nat}{e:Nat}{oe:Obj}(hz:h.get? z=some (zObj f0 f1 TI TO))(hs:Heap.ExtBut b h s.heap)(nb:z≠b)(he:s.heap.get? e=some oe)(hc:oe.cls=.type "StopIteration")
  (k:∀h',Heap.SameBut z s.heap h'→h'.get? e=some oe→Q () { s with heap:=h' }):wpAny Γ.M A (setField (.ref z) 0 v) Q E s :=
 have hz':=hs z _ nb hz
 wpAny_setField_rec hz' (by simp) fun h' _ hs'=>k h' hs' (X2 hs' he (Ahz he hz' (by rw [hc];exact show Value.type "StopIteration" ≠ Value.type "zip" by decide)))
theorem Am0 {Q:Fin→Shared→Prop}(hh:A.handled=none)(Z:ZipR ι s.heap z TI TO i1 i2 l1 l2 xs ys)(hn:zipD xs ys=[])
  (hE:∀h' e,But [z,TO,i1,i2] s.heap h'→(∃o,h'.get? e=some o∧o.cls=.type "StopIteration")→E (.ref e) { s with heap:=h' }) :
  wpAny Γ.M A (Builtin.«zip.__next__» ⟨[.ref z],[]⟩) Q E s:=by
 obtain ⟨f0,f1,a,b,Z,hf⟩:=Z
 show wpAny _ _ (field (.ref z) 2 >>= _) _ _ _
 refine wpAny_bind (wpAny_field Z.hz rfl (x:=.bool false) rfl ?_)
 show wpAny _ _ (field (.ref z) 3 >>= _) _ _ _
 refine wpAny_bind (wpAny_field Z.hz rfl (x:=.ref TI) rfl ?_)
 refine wpAny_bind (wpAny_seqItems Z.hI rfl ?_)
 show wpAny _ _ (Builtin.SmallTypes.ownedTupleIsFree (.ref z) >>= _) _ _ _
 refine wpAny_bind (Afy Z.hz hf ?_ ?_)
 ·simp only [if_true]
  refine wpAny_bind (wpAny_rule ?_)
  refine wpAny_bind (wpAny_field Z.hz rfl (x:=.ref TO) rfl ?_)
  refine wpAny_bind (wpAny_setField_rec Z.hz (by simp) fun h₁ hz₁ hs₁=>?_)
  obtain ⟨Z₁,M₁⟩:=Z.atZ (g0:=.ellipsis) (g1:=f1) hs₁ hz₁
  refine wpAny_bind ?_
  simp only [List.zipIdx_cons,List.zipIdx_nil,List.forIn_cons,List.forIn_nil]
  refine wpAny_bind (wpAny_bind (wpAny_onRaise ?_))
  show wpAny _ _ (Builtin.SmallTypes.nextOf (.ref i1) >>= _) _ _ _
  cases xs with
  |nil=>exact wpAny_bind (AdD hh Z₁.s1 fun h₂ e hs₂ he=>he.elim fun oe he=>AiQ Z₁.hz hs₂ (Z₁.s1.ne_z Z₁.hz).symm he.1 he.2 fun h₃ hs₃ g=>hE h₃ e (But.trans (Y1 mz hs₁) (But.trans (AaN m1 hs₂) (Y1 mz hs₃))) ⟨oe,g,he.2⟩)
  |cons x xs =>
   cases (Afl hn).resolve_left (fun q=>nomatch q)
   refine wpAny_bind (AbQ Z₁.s1 fun u h₂ hs₂ ru r₂=>wpAny_pure ?_)
   obtain ⟨Z₂,M₂⟩:=Z₁.at1 hs₂ r₂
   refine wpAny_bind (wpAny_seqItems Z₂.hO rfl ?_)
   refine wpAny_bind (wpAny_updateSeq_pair Z₂.hO fun h₃ hO₃ hs₃=>?_)
   obtain ⟨Z₃,M₃⟩:=Z₂.atO (c:=u) (d:=b) hs₃ hO₃
   refine wpAny_bind (wpAny_letGo (wpAny_pure ?_))
   refine wpAny_bind (wpAny_bind (wpAny_onRaise ?_))
   show wpAny _ _ (Builtin.SmallTypes.nextOf (.ref i2) >>= _) _ _ _
   exact wpAny_bind (AdD hh Z₃.s2 fun h₄ e hs₄ he=>he.elim fun oe he=>AiQ Z₃.hz hs₄ (Z₃.s2.ne_z Z₃.hz).symm he.1 he.2 fun h₅ hs₅ g=>hE h₅ e (But.trans (Y1 mz hs₁) (But.trans (Y1 m1 hs₂) (But.trans (Y1 mO hs₃) (But.trans (AaN m2 hs₄) (Y1 mz hs₅))))) ⟨oe,g,he.2⟩)
 ·intro h₁ f1' hz₁ hs₁
  obtain ⟨Z₁,M₁⟩:=Z.atZ hs₁ hz₁
  simp only [Bool.false_eq_true,if_false]
  refine wpAny_bind ?_
  simp only [List.forIn_cons,List.forIn_nil,←Array.forIn_toList]
  refine wpAny_bind (wpAny_bind (wpAny_holding ?_))
  show wpAny _ _ (Builtin.SmallTypes.nextOf (.ref i1) >>= _) _ _ _
  cases xs with
  |nil=>exact wpAny_bind (AdD hh Z₁.s1 fun h₂ e hs₂ he=>hE h₂ e (But.trans (Y1 mz hs₁) (AaN m1 hs₂)) he)
  |cons x xs =>
   cases (Afl hn).resolve_left (fun q=>nomatch q)
   refine wpAny_bind (AbQ Z₁.s1 fun u h₂ hs₂ ru r₂=>wpAny_pure (wpAny_pure ?_))
   obtain ⟨Z₂,M₂⟩:=Z₁.at1 hs₂ r₂
   dsimp only
   refine wpAny_bind (wpAny_bind (wpAny_holding ?_))
   show wpAny _ _ (Builtin.SmallTypes.nextOf (.ref i2) >>= _) _ _ _
   exact wpAny_bind (AdD hh Z₂.s2 fun h₃ e hs₃ he=>hE h₃ e (But.trans (Y1 mz hs₁) (But.trans (Y1 m1 hs₂) (AaN m2 hs₃))) he)
noncomputable abbrev zH2 (h:Heap)(a b:Obj):Heap:=(h.push a).push b
noncomputable abbrev zH3 (h:Heap)(a b:Obj):Heap:=(zH2 h a b).push { cls:=.type "tuple",data:=.seq #[.ref h.objs.size,.ref (h.push a).objs.size] }
noncomputable abbrev zH4 (h:Heap)(a b:Obj):Heap:=(zH3 h a b).push { cls:=.type "tuple",data:=.seq #[.none,.none] }
noncomputable abbrev zH5 (h:Heap)(a b:Obj):Heap:=(zH4 h a b).push { cls:=.type "zip",data:=.fields #[.none,.bool false,.bool false,.ref (zH2 h a b).objs.size,.ref (zH3 h a b).objs.size] }
noncomputable abbrev tit (l:Addr):Obj:={ cls:=.type "tuple_iterator",data:=.fields #[.ref l,.int 0 0] }
noncomputable abbrev lit0 (l:Addr):Obj:={ cls:=.type "list_iterator",data:=.fields #[.ref l,.int 0 0] }
theorem Agb (l1 l2:Addr)(xs ys:Array Value) :
  Meets (Builtin.«zip.__new__» ⟨[.type "zip",.ref l1,.ref l2],[]⟩) (fun _ R s=>s.heap.IsTuple l1 xs∧s.heap.IsTuple l2 ys ∧
   R (.ok (.ret (.ref (zH4 s.heap (tit l1) (tit l2)).objs.size))) { s with heap:=zH5 s.heap (tit l1) (tit l2) }) :=
 .of_wp fun prog w A R s h=>by
  obtain ⟨hp,g,d,tk,os⟩:=s
  obtain ⟨h1,h2,h⟩:=h
  have hsub:=sub_zip
  have h1':Heap.IsTuple (Shared.heap ⟨hp,g,d,tk,os⟩) l1 xs:=h1
  have h2':Heap.IsTuple (Shared.heap ⟨hp.push (tit l1),g,d,tk,os⟩) l2 ys:=Heap.IsTuple.push h2 _
  wp_walk using wpAny_pyIter_tuple h1',wpAny_pyIter_tuple h2'
  exact ⟨_,rfl,h⟩
theorem AgK (l1 l2:Addr)(xs ys:Array Value) :
  Meets (Builtin.«zip.__new__» ⟨[.type "zip",.ref l1,.ref l2],[]⟩) (fun _ R s=>s.heap.IsTuple l1 xs∧s.heap.IsList l2 ys ∧
   R (.ok (.ret (.ref (zH4 s.heap (tit l1) (lit0 l2)).objs.size))) { s with heap:=zH5 s.heap (tit l1) (lit0 l2) }) :=
 .of_wp fun prog w A R s h=>by
  obtain ⟨hp,g,d,tk,os⟩:=s
  obtain ⟨h1,h2,h⟩:=h
  have hsub:=sub_zip
  have h1':Heap.IsTuple (Shared.heap ⟨hp,g,d,tk,os⟩) l1 xs:=h1
  have h2':Heap.IsList (Shared.heap ⟨hp.push (tit l1),g,d,tk,os⟩) l2 ys:=Heap.IsList.push h2 _
  wp_walk using wpAny_pyIter_tuple h1',wpAny_pyIter_list h2'
  exact ⟨_,rfl,h⟩
theorem Agw (l1 l2:Addr)(xs ys:Array Value) :
  Meets (Builtin.«zip.__new__» ⟨[.type "zip",.ref l1,.ref l2],[]⟩) (fun _ R s=>s.heap.IsList l1 xs∧s.heap.IsTuple l2 ys ∧
   R (.ok (.ret (.ref (zH4 s.heap (lit0 l1) (tit l2)).objs.size))) { s with heap:=zH5 s.heap (lit0 l1) (tit l2) }) :=
 .of_wp fun prog w A R s h=>by
  obtain ⟨hp,g,d,tk,os⟩:=s
  obtain ⟨h1,h2,h⟩:=h
  have hsub:=sub_zip
  have h1':Heap.IsList (Shared.heap ⟨hp,g,d,tk,os⟩) l1 xs:=h1
  have h2':Heap.IsTuple (Shared.heap ⟨hp.push (lit0 l1),g,d,tk,os⟩) l2 ys:=Heap.IsTuple.push h2 _
  wp_walk using wpAny_pyIter_list h1',wpAny_pyIter_tuple h2'
  exact ⟨_,rfl,h⟩
theorem Amt (b1 b2:Bool)(l1 l2:Addr)(xs ys:Array Value) :
  Meets (Builtin.«zip.__new__» ⟨[.type "zip",.ref l1,.ref l2],[]⟩) (fun _ R s=>IsSq (tySq b1) s.heap l1 xs∧IsSq (tySq b2) s.heap l2 ys ∧
   R (.ok (.ret (.ref (zH4 s.heap (AcV b1 l1) (AcV b2 l2)).objs.size))) { s with heap:=zH5 s.heap (AcV b1 l1) (AcV b2 l2) }):=by
 cases b1
 ·cases b2
  ·exact Agb l1 l2 xs ys
  ·exact AgK l1 l2 xs ys
 ·cases b2
  ·exact Agw l1 l2 xs ys
  ·exact meets_zip_new l1 l2 xs ys
noncomputable abbrev Ad6 (m:Nat):List Nat:=[m+4,m+2,m+3,m,m+1]
theorem Ajv {ι:Io}{h:Heap}{a b:Obj}(ha:a.isFreed=false)(hb:b.isFreed=false)(s1:SqIt ι (h.push a) h.objs.size l1 xs)(s2:SqIt ι ((h.push a).push b) (h.push a).objs.size l2 ys)(hA:∀c∈adr ι,J6 h c) :
  (zH4 h a b).objs.size=h.objs.size+4∧ZipR (ι.hide (h.objs.size+3)) (zH5 h a b) (h.objs.size+4) (h.objs.size+2) (h.objs.size+3) h.objs.size (h.objs.size+1) l1 l2 xs ys∧X0 h (zH5 h a b)∧∀c∈Ad6 h.objs.size,J6 (zH5 h a b) c:=by
 have z1:(h.push a).objs.size=h.objs.size+1:=Heap.size_push ..
 have z2:(zH2 h a b).objs.size=h.objs.size+2:=by rw [Heap.size_push,z1]
 have z3:(zH3 h a b).objs.size=h.objs.size+3:=by rw [Heap.size_push,z2]
 have z4:(zH4 h a b).objs.size=h.objs.size+4:=by rw [Heap.size_push,z3]
 have k5:X0 (zH4 h a b) (zH5 h a b):=J1
 have k4:X0 (zH3 h a b) (zH5 h a b):=fun c o e=>k5 c o (J1 c o e)
 have k3:X0 (zH2 h a b) (zH5 h a b):=fun c o e=>k4 c o (J1 c o e)
 have k2:X0 (h.push a) (zH5 h a b):=fun c o e=>k3 c o (J1 c o e)
 have k1:X0 h (zH5 h a b):=fun c o e=>k2 c o (J1 c o e)
 have g5:(zH5 h a b).get? (h.objs.size+4)=some (zObj .none (.bool false) (h.objs.size+2) (h.objs.size+3)):=by
  have g:∀n,n=(zH4 h a b).objs.size→(zH5 h a b).get? n=some (zObj .none (.bool false) (zH2 h a b).objs.size (zH3 h a b).objs.size):=fun n e=>by
   rw [e]
   exact Heap.get?_push_size (zH4 h a b) rfl
  rw [g _ z4.symm,z2,z3]
 have g4:IsPair (zH5 h a b) (h.objs.size+3) .none .none:=by
  have:=k5 _ _ (Heap.get?_push_size (zH3 h a b) (o:={ cls:=.type "tuple",data:=.seq #[.none,.none] }) rfl)
  rwa [z3] at this
 have g3:IsPair (zH5 h a b) (h.objs.size+2) (.ref h.objs.size) (.ref (h.objs.size+1)):=by
  have:=k4 _ _ (Heap.get?_push_size (zH2 h a b) (o:={ cls:=.type "tuple",data:=.seq #[.ref h.objs.size,.ref (h.push a).objs.size] }) rfl)
  rwa [z2,z1] at this
 have g2:(zH5 h a b).get? (h.objs.size+1)=some b:=by
  have:=k3 _ _ (Heap.get?_push_size (h.push a) hb)
  rwa [z1] at this
 have g1:(zH5 h a b).get? h.objs.size=some a:=k2 _ _ (Heap.get?_push_size h ha)
 have fresh:∀c,h.objs.size≤c→c∉adr ι:=fun c hc q=>(hA c q).elim fun o e=>absurd (Heap.lt_size e) (Nat.not_lt.mpr hc)
 rw [z1] at s2
 refine ⟨z4,⟨_,_,_,_,⟨g5,g3,g4,s1.move (Mo.hide k2 (Heap.get?_none_of_le (by rw [z1];exact Nat.add_le_add_left (by decide) _))) (k2 _),s2.move (Mo.hide k3 (Heap.get?_none_of_le (by rw [z2];exact Nat.add_le_add_left (by decide) _))) (k3 _),(Nat.succ_ne_self _).symm,J8 List.mem_cons_self,fun q=>?_⟩,.inl rfl⟩,k1,fun c hc=>?_⟩
 ·exact W1 q (fun q=>fresh _ (Nat.le_add_right _ 2) (J4 q)) fun q=>(List.mem_cons.mp q).elim (fun q=>absurd q.symm (Nat.succ_ne_self _)) fun q=>fresh _ (Nat.le_add_right _ 2) (J8 q)
 ·simp only [Ad6,List.mem_cons,List.not_mem_nil,or_false] at hc
  rcases hc with rfl|rfl|rfl|rfl|rfl
  ·exact ⟨_,g5⟩
  ·exact ⟨_,g3⟩
  ·exact ⟨_,g4⟩
  ·exact ⟨_,g1⟩
  ·exact ⟨_,g2⟩
theorem AfS {v u:Value}{Kf:List D→List D→Prop}{Q:Value→Shared→Prop}(H:HR Γ ι σ s.heap)(rv:VR ι s.heap v d)(ru:VR ι s.heap u e)(hw:X4 d fun xs=>X4 e fun ys=>Kf xs ys)
  (k:∀xs ys h' l1 l2,Kf xs ys→X0 s.heap h'→(∀c∈Ad6 s.heap.objs.size,J6 h' c) →
   ZipR (ι.hide (s.heap.objs.size+3)) h' (s.heap.objs.size+4) (s.heap.objs.size+2) (s.heap.objs.size+3) s.heap.objs.size (s.heap.objs.size+1) l1 l2 xs ys→Q (.ref (s.heap.objs.size+4)) { s with heap:=h' }) :
  wpAny Γ.M A (call (.type "zip") [v,u]) Q E s :=
 Aca hw rv fun a vs xs e1 n1 r1 w=>Aca w ru fun b us ys e2 n2 r2 w =>
  have go:∀b1 b2,IsSq (tySq b1) s.heap a vs.toArray→IsSq (tySq b2) s.heap b us.toArray→wpAny Γ.M A (call (.type "zip") [.ref a,.ref b]) Q E s:=fun b1 b2 e1 e2 =>
   have e2':=e2.move (Mo.more (ι:=ι) (J1 (ob:=AcV b1 a))) n2
   (Ajv (ι:=ι) (h:=s.heap) (a:=AcV b1 a) (b:=AcV b2 b) rfl rfl (AfA e1 n1 r1) (AfA e2'.1 e2'.2 (r2.mono (Mo.more J1))) (fun c=>H.alive)).elim fun z4 Z =>
    callType_new PySem.F.called_zip (by decide) (PySem.F.typeCall_zip_2 _ _) (PySem.F.newCall_zip_2 _ _) (fun obj=>PySem.F.args_object_init_3 obj _ _) PySem.F.entry_zip_new (Amt b1 b2 a b _ _) ⟨e1,e2,⟨⟨_,Heap.get?_push_size _ rfl,rfl⟩,by rw [z4];exact k xs ys _ _ _ w Z.2.1 Z.2.2 Z.1⟩⟩
  e1.elim (fun e1=>e2.elim (fun e2=>go false false e1 e2) fun e2=>go false true e1 e2) fun e1=>e2.elim (fun e2=>go true false e1 e2) fun e2=>go true true e1 e2
theorem Aaj (Z:ZipR ι s.heap z TI TO i1 i2 l1 l2 xs ys):s.TypeIs (.ref z) "zip" := Z.elim fun _ Z=>Z.elim fun _ Z=>Z.elim fun _ Z=>Z.elim fun _ Z=>⟨_,Z.1.hz,rfl⟩
theorem Aka {Q:Option Value→Shared→Prop}(Z:ZipR ι s.heap z TI TO i1 i2 l1 l2 (x::xs) (y::ys))
  (hQ:∀h' u v,But [z,TO,i1,i2] s.heap h'→(∀c∈[z,TO,i1,i2],J6 h' c)→IsPair h' s.heap.objs.size u v→VR ι h' u x→VR ι h' v y→ZipR ι h' z TI TO i1 i2 l1 l2 xs ys→Q (some (.ref s.heap.objs.size)) { s with heap:=h' }):wpAny Γ.M A (pyNext (.ref z)) Q E s:=by
 unfold pyNext
 exact wpAny_bind (wpAny_attempt (wpAny_callSpecial?_slot (name:=Str.ofString "__next__") (Aaj Z) PySem.F.slot_zip_next
  (wpAny_call_entry PySem.F.slot_zip_next (Aaj Z) PySem.F.entry_zip_next (Ajz Z fun h' u v a1 a2 a3 a4 a5 a6=>wpAny_pure (hQ h' u v a1 a2 a3 a4 a5 a6)) (PySem.F.args_zip_next_1 _))))
theorem Akh {Q:Option Value→Shared→Prop}(hh:A.handled=none)(Z:ZipR ι s.heap z TI TO i1 i2 l1 l2 xs ys)(hn:zipD xs ys=[])
  (hQ:∀h',But [z,TO,i1,i2] s.heap h'→Q none { s with heap:=h' }):wpAny Γ.M A (pyNext (.ref z)) Q E s:=by
 unfold pyNext
 refine wpAny_bind (wpAny_attempt (wpAny_callSpecial?_slot (name:=Str.ofString "__next__") (Aaj Z) PySem.F.slot_zip_next
  (wpAny_call_entry PySem.F.slot_zip_next (Aaj Z) PySem.F.entry_zip_next (Am0 hh Z hn fun h' e hk he=>?_) (PySem.F.args_zip_next_1 _))))
 exact he.elim fun o he=>wpAny_bind (wpAny_isInstance (T := "StopIteration") (b:=true) ⟨o,he⟩ isSubtype_stop (wpAny_pure (hQ _ hk)))
theorem AfK {Q:Value→Shared→Prop}(Z:ZipR ι s.heap z TI TO i1 i2 l1 l2 xs ys)(h:Q (.ref z) s):wpAny Γ.M A (pyIter (.ref z)) Q E s:=by
 refine wpAny_pyIter_slot (Aaj Z) PySem.F.slot_zip_iter (wpAny_call_entry PySem.F.slot_zip_iter (Aaj Z) PySem.F.entry_zip_iter ?_ (PySem.F.args_zip_iter_1 _))
 show wpAny _ _ (ret (.ref z)) _ _ s
 exact wpAny_pure ⟨_,rfl, "zip",_,Aaj Z,PySem.F.slot_zip_next.lookup,h⟩
theorem Ak1 {I:Nat}{tgt:PySem.Expr}{v:Value}{o:Obj}{T:String}{vs:Array Value}{Q:Unit→Shared→Prop}(e:s.heap.get? I=some o)(hc:o.cls=.type T)(hd:o.data=.fields vs)(fin:Q () s)
  (k:∀a,(["enumerate", "zip", "dict_itemiterator", "dict_reverseitemiterator", "odict_iterator", "itertools.zip_longest", "itertools.pairwise"].contains T&&vs[0]? == some (rawInt a))=true→wpAny Γ.M A (do rule "for.unpacks-the-owned-tuple";updateField I 0 .none) Q E s):wpAny Γ.M A (letOwnedTupleGo tgt (.ref I) v) Q E s:=by
 have key:wpAny Γ.M A (do
   let (.ref r,.ref a):=(Value.ref I,v)|return
   let o ←load r
   match o.cls,o.data with
   |.type n,.fields vs =>
    if ["enumerate", "zip", "dict_itemiterator", "dict_reverseitemiterator", "odict_iterator", "itertools.zip_longest", "itertools.pairwise"].contains n&&vs[0]? == some (rawInt a) then
     rule "for.unpacks-the-owned-tuple"
     updateField r 0 .none
   |_,_=>pure ()) Q E s:=by
  cases v<;>try (exact wpAny_pure fin)
  rename_i a
  refine wpAny_bind (wpAny_load e ?_)
  rw [hc,hd]
  dsimp only
  by_cases q:(["enumerate", "zip", "dict_itemiterator", "dict_reverseitemiterator", "odict_iterator", "itertools.zip_longest", "itertools.pairwise"].contains T&&vs[0]? == some (rawInt a))=true
  ·rw [if_pos q];exact k a q
  ·rw [if_neg q];exact wpAny_pure fin
 unfold letOwnedTupleGo
 split
 ·exact key
 ·exact key
 ·exact wpAny_pure fin
theorem Al4 {b:Bool}:["enumerate", "zip", "dict_itemiterator", "dict_reverseitemiterator", "odict_iterator", "itertools.zip_longest", "itertools.pairwise"].contains (tyIt b)=false:=by cases b<;>decide
theorem AlE {I:Nat}{tgt:PySem.Expr}{v:Value}{o:Obj}{b:Bool}{vs:Array Value}{Q:Unit→Shared→Prop}(e:s.heap.get? I=some o)(hc:o.cls=.type (tyIt b))(hd:o.data=.fields vs)(fin:Q () s):wpAny Γ.M A (letOwnedTupleGo tgt (.ref I) v) Q E s :=
 Ak1 e hc hd fin fun a q=>bF (aL q) Al4
theorem Apk {target:PySem.Expr}{v:Value}{Q:Unit→Shared→Prop}(Z:ZipR ι s.heap z TI TO i1 i2 l1 l2 xs ys)(h:∀h',Heap.SameBut z s.heap h'→J6 h' z→Mo ι ι s.heap h'→ZipR ι h' z TI TO i1 i2 l1 l2 xs ys→Q () { s with heap:=h' }) :
  wpAny Γ.M A (letOwnedTupleGo target (.ref z) v) Q E s:=by
 obtain ⟨f0,f1,a,b,Z,hf⟩:=Z
 refine Ak1 Z.hz rfl rfl (h s.heap (Heap.SameBut.refl _ _) ⟨_,Z.hz⟩ (Mo.more fun _ _ e=>e) ⟨f0,f1,a,b,Z,hf⟩) fun c q=>?_
 refine wpAny_bind (wpAny_rule ?_)
 show wpAny _ _ (setField (.ref z) 0 .none) Q E s
 exact wpAny_setField_rec Z.hz (by simp) fun h' hz' hs'=>h h' hs' ⟨_,hz'⟩ (Z.atZ (g0:=.none) (g1:=f1) hs' hz').2 ⟨_,_,_,_,(Z.atZ (g0:=.none) (g1:=f1) hs' hz').1,.inl rfl⟩
end
structure Wk (Γ:Wo)(A:Around)(I:Addr)(W foot:List Nat)(St:List D→Io→Heap→Prop):Prop where
 sub:∀b∈W,b∈foot
 move:∀ds ι ι' h h',St ds ι h→Mo ι ι' h h'→(∀a∈ι.hid,a∈ι'.hid)→(∀b∈foot,∀o,h.get? b=some o→h'.get? b=some o)→St ds ι' h'
 own:∀ds ι h,St ds ι h→AcF ι h W
 item:∀d ds ι (s:Shared) (Q:Option Value→Shared→Prop) (E:Value→Shared→Prop),St (d::ds) ι s.heap→(∀a∈adr ι,J6 s.heap a)→(∀v h',But W s.heap h'→(∀b∈W,J6 h' b)→VR ι h' v d→St ds ι h'→Q (some v) { s with heap:=h' })→wpAny Γ.M A (pyNext (.ref I)) Q E s
 done:∀ι (s:Shared) (Q:Option Value→Shared→Prop) (E:Value→Shared→Prop),St [] ι s.heap→(∀h',But W s.heap h'→Q none { s with heap:=h' })→wpAny Γ.M A (pyNext (.ref I)) Q E s
 go:∀ds ι (s:Shared) (tgt:PySem.Expr) (v:Value) (Q:Unit→Shared→Prop) (E:Value→Shared→Prop),St ds ι s.heap→(∀h',But W s.heap h'→(∀b∈W,J6 s.heap b→J6 h' b)→Mo ι ι s.heap h'→St ds ι h'→Q () { s with heap:=h' })→wpAny Γ.M A (letOwnedTupleGo tgt (.ref I) v) Q E s
 self:∀ds ι (s:Shared) (Q:Value→Shared→Prop) (E:Value→Shared→Prop),St ds ι s.heap→Q (.ref I) s→wpAny Γ.M A (pyIter (.ref I)) Q E s
section
variable {Γ:Wo}{A:Around}
theorem AkP (hh:A.handled=none)(I l:Addr):Wk Γ A I [I] [I] (fun ds ι h=>SqIt ι h I l ds) where
 sub:=fun _ h=>h
 move:=fun ds ι ι' h h' r M _ k=>r.move M (k I List.mem_cons_self)
 own:=fun ds ι h r b hb=>.inr (List.mem_singleton.mp hb▸r.soft)
 item:=fun d ds ι s Q E r _ h=>AiE r fun v h' hs hv rv r'=>h v h' (Aay hs) (fun b hb=>List.mem_singleton.mp hb▸hv) (rv.mono (Ach r hs)) r'
 done:=fun ι s Q E r h=>Ale hh r fun h' hs=>h h' (AaN List.mem_cons_self hs)
 go:=fun ds ι s tgt v Q E r h=>r.obj.elim fun o z=>z.elim fun vs z=>z.elim fun b z=>AlE z.1 z.2.2 z.2.1 (h s.heap (fun _ _ _ e=>e) (fun _ _ e=>e) (Mo.more fun _ _ e=>e) r)
 self:=fun ds ι s Q E r h=>Anw r h
theorem ZipR.move {ι ι':Io}{h h':Heap}{z TI TO i1 i2 l1 l2:Addr}{xs ys:List D}(Z:ZipR ι h z TI TO i1 i2 l1 l2 xs ys)(M:Mo ι ι' h h')(k:∀c∈[z,TI,TO,i1,i2],∀o,h.get? c=some o→h'.get? c=some o)(hO:TO∈adr ι'):ZipR ι' h' z TI TO i1 i2 l1 l2 xs ys :=
 Z.elim fun _ Z=>Z.elim fun _ Z=>Z.elim fun _ Z=>Z.elim fun _ Z=>⟨_,_,_,_,Z.1.move M k hO,Z.2⟩
noncomputable abbrev StZ (z TI TO i1 i2 l1 l2:Addr)(ds:List D)(ι:Io)(h:Heap):Prop:=TO∈ι.hid∧∃xs ys,ds=zipD xs ys∧ZipR ι h z TI TO i1 i2 l1 l2 xs ys
theorem AiF (hh:A.handled=none)(z TI TO i1 i2 l1 l2:Addr):Wk Γ A z [z,TO,i1,i2] [z,TI,TO,i1,i2] (StZ z TI TO i1 i2 l1 l2) where
 sub:=fun b hb=>(List.mem_cons.mp hb).elim (fun e=>e▸List.mem_cons_self) fun h=>List.mem_cons_of_mem _ (List.mem_cons_of_mem _ h)
 move:=fun ds ι ι' h h' r M hi k=>⟨hi _ r.1,r.2.elim fun xs Z=>Z.elim fun ys Z=>⟨xs,ys,Z.1,Z.2.move M k (J8 (hi _ r.1))⟩⟩
 own:=fun ds ι h r b hb=>r.2.elim fun xs Z=>Z.elim fun ys Z=>Z.2.elim fun _ Z=>Z.elim fun _ Z=>Z.elim fun _ Z=>Z.elim fun _ Z =>
  (List.mem_cons.mp hb).elim (fun e=>.inr (e▸Ab7 Z.1.hz rfl)) fun hb=>(List.mem_cons.mp hb).elim (fun e=>.inl (e▸J8 r.1)) fun hb=>(List.mem_cons.mp hb).elim (fun e=>.inr (e▸Z.1.s1.soft)) fun hb=>.inr (List.mem_singleton.mp hb▸Z.1.s2.soft)
 item:=fun d ds ι s Q E r hA h=>by
  obtain ⟨ht,xs,ys,e,Z⟩:=r
  cases xs with
  |nil=>cases e
  |cons x xs =>
   cases ys with
   |nil=>cases e
   |cons y ys =>
    cases (show d::ds=D.tup [x,y]::zipD xs ys from e)
    exact Aka Z fun h' u v k al hp ru rv Z'=>h _ h' k al (vTup (vs:=[u,v]) (Aa9 hp) (fun q=>(hA _ q).elim fun o y=>Nat.lt_irrefl _ (Heap.lt_size y)) (LR.cons ru (LR.cons rv LR.nil))) ⟨ht,xs,ys,rfl,Z'⟩
 done:=fun ι s Q E r h=>r.2.elim fun xs Z=>Z.elim fun ys Z=>Akh hh Z.2 Z.1.symm h
 go:=fun ds ι s tgt v Q E r h=>r.2.elim fun xs Z=>Z.elim fun ys Z=>Apk Z.2 fun h' hs hv M Z'=>h h' (Y1 mz hs) (fun b hb al=>(Classical.em (b=z)).elim (fun q=>q▸hv) fun q=>al.elim fun o y=>⟨o,X2 hs y q⟩) M ⟨r.1,xs,ys,Z.1,Z'⟩
 self:=fun ds ι s Q E r h=>r.2.elim fun xs Z=>Z.elim fun ys Z=>AfK Z.2 h
end
end Mine
end
section
namespace Mine
noncomputable def Ahv (env:PEnv)(loc:Bool)(own:List Nat):Prop:=∀b∈own,(b=env.locals∨∃y,env.cells.lookup y=some b)∧(loc=true→b=env.locals)
theorem Aif {x:List Nat}{i:Nat}:∀NE:NEt,AaG NE x=some i→(x,i)∈NE:=@List.rec _ _ (fun h=>nope h) fun p r ih h=>by
 have h':(if p.1=x then some p.2 else AaG r x)=some i:=h
 by_cases q:p.1=x
 ·rw [if_pos q] at h';exact (show p=(x,i) from Prod.ext q (Option.some.inj h'))▸List.mem_cons_self
 ·rw [if_neg q] at h';exact List.mem_cons_of_mem _ (ih h')
section
variable {Γ:Wo}{n:Nat}{Φ:Fx n}{ι:Io}{s:Shared}{σ:Hp}{ρ ρ':Ve}{E:Value→Shared→Prop}{A:Around}{sc:PySem.Scope}{NE:NEt}
noncomputable abbrev Aek (Γ:Wo){n:Nat}(Φ:Fx n)(loc:Bool)(ι:Io)(σ:Hp)(ρ':Ve)(s:Shared)(Q:Unit→Shared→Prop):Prop:=∀h' tk' own,Ahv Φ.env loc own→Ext Φ.F own ι ι s.heap h'→SR Γ Φ ι σ ρ' h'→Q () (upd s h' tk')
theorem AfW {i:Nat}{x:Str}(hc:chkN sc NE i x=true)(y:List Nat)(j:Nat)(hy:AaG NE y=some j)(hj:j=i):y=x.cps.toList :=
 (oR (List.all_eq_true.mp (aL (aR hc)) _ (Aif NE hy))).elim (fun q=>absurd hj (bne_iff_ne.mp q)) bE
theorem Aci {i:Nat}{x:Str}{v:Value}{d:D}{loc:Bool}{Q:Unit→Shared→Prop}(hc:chkN Φ.env.scope Φ.NE i x=true)(hl:loc=true→Φ.env.scope.names.lookup x=some .local)(S:SR Γ Φ ι σ ρ s.heap)(r:VR ι s.heap v d)
  (h:Aek Γ Φ loc ι σ (ρ.set i (some d)) s Q):wpAny Γ.M A (storeName Φ.env x v) Q E s :=
 AgT S (bE (aL hc)) (AfW hc) ((oR (aR (aR hc))).imp bE fun q=>⟨bE q,S.fr.cov x (.inl (bE q))⟩) r fun h' tk' b hb hb' e S'=>h h' tk' [b] (fun c hc'=>List.mem_singleton.mp hc'▸⟨hb,fun q=>hb' (hl q)⟩) e S'
theorem Aea {own:List Nat}{loc:Bool}(R:FrR Γ Φ.env ι s.heap)(h:Ahv Φ.env loc own):AcF ι s.heap own:=fun b hb=>.inr ((h b hb).1.elim (fun q=>q▸R.ns.elim fun m n=>Aa8 n) fun q=>q.elim fun y q=>(R.cell y b q).elim fun v n=>Aeo n)
theorem Agt {env:PEnv}:∀(is:List Nat) (l:List PySem.Expr),Agj sc NE is l=true→(assignEach l env).length=is.length∧(assignEach l env).findIdx? (·.1)=none:=@List.rec Nat _ (fun l h=>lN_i (P:=fun l=>(assignEach l env).length=0∧(assignEach l env).findIdx? (·.1)=none) h ⟨rfl,rfl⟩) fun i is ih l h =>
 lC_i (P:=fun l=>(assignEach l env).length=is.length+1∧(assignEach l env).findIdx? (·.1)=none) h fun e r h=>X3 (P:=fun e=>(assignEach (e::r) env).length=is.length+1∧(assignEach (e::r) env).findIdx? (·.1)=none) (aL h) fun x p _=>by
  have e:assignEach (.Name x p::r) env=(false,assign (.Name x p) env)::assignEach r env:=rfl
  rw [e]
  refine ⟨congrArg Nat.succ (ih r (aR h)).1,?_⟩
  rw [List.findIdx?_cons,(ih r (aR h)).2]
  rfl
theorem Akm {loc:Bool}{Q:Unit→Shared→Prop}:∀(is:List Nat) (l:List PySem.Expr) (vs:List Value) (ds:List D) (s:Shared) (ρ:Ve),Agj Φ.env.scope Φ.NE is l=true→(loc=true→l.all (Ada Φ.env.scope)=true)→SR Γ Φ ι σ ρ s.heap →
  VRs ι s.heap vs ds→Y7 is ds ρ=some ρ'→Aek Γ Φ loc ι σ ρ' s Q→wpAny Γ.M A (assignInOrder ((assignEach l Φ.env).map (·.2)) vs) Q E s:=by
 intro is
 induction is with
 |nil =>
  intro l vs ds s ρ hc hl S r e h
  cases ds with
  |cons _ _=>exact nope (show none=some ρ' from e)
  |nil =>
   cases Option.some.inj (show some ρ=some ρ' from e)
   exact lN_i (P:=fun l=>wpAny Γ.M A (assignInOrder ((assignEach l Φ.env).map (·.2)) vs) Q E s) hc (LR.nil_i (P:=fun vs=>wpAny Γ.M A (assignInOrder ((assignEach [] Φ.env).map (·.2)) vs) Q E s) r (wpAny_assignInOrder_none (h s.heap s.toks [] (fun _ q=>nomatch q) Ext.refl S)))
 |cons i is ih =>
  intro l vs ds s ρ hc hl S r e h
  cases ds with
  |nil=>exact nope (show none=some ρ' from e)
  |cons d ds =>
   refine lC_i (P:=fun l=>(loc=true→l.all (Ada Φ.env.scope)=true)→wpAny Γ.M A (assignInOrder ((assignEach l Φ.env).map (·.2)) vs) Q E s) hc (fun y l hc hl=>?_) hl
   refine X3 (P:=fun y=>(loc=true→(y::l).all (Ada Φ.env.scope)=true)→wpAny Γ.M A (assignInOrder ((assignEach (y::l) Φ.env).map (·.2)) vs) Q E s) (aL hc) (fun x p hx hl=>?_) hl
   refine LR.cons_i (P:=fun vs=>wpAny Γ.M A (assignInOrder ((assignEach (.Name x p::l) Φ.env).map (·.2)) vs) Q E s) r fun v vs a r=>?_
   have e1:(assignEach (.Name x p::l) Φ.env).map (·.2)=assign (.Name x p) Φ.env::(assignEach l Φ.env).map (·.2):=rfl
   rw [e1]
   refine wpAny_assignInOrder_more (wpAny_assign_Name (Aci (loc:=loc) hx (fun q=>bE (aL (hl q))) S a fun h' tk' own ho e1 S1=>?_))
   exact ih l vs ds (upd s h' tk') _ (aR hc) (fun q=>aR (hl q)) S1 (VRs.mono (ds:=ds) (e1.mo S.ff.soft (Aea S.fr ho)) r) e fun h'' tk'' own' ho' e2 S2 =>
    h h'' tk'' (own++own') (fun b hb=>(List.mem_append.mp hb).elim (ho b) (ho' b)) ((e1.widen fun b hb=>List.mem_append_left _ hb).trans (e2.widen fun b hb=>List.mem_append_right _ hb)) S2
theorem Ac5:∀(is:List Nat) (ds:List D) (ρ:Ve),Y7 is ds ρ=some ρ'→is.length=ds.length:=@List.rec Nat _ (fun ds ρ e=>by
  cases ds with
  |nil=>rfl
  |cons _ _=>exact nope (show none=some ρ' from e)) fun i is ih ds ρ e=>by
 cases ds with
 |nil=>exact nope (show none=some ρ' from e)
 |cons d ds=>exact congrArg Nat.succ (ih ds _ e)
theorem Aep {α:Type}{d:D}{f:List D→Option α}{a:α}{G:Prop}(e:tupO none d f=some a)(k:∀ds,d=.tup ds→f ds=some a→G):G :=
 @D.casesOn (fun d'=>d=d'→tupO none d' f=some a→G) d (fun z e=>nope e) (fun x z e=>nope e) (fun x z e=>nope e) (fun x z e=>nope e) (fun ds z e=>k ds z e) (fun x z e=>nope e) (fun x z e=>nope e) (fun z e=>nope e) rfl e
theorem Aed {is:List Nat}{l:List PySem.Expr}{kk:Nat}{p:Pos}{v:Value}{ds:List D}{loc:Bool}{Q:Unit→Shared→Prop}(hh:A.handled=none)(hc:Agj Φ.env.scope Φ.NE is l=true)(hl:loc=true→l.all (Ada Φ.env.scope)=true)(S:SR Γ Φ ι σ ρ s.heap)(r:VR ι s.heap v (.tup ds))(e:Y7 is ds ρ=some ρ')
  (h:Aek Γ Φ loc ι σ ρ' s Q):wpAny Γ.M A (assign (.Tuple l kk p) Φ.env v) Q E s :=
 VR.tup_i (P:=fun v=>wpAny Γ.M A (assign (.Tuple l kk p) Φ.env v) Q E s) r fun a vs ht nt rs =>
  have n1:=Agt (env:=Φ.env) is l hc
  wpAny_assign_Tuple hh (show s.heap.IsTuple a vs.toArray from ht) (by rw [n1.1,List.size_toArray,rs.length,Ac5 is ds ρ e]) n1.2 fun h' hh' =>
   have k:X0 s.heap h':=fun b o q=>hh' b o (Nat.ne_of_lt (Heap.lt_size q)) q
   Akm is l vs ds { s with heap:=h' } ρ hc hl (S.more k) (rs.mono (Mo.more k)) e fun h'' tk'' own ho e2 S2=>h h'' tk'' own ho ((Ext.more k).wide.trans e2) S2
theorem Abq {t:Tg}{target:PySem.Expr}{v:Value}{d:D}{loc:Bool}{Q:Unit→Shared→Prop}(hh:A.handled=none)(hc:chkT Φ.env.scope Φ.NE t target=true)(hl:loc=true→tgL Φ.env.scope t target=true)(S:SR Γ Φ ι σ ρ s.heap)(r:VR ι s.heap v d)(e:t.set d ρ=some ρ')
  (h:Aek Γ Φ loc ι σ ρ' s Q):wpAny Γ.M A (assign target Φ.env v) Q E s:=by
 cases t with
 |n i =>
  cases Option.some.inj (show some (ρ.set i (some d))=some ρ' from e)
  exact X3 (P:=fun target=>(loc=true→tgL Φ.env.scope (.n i) target=true)→wpAny Γ.M A (assign target Φ.env v) Q E s) hc (fun x p hc hl=>wpAny_assign_Name (Aci (loc:=loc) hc (fun q=>bE (hl q)) S r h)) hl
 |p is =>
  refine Aep e fun ds hd e=>?_
  subst hd
  exact Aan (P:=fun target=>(loc=true→tgL Φ.env.scope (.p is) target=true)→wpAny Γ.M A (assign target Φ.env v) Q E s) hc (fun l k p hc hl=>Aed hh hc hl S r e h) hl
 |q i is =>
  refine Aep e fun ds0 hd e=>?_
  subst hd
  refine Aan (P:=fun target=>(loc=true→tgL Φ.env.scope (.q i is) target=true)→wpAny Γ.M A (assign target Φ.env v) Q E s) hc (fun l k p hc hl=>?_) hl
  have hl0:loc=true→False:=fun q=>ffE (hl q)
  refine lC_i (P:=fun l=>wpAny Γ.M A (assign (.Tuple l k p) Φ.env v) Q E s) hc fun a rr hc=>X3 (P:=fun a=>wpAny Γ.M A (assign (.Tuple (a::rr) k p) Φ.env v) Q E s) (aL hc) fun x p1 hx=>lC_i (P:=fun rr=>wpAny Γ.M A (assign (.Tuple (.Name x p1::rr) k p) Φ.env v) Q E s) (aR hc) fun b r2 hc =>
   lN_i (P:=fun r2=>wpAny Γ.M A (assign (.Tuple (.Name x p1::b::r2) k p) Φ.env v) Q E s) (aR hc) (Aan (P:=fun b=>wpAny Γ.M A (assign (.Tuple [.Name x p1,b] k p) Φ.env v) Q E s) (aL hc) fun l2 k2 p2 hb=>?_)
  obtain ⟨dx,dy,rfl,e⟩:∃dx dy,ds0=[dx,dy]∧(tupO none dy fun ds=>Y7 is ds (ρ.set i (some dx)))=some ρ':=by
   cases ds0 with
   |nil=>exact nope e
   |cons dx ds0=>cases ds0 with
    |nil=>exact nope e
    |cons dy ds0=>cases ds0 with
     |nil=>exact ⟨dx,dy,rfl,e⟩
     |cons _ _=>exact nope e
  refine Aep e fun ds hd e=>?_
  subst hd
  refine VR.tup_i (P:=fun v=>wpAny Γ.M A (assign (.Tuple [.Name x p1,.Tuple l2 k2 p2] k p) Φ.env v) Q E s) r fun a vs ht nt rs=>?_
  refine LR.two_i (P:=fun vs=>IsSq "tuple" s.heap a vs.toArray→wpAny Γ.M A (assign (.Tuple [.Name x p1,.Tuple l2 k2 p2] k p) Φ.env (.ref a)) Q E s) rs (fun v1 v2 r1 r2 ht=>?_) ht
  refine wpAny_assign_Tuple hh (show s.heap.IsTuple a [v1,v2].toArray from ht) rfl rfl fun h' hh'=>?_
  have kk:X0 s.heap h':=fun b o q=>hh' b o (Nat.ne_of_lt (Heap.lt_size q)) q
  have S0:=S.more kk
  refine wpAny_assignInOrder_more (wpAny_assign_Name (Aci (s:={ s with heap:=h' }) (loc:=loc) hx (fun q=>(hl0 q).elim) S0 (r1.mono (Mo.more kk)) fun h1 tk1 own ho e1 S1=>?_))
  refine wpAny_assignInOrder_more (Aed (s:=upd s h1 tk1) (loc:=loc) (kk:=k2) hh hb (fun q=>(hl0 q).elim) S1 ((r2.mono (Mo.more kk)).mono (e1.mo S0.ff.soft (Aea (s:={ s with heap:=h' }) S0.fr ho))) e fun h3 tk3 own' ho' e3 S3=>?_)
  exact wpAny_assignInOrder_none (h h3 tk3 (own++own') (fun b hb=>(List.mem_append.mp hb).elim (ho b) (ho' b)) ((Ext.more kk).wide.trans ((e1.widen fun b hb=>List.mem_append_left _ hb).trans (e3.widen fun b hb=>List.mem_append_right _ hb))) S3)
end
noncomputable def clr (is:List Nat)(ρ:Ve):Ve:=@List.rec Nat (fun is=>Ve→Ve) (fun ρ=>ρ) (fun i is r ρ=>r (ρ.set i none)) is ρ
noncomputable def tgI (t:Tg):List Nat:=@Tg.casesOn (fun t=>List Nat) t (fun i=>[i]) (fun is=>is) fun i is=>i::is
noncomputable def notQ (t:Tg):Prop:=@Tg.casesOn (fun t=>Prop) t (fun i=>True) (fun is=>True) fun i is=>False
theorem AmL:∀(is:List Nat) (ρ:Ve),(clr is ρ).length=ρ.length:=@List.rec Nat _ (fun ρ=>rfl) fun i is ih ρ=>(ih (ρ.set i none)).trans (List.length_set ..)
theorem AeE:∀(is:List Nat) (ρ:Ve) (j:Nat),j∉is→(clr is ρ)[j]? = ρ[j]? := @List.rec Nat _ (fun ρ j h=>rfl) fun i is ih ρ j h=>(ih (ρ.set i none) j fun q=>h (List.mem_cons_of_mem _ q)).trans (List.getElem?_set_ne fun (q:i=j)=>h (q▸List.mem_cons_self))
theorem Alk:∀(is:List Nat) (ρ:Ve) (j:Nat) (d:D),(clr is ρ)[j]? = some (some d)→j∉is:=@List.rec Nat _ (fun ρ j d h q=>nomatch q) fun i is ih ρ j d h q=>by
 have h1:=ih (ρ.set i none) j d h
 rcases List.mem_cons.mp q with e|q
 ·have h2:=(AeE is (ρ.set i none) j h1).symm.trans h
  subst e
  rw [List.getElem?_set] at h2
  simp at h2
 ·exact h1 q
theorem Ahu {is:List Nat}{ρ:Ve}{j:Nat}{d:D}(h:(clr is ρ)[j]? = some (some d)):j∉is∧ρ[j]? = some (some d):=⟨Alk is ρ j d h,(AeE is ρ j (Alk is ρ j d h)).symm.trans h⟩
theorem AeU:∀(is:List Nat) (ds:List D) (ρ τ:Ve),ρ.length=τ.length→(∀j,j∉is→ρ[j]? = τ[j]?)→Y7 is ds ρ=Y7 is ds τ:=@List.rec Nat _ (fun ds ρ τ hl h=>by rw [List.ext_getElem? fun j=>h j fun q=>nomatch q]) fun i is ih ds ρ τ hl h=>by
 cases ds with
 |nil=>rfl
 |cons d ds =>
  refine ih ds (ρ.set i (some d)) (τ.set i (some d)) (by simp [hl]) fun j hj=>?_
  by_cases q:i=j
  ·subst q
   rw [List.getElem?_set,List.getElem?_set]
   simp [hl]
  ·rw [List.getElem?_set_ne q,List.getElem?_set_ne q]
   exact h j fun z=>(List.mem_cons.mp z).elim (fun z=>q z.symm) hj
theorem AmP {t:Tg}{d:D}{ρ:Ve}(hq:notQ t):t.set d (clr (tgI t) ρ)=t.set d ρ:=by
 cases t with
 |n i=>exact congrArg some (List.set_set ..)
 |p is =>
  have e:∀ds,Y7 is ds (clr is ρ)=Y7 is ds ρ:=fun ds=>AeU is ds _ _ (AmL is ρ) (AeE is ρ)
  cases d with
  |tup ds=>exact e ds
  |_=>rfl
 |q i is=>exact hq.elim
theorem AgE:∀(is:List Nat) (ds:List D) (ρ ρ':Ve),Y7 is ds ρ=some ρ'→∀j,j∉is→ρ'[j]? = ρ[j]? := @List.rec Nat _ (fun ds ρ ρ' e j h=>by
  cases ds with
  |nil=>cases Option.some.inj (show some ρ=some ρ' from e);rfl
  |cons _ _=>exact nope (show none=some ρ' from e)) fun i is ih ds ρ ρ' e j h=>by
 cases ds with
 |nil=>exact nope (show none=some ρ' from e)
 |cons d ds=>exact (ih ds _ _ e j fun q=>h (List.mem_cons_of_mem _ q)).trans (List.getElem?_set_ne fun (q:i=j)=>h (q▸List.mem_cons_self))
theorem Amb {t:Tg}{d:D}{ρ ρ':Ve}(e:t.set d ρ=some ρ')(hq:notQ t)(j:Nat)(hj:j∉tgI t):ρ'[j]? = ρ[j]? := by
 cases t with
 |n i =>
  cases Option.some.inj (show some (ρ.set i (some d))=some ρ' from e)
  exact List.getElem?_set_ne fun (q:i=j)=>hj (q▸List.mem_cons_self)
 |p is=>exact Aep e fun ds hd e=>AgE is ds _ _ e j hj
 |q i is=>exact hq.elim
section
variable {Γ:Wo}{n:Nat}{Φ:Fx n}{ι:Io}{h:Heap}{σ:Hp}{ρ ρ':Ve}{scope:PySem.Scope}
theorem SR.unset {t:Tg}{d:D}(S:SR Γ Φ ι σ ρ' h)(e:t.set d ρ=some ρ')(hq:notQ t):SR Γ Φ ι σ (clr (tgI t) ρ) h :=
 ⟨S.hr,S.ff,S.fr,fun x i d' hi hd=>S.lc x i d' hi ((Amb e hq i (Ahu hd).1).trans (Ahu hd).2),S.tp⟩
structure ClR (env:PEnv)(scope:PySem.Scope)(cl:List (Str×Addr)):Prop where
 a:∀x c,cl.lookup x=some c→env.cells.lookup x=some c
 b:∀x,(x,NameKind.free)∈scope.names→∃c,cl.lookup x=some c
noncomputable abbrev cloF (env:PEnv)(p:Str×NameKind)(r:List (Str×Addr)):Sem (ForInStep (List (Str×Addr))):=if p.2==.free then do
     let a ←cellOf env p.1
     pure (ForInStep.yield ((p.1,a)::r))
    else pure (ForInStep.yield r)
theorem Am5 {env:PEnv}{x y:Str}{c c':Addr}{acc:List (Str×Addr)}(hc:env.cells.lookup x=some c)(ha:∀y c,acc.lookup y=some c→env.cells.lookup y=some c)(q:((x,c)::acc).lookup y=some c'):env.cells.lookup y=some c':=by
 rw [List.lookup_cons] at q
 cases hb:y==x with
 |true=>rw [hb] at q;cases Option.some.inj q;rw [eq_of_beq hb];exact hc
 |false=>rw [hb] at q;exact ha y c' q
theorem Aes {env:PEnv}(R:FrR Γ env ι h):∀(names:List (Str×NameKind)) (acc:List (Str×Addr)),(∀x∈names,x.2=.free→(env.kindOf x.1=some .cell∨env.kindOf x.1=some .free))→(∀x c,acc.lookup x=some c→env.cells.lookup x=some c) →
  ∃cl,forIn names acc (cloF env)=pure cl∧(∀x c,cl.lookup x=some c→env.cells.lookup x=some c)∧∀x,((x,NameKind.free)∈names∨∃c,acc.lookup x=some c)→∃c,cl.lookup x=some c:=by
 intro names
 induction names with
 |nil=>exact fun acc _ ha=>⟨acc,rfl,ha,fun x q=>q.elim (fun z=>nomatch z) id⟩
 |cons p names ih =>
  intro acc hn ha
  rw [List.forIn_cons]
  by_cases hk:p.2=.free
  ·obtain ⟨c,hc⟩:=R.cov p.1 (hn p List.mem_cons_self hk)
   obtain ⟨cl,e2,q1,q2⟩:=ih ((p.1,c)::acc) (fun y hy=>hn y (List.mem_cons_of_mem _ hy)) fun y c' q=>Am5 hc ha q
   refine ⟨cl,?_,q1,fun y hy=>q2 y ?_⟩
   ·have e1:cellOf env p.1=pure c:=by unfold cellOf;rw [hc]
    simp only [cloF,hk,beq_self_eq_true,if_true,e1,pure_bind]
    exact e2
   ·rcases hy with hy|⟨c',hc'⟩
    ·exact (List.mem_cons.mp hy).elim (fun z=>.inr ⟨c,by rw [List.lookup_cons,←z,beq_self_eq_true]⟩) .inl
    ·right
     rw [List.lookup_cons]
     cases y==p.1 with
     |true=>exact ⟨c,rfl⟩
     |false=>exact ⟨c',hc'⟩
  ·obtain ⟨cl,e2,q1,q2⟩:=ih acc (fun y hy=>hn y (List.mem_cons_of_mem _ hy)) ha
   refine ⟨cl,?_,q1,fun y hy=>q2 y (hy.imp (fun z=>(List.mem_cons.mp z).elim (fun z=>absurd (congrArg (·.2) z).symm hk) id) id)⟩
   simp only [cloF,show (p.2==NameKind.free)=false by simpa using hk,Bool.false_eq_true,if_false,pure_bind]
   exact e2
theorem AbR {env:PEnv}{G:Prop}(R:FrR Γ env ι h)(hf:∀x∈scope.names,x.2=.free→(env.kindOf x.1=some .cell∨env.kindOf x.1=some .free))(k:∀cl,closureFor scope env=pure cl→ClR env scope cl→G):G :=
 (Aes R scope.names [] hf fun x c q=>nope q).elim fun cl e=>k cl (by
  show (forIn scope.names [] (cloF env) >>= fun cs=>pure cs)=pure cl
  rw [e.1]
  rfl) ⟨e.2.1,fun x hx=>e.2.2 x (.inl hx)⟩
structure OkC (scope sc:PySem.Scope):Prop where
 kind:scope.kind=.function
 nc:∀p∈scope.names,p.2≠.cell
 one:∀p∈scope.names,scope.names.lookup p.1=some p.2
 fr:∀p∈scope.names,p.2=.free→sc.names.lookup p.1=some .cell∨sc.names.lookup p.1=some .free
theorem AgG {sc:PySem.Scope}(h:okC scope sc=true):OkC scope sc :=
 have g:=fun p (hp:p∈scope.names)=>List.all_eq_true.mp (aR h) p hp
 ⟨bE (aL h),fun p hp=>bne_iff_ne.mp (aL (g p hp)),fun p hp=>bE (aL (aR (g p hp))),fun p hp q=>(oR (aR (aR (g p hp)))).elim (fun z=>absurd q (bne_iff_ne.mp z)) fun z=>(oR z).imp bE bE⟩
noncomputable abbrev rlF (env:PEnv):Str×NameKind→Str×NameKind:=fun (n,k)=>if (k==NameKind.free&&env.scope.kind==.function&&env.kindOf n==some .cell) then (n,NameKind.cell) else (n,k)
theorem Ak9 {env:PEnv}{x:Str}{p:Str×NameKind}{r:List (Str×NameKind)}:((p::r).map (rlF env)).lookup x=if x=p.1 then some (if (p.2==NameKind.free&&env.scope.kind==.function&&env.kindOf p.1==some .cell)=true then .cell else p.2) else (r.map (rlF env)).lookup x:=by
 rw [List.map_cons,show rlF env p=(p.1,if (p.2==NameKind.free&&env.scope.kind==.function&&env.kindOf p.1==some .cell)=true then NameKind.cell else p.2) by show (if _ then _ else _)=_;split<;>rfl,List.lookup_cons]
 by_cases h:x=p.1
 ·rw [if_pos h,h,beq_self_eq_true]
 ·rw [if_neg h,beq_eq_false_iff_ne.mpr h]
theorem Agi {env:PEnv}{x:Str}:∀names:List (Str×NameKind),names.lookup x=some .free→(names.map (rlF env)).lookup x=some .cell∨(names.map (rlF env)).lookup x=some .free:=@List.rec _ _ (fun h=>nope h) fun p r ih h=>by
 rw [List.lookup_cons] at h
 rw [Ak9]
 by_cases q:x=p.1
 ·rw [q,beq_self_eq_true] at h
  rw [if_pos q,Option.some.inj h]
  split
  ·exact .inl rfl
  ·exact .inr rfl
 ·rw [beq_eq_false_iff_ne.mpr q] at h
  rw [if_neg q]
  exact ih h
theorem Ac6 {env:PEnv}{x:Str}{k:NameKind}:∀names:List (Str×NameKind),(names.map (rlF env)).lookup x=some k→names.lookup x=some k∨(names.lookup x=some .free∧k=.cell):=@List.rec _ _ (fun h=>nope h) fun p r ih h=>by
 rw [Ak9] at h
 rw [List.lookup_cons]
 by_cases q:x=p.1
 ·rw [if_pos q] at h
  rw [q,beq_self_eq_true]
  split at h
  ·rename_i z
   rw [bE (aL (aL z))]
   exact .inr ⟨rfl,(Option.some.inj h).symm⟩
  ·exact .inl h
 ·rw [if_neg q] at h
  rw [beq_eq_false_iff_ne.mpr q]
  exact ih h
theorem Adr {p:List Nat×Nat}{r:NEt}{x:List Nat}:AaG (p::r) x=if p.1=x then some p.2 else AaG r x:=rfl
theorem Ad2 {b:NEt}{x:List Nat}{i:Nat}:∀a:NEt,AaG (a++b) x=some i→(x,i)∈a∨AaG b x=some i:=@List.rec _ _ (fun h=>.inr h) fun p a ih h=>by
 rw [List.cons_append,Adr] at h
 by_cases q:p.1=x
 ·rw [if_pos q] at h;exact .inl ((show p=(x,i) from Prod.ext q (Option.some.inj h))▸List.mem_cons_self)
 ·rw [if_neg q] at h;exact (ih h).imp (List.mem_cons_of_mem _) id
theorem Ad3 {x:List Nat}{i:Nat}{f:List Nat→Bool}:∀b:NEt,AaG (b.filter fun p=>f p.1) x=some i→AaG b x=some i∧f x=true:=@List.rec _ _ (fun h=>nope h) fun p b ih h=>by
 rw [List.filter_cons] at h
 rw [Adr]
 by_cases hf:f p.1=true
 ·rw [if_pos hf,Adr] at h
  by_cases q:p.1=x
  ·rw [if_pos q] at h ⊢;exact ⟨h,q▸hf⟩
  ·rw [if_neg q] at h ⊢;exact ih h
 ·rw [if_neg hf] at h
  rw [if_neg fun (z:p.1=x)=>hf (z▸(ih h).2)]
  exact ih h
theorem Ahk {e:PySem.Expr}{x:List Nat}{i j:Nat}(h:(x,i)∈nmL e fun y=>[(y.cps.toList,j)]):i=j:=by
 cases e<;>first|exact absurd (show (x,i)∈([]:NEt) from h) List.not_mem_nil|exact (congrArg (·.2) (List.mem_singleton.mp h))
theorem Ajn {x:List Nat}{i:Nat}:∀(is:List Nat) (l:List PySem.Expr),(x,i)∈tgNs is l→i∈is:=@List.rec Nat _ (fun l h=>nomatch h) fun j is ih l h=>by
 cases l with
 |nil=>exact nomatch h
 |cons e u=>exact (List.mem_append.mp (show (x,i)∈nmL e (fun y=>[(y.cps.toList,j)])++tgNs is u from h)).elim (fun (z:(x,i)∈nmL e fun y=>[(y.cps.toList,j)])=>(show i=j from Ahk z)▸List.mem_cons_self) fun z=>List.mem_cons_of_mem _ (ih u z)
theorem Amq {t:Tg}{target:PySem.Expr}{x:List Nat}{i:Nat}(h:(x,i)∈tgN t target):i∈tgI t:=by
 cases t with
 |n j=>exact (show i=j from Ahk h)▸List.mem_cons_self
 |p is=>exact Ajn is _ h
 |q j is=>exact absurd (show (x,i)∈([]:NEt) from h) List.not_mem_nil
noncomputable abbrev Fx.comp {n:Nat}(Φ:Fx n)(scope:PySem.Scope)(cl:List (Str×Addr))(C:Addr)(t:Tg)(target:PySem.Expr):Fx n:=⟨Φ.fl,Φ.A,compEnvC scope cl C Φ.env,neC scope t target Φ.NE,Φ.hf,Φ.Rm⟩
theorem SR.comp {t:Tg}{target:PySem.Expr}{cl:List (Str×Addr)}{C:Addr}{m:Str→Option Value}(S:SR Γ Φ ι σ ρ h)(ok:OkC scope Φ.env.scope)(hC:h.Ns C m)(hC1:C∉adr ι)(hC2:Γ.base.get? C=none)(q:ClR Φ.env scope cl):SR Γ (Φ.comp scope cl C t target) ι σ (clr (tgI t) ρ) h:=by
 have kind:∀x,(compEnvC scope cl C Φ.env).kindOf x=(scope.names.map (rlF Φ.env)).lookup x:=fun x=>rfl
 have isfree:∀x,((scope.names.map (rlF Φ.env)).lookup x=some .cell∨(scope.names.map (rlF Φ.env)).lookup x=some .free)→scope.names.lookup x=some .free:=fun x hx=>hx.elim
  (fun hx=>(Ac6 _ hx).elim (fun z=>absurd rfl (ok.nc _ (mem_of_lookup z))) fun z=>z.1) fun hx=>(Ac6 _ hx).elim id fun z=>z.1
 refine ⟨S.hr,S.ff,⟨ok.kind,S.fr.glob,S.fr.blt,⟨m,hC⟩,fun x c e=>S.fr.cell x c (q.a x c e),fun x y c e e'=>S.fr.cinj x y c (q.a x c e) (q.a y c e'),fun x hx=>q.b x (mem_of_lookup (isfree x hx)),⟨hC1,hC2⟩,fun x c e=>S.fr.offC x c (q.a x c e),fun hx=>S.fr.cd (ok.fr _ (mem_of_lookup (isfree defN hx)) rfl)⟩,?_,S.tp⟩
 intro x i d hi hd
 obtain ⟨n1,n2⟩:=Ahu hd
 rcases Ad2 _ hi with z|z
 ·exact absurd (Amq z) n1
 ·obtain ⟨z1,z2⟩:=Ad3 (f:=fun k=>scope.names.contains (toS k,NameKind.free)) _ z
  have hm:(x,NameKind.free)∈scope.names:=List.contains_iff_mem.mp z2
  exact VarIs.casesOn (S.lc x i d z1 n2) (fun k' n' e' v'=>((ok.fr _ hm rfl).elim (fun y=>nomatch (show some NameKind.local=some .cell from k'.symm.trans y)) fun y=>nomatch (show some NameKind.local=some .free from k'.symm.trans y)))
   fun k' c' n' v'=>(q.b x hm).elim fun c2 hc2=>.cell (Agi _ (ok.one _ hm)) hc2 (Option.some.inj ((q.a x c2 hc2).symm.trans c')▸n') v'
end
end Mine
end
section
namespace Mine
section
variable {Γ:Wo}{A:Around}{R:Result→Shared→Prop}{s:Shared}
noncomputable abbrev AnM (ifs:List PySem.Expr)(env:PEnv):Sem Bool :=
 forIn ifs true fun c r=>if r=true then do let ok ←PySem.isTrue c env (eval c env);pure (ForInStep.yield ok) else pure (ForInStep.yield r)
noncomputable abbrev lcE (elt target iter:PySem.Expr)(ifs:List PySem.Expr)(scope:PySem.Scope)(pos:Pos):PySem.Expr:=.ListComp elt [⟨target,iter,ifs,0⟩] scope pos
theorem Aby {elt target iter:PySem.Expr}{ifs:List PySem.Expr}{scope:PySem.Scope}{pos:Pos}{it acc:Value}{env:PEnv}{E:Value→Shared→Prop}(hE:E=notedBy Γ.M A env fun e s'=>R (.error e) s')
  (h:wpAny Γ.M A (pyNext it) (fun r s₁=>match r with
   |none=>R (.ok .next) s₁
   |some v=>wpAny Γ.M A (letOwnedTupleGo target it v) (fun u s₂=>wpAny Γ.M A (assign target env v) (fun u s₃=>wpAny Γ.M A (AnM ifs env) (fun ok s₄ =>
     if ok=true then wpAny Γ.M A (eval elt env) (fun x s₅=>wpAny Γ.M A (call (.builtin "list.append") [acc,x]) (fun u s₆=>codeAny Γ.M A (.compLoop (lcE elt target iter ifs scope pos) 0 it acc env) R s₆) E s₅) E s₄
     else codeAny Γ.M A (.compLoop (lcE elt target iter ifs scope pos) 0 it acc env) R s₄) E s₃) E s₂) E s₁) E s) :
  codeAny Γ.M A (.compLoop (lcE elt target iter ifs scope pos) 0 it acc env) R s:=by
 subst hE
 refine codeAny_of_tree ?_
 show wpAny _ A ((compTurn (.ListComp elt [⟨target,iter,ifs,0⟩] scope pos) 0 it acc env).onRaise (fun x=>do noteFrame x env;theTreesLotGoes x)) _ _ s
 refine wpAny_noted ?_
 rw [compTurn_list]
 refine wpAny_bind (wpAny_standAt (wpAny_bind (wpAny_mono h (fun r s₁ h₁=>?_) fun _ _ h'=>h')))
 cases r with
 |none=>exact wpAny_pure h₁
 |some v =>
  refine wpAny_bind (wpAny_mono h₁ (fun u s₂ h₂=>?_) fun _ _ h'=>h')
  refine wpAny_bind (wpAny_mono h₂ (fun u s₃ h₃=>wpAny_bind (wpAny_mono h₃ (fun ok s₄ h₄=>?_) fun _ _ h'=>h')) fun _ _ h'=>h')
  cases ok with
  |false=>exact wpAny_pure ⟨rfl,h₄⟩
  |true=>exact wpAny_bind (wpAny_bind (wpAny_mono h₄ (fun x s₅ h₅=>wpAny_bind (wpAny_mono h₅ (fun u s₆ h₆=>wpAny_pure (wpAny_pure ⟨rfl,h₆⟩)) fun _ _ h'=>h')) fun _ _ h'=>h'))
end
section
variable (Γ:Wo){n:Nat}(Φ:Fx n)(ι0:Io)(s0:Shared)(a:Nat)(L:List Nat)
structure Co:Prop where
 st:Γ.base.StaysIn s0.heap
 al:∀b∈ι0.hid,J6 s0.heap b
 dd:∀b∈L,s0.heap.get? b=none
 nF:∀b∈L,b∉Φ.F
 C:Φ.env.locals∈L
 a:a∈L
 cl:∀y c,Φ.env.cells.lookup y=some c→J6 s0.heap c
structure Zc (ρ:Ve)(xs:List D)(ι:Io)(σ:Hp)(s:Shared):Prop where
 S:SR Γ Φ ι σ ρ s.heap
 X:Ext Φ.F [] ι0 ⟨ι.nums,ι0.hid⟩ s0.heap s.heap
 hid:∀b∈ι0.hid,b∈ι.hid
 ah:a∈ι.hid
 own:∀b∈L,b∉nad ι.nums∧J6 s.heap b
 hs:∃t,s=upd s0 s.heap t
 acc:∃vs m,s.heap.get? a=some (X9 vs m)∧VRs ι s.heap vs xs
end
section
variable {Γ:Wo}{n:Nat}{Φ:Fx n}{ι0 ι ι':Io}{s0 s:Shared}{a:Nat}{L own:List Nat}{ρ ρ':Ve}{xs:List D}{σ σ':Hp}{h':Heap}{t:Nat}{Qd:D→Hp→Prop}{Xd:Nat→Hp→Prop}{Q:Value→Shared→Prop}{E:Value→Shared→Prop}
theorem AfU (h:∃t,s=upd s0 s.heap t):∃t',upd s h' t=upd s0 h' t':=⟨t,h.elim fun u e=>by rw [e]⟩
theorem Zc.ne (z:Zc Γ Φ ι0 s0 a L ρ xs ι σ s):a≠Φ.env.locals:=fun q=>z.acc.elim fun vs y=>y.elim fun m y=>z.S.fr.ns.elim fun mm k=>Aa8 k _ _ _ (q▸y.1) rfl
theorem Zc.step (z:Zc Γ Φ ι0 s0 a L ρ xs ι σ s)(F:Co Γ Φ ι0 s0 a L)(X:Ext Φ.F own ι ι' s.heap h')(ho:∀b∈own,b∈L)(na:a∉own)(hk:AcF ι s.heap own)(S':SR Γ Φ ι' σ' ρ' h'):Zc Γ Φ ι0 s0 a L ρ' xs ι' σ' (upd s h' t) :=
 ⟨S',z.X.drop (X.rehid ι0.hid) fun b hb=>.inr (F.dd b (ho b hb)),fun b hb=>X.same▸z.hid b hb,X.same▸z.ah,fun b hb=>⟨fun q=>(X.new b q).elim (z.own b hb).1 fun y=>(z.own b hb).2.elim fun o e=>two e y,(z.own b hb).2.elim fun o e=>X.live b o e⟩,AfU z.hs,
 z.acc.elim fun vs y=>y.elim fun m y=>⟨vs,m,X.keep a _ y.1 (z.own a F.a).1 (F.nF a F.a) na,VRs.mono (X.mo z.S.ff.soft hk) y.2⟩⟩
theorem Zc.ev (z:Zc Γ Φ ι0 s0 a L ρ xs ι σ s)(F:Co Γ Φ ι0 s0 a L)(X:Ext Φ.F [] ι ι' s.heap h')(H:HR Γ ι' σ' h'):Zc Γ Φ ι0 s0 a L ρ xs ι' σ' (upd s h' t) :=
 z.step F X (fun b q=>nomatch q) (fun q=>nomatch q) (fun b q=>nomatch q) (z.S.ext X H)
theorem Co.base (F:Co Γ Φ ι0 s0 a L):Abw Γ.base s0.heap:=fun b o e=>⟨o,F.st b o e⟩
theorem Co.notOwn (F:Co Γ Φ ι0 s0 a L){b:Nat}(hb:b∈L)(n:b≠Φ.env.locals):Aej Φ.env b:=⟨n,fun y c hc q=>(F.cl y c hc).elim fun o e=>two (q▸e) (F.dd b hb)⟩
theorem Zc.leave {W:List Nat}(z:Zc Γ Φ ι0 s0 a L ρ xs ι σ s)(F:Co Γ Φ ι0 s0 a L)(hW:∀b∈W,b∈L)(k:But W s.heap h')(ow:AcF ι s.heap W):Ext Φ.F [] ι0 ⟨ι.nums,ι0.hid⟩ s0.heap h'∧HR Γ ⟨ι.nums,ι0.hid⟩ σ h' :=
 have old:∀b o,s0.heap.get? b=some o→b∉W:=fun b o e q=>two e (F.dd b (hW b q))
 ⟨⟨z.X.pre,z.X.same,fun b o e=>(z.X.live b o e).elim fun o' e'=>⟨o',k b o' (old b o e) e'⟩,z.X.new,fun b o e n1 n2 n3=>k b o (old b o e) (z.X.keep b o e n1 n2 n3),fun b o e n1 n2=>(z.X.slot b o e n1 n2).elim fun sl e'=>⟨sl,k b _ (old b o e) e'⟩⟩,
 z.S.hr.butLess k ow (fun b hb=>⟨(z.own b (hW b hb)).1,dead F.base (F.dd b (hW b hb))⟩) fun b hb=>⟨z.hid b hb,fun q=>(F.al b hb).elim fun o e=>absurd q (old b o e)⟩⟩
noncomputable abbrev nx (Γ:Wo){n:Nat}(Φ:Fx n)(E Q:Value→Shared→Prop)(a:Nat):Value→Shared→Prop:=notedBy Γ.M Φ.A Φ.env fun e s'=>compPost Γ.M Φ.A E none Q (.ref a) Φ.env.locals (.error e) s'
theorem Ag5 {b:Nat}(hb:b∈L):∀c∈[b],c∈L:=fun c hc=>List.mem_singleton.mp hc▸hb
theorem AgD {x c:Nat}{tr:Bool}(F:Co Γ Φ ι0 s0 a L)(z:Zc Γ Φ ι0 s0 a L ρ xs ι σ s)(X:ExcR Γ.base s0.heap s.heap x (clsA c) tr)(K:Kn Γ Φ.F VR ι0 s0 Qd Xd Q E)(w:Xd c σ):nx Γ Φ E Q a (.ref x) s:=by
 obtain ⟨e0,r0,Lf,hd1,hd2,hL⟩:=z.S.tp
 refine Aai Φ.hf ⟨e0,r0,hd1,hd2⟩ z.S.ff.ff hL X z.S.hr.stay z.X.live fun h₁ t₁ X₁=>?_
 have S₁:SR Γ Φ ι σ ρ h₁:=z.S.touch t₁ F.base
 have z₁:Zc Γ Φ ι0 s0 a L ρ xs ι σ (upd s h₁ s.toks):=⟨S₁,t₁.ext z.X,z.hid,z.ah,fun b hb=>⟨(z.own b hb).1,(z.own b hb).2.elim fun o e=>t₁.live b o e⟩,AfU z.hs,
  z.acc.elim fun vs y=>y.elim fun m y=>⟨vs,m,t₁.nf a _ y.1 (F.nF a F.a) (Ae0 rfl),VRs.mono (t₁.mo z.S.ff) y.2⟩⟩
 obtain ⟨m,nC⟩:=S₁.fr.ns
 refine ⟨m,nC,fun h₂ hs₂ cenv' hc'=>?_⟩
 have fC:∀o,h₁.get? Φ.env.locals=some o→∀vs,o.data≠.fields vs:=fun o e vs d=>nC.elim fun o' y=>y.elim fun es y=>y.elim fun ep y=>by
  cases e.symm.trans y.1
  rw [y.2.1] at d
  cases d
 have G:=z₁.leave F (Ag5 F.C) (Aay hs₂) fun b hb=>.inr (List.mem_singleton.mp hb▸Aa8 nC)
 have X₂:=X₁.but hs₂ fC
 have FF:FramesR Γ Φ.fl ⟨ι.nums,ι0.hid⟩ h₂:=S₁.ff.mk' (fun b hb m q=>⟨m,Abj q fun o e=>(hs₂.2 b fun y=>F.nF _ F.C (y▸hb)).trans e⟩) fun b hb q=>S₁.ff.off b hb (W1 q (fun q=>J4 (ι:=ι) q) fun q=>J8 (z.hid b q))
 obtain ⟨t0,hs⟩:=z.hs
 rw [hs]
 unfold PySem.passOn
 refine wpAny_bind (Ab0 (s:=upd s0 h₂ t0) X₂ fun T=>?_)
 rw [if_neg (by simp)]
 refine wpAny_bind (V5 (s:=upd s0 h₂ t0) FF.ff X₂ fun h₃ t₃ X₃=>?_)
 exact wpAny_throw (K.ex x ⟨ι.nums,ι0.hid⟩ h₃ t0 c σ (t₃.ext G.1) (G.2.touch t₃ FF F.base) X₃.loose w)
theorem Zc.kn {α β:Type}{rel:Io→Heap→β→α→Prop}{Qe:α→Hp→Prop}{Q':β→Shared→Prop}(z:Zc Γ Φ ι0 s0 a L ρ xs ι σ s)(F:Co Γ Φ ι0 s0 a L)(K:Kn Γ Φ.F VR ι0 s0 Qd Xd Q E)
  (k:∀v ι1 s1 d σ1,Zc Γ Φ ι0 s0 a L ρ xs ι1 σ1 s1→Ext Φ.F [] ι ι1 s.heap s1.heap→rel ι1 s1.heap v d→Qe d σ1→Q' v s1):Kn Γ Φ.F rel ι s Qe Xd Q' (nx Γ Φ E Q a) :=
 ⟨fun v ι' h' tk' d σ' e H r q=>k v ι' _ d σ' (z.ev F e H) e r q,fun x ι' h' tk' c σ' e H r q=>AgD F (z.ev (t:=tk') F e H) (r.lower z.X.live) K q⟩
noncomputable abbrev CT:=Ve→Hp→(Hp→Prop)→(Hp→Prop)→(Nat→Hp→Prop)→Prop
noncomputable def TsOK (Γ:Wo){n:Nat}(Φ:Fx n)(ifs:List PySem.Expr)(c:CT):Prop:=∀(ι:Io) (s:Shared) (σ:Hp) (ρ:Ve) (P R:Hp→Prop) (Xd:Nat→Hp→Prop) (Q:Bool→Shared→Prop) (E:Value→Shared→Prop),SR Γ Φ ι σ ρ s.heap→c ρ σ P R Xd→Kn Γ Φ.F VB ι s (Br P R) Xd Q E→wpAny Γ.M Φ.A (AnM ifs Φ.env) Q E s
noncomputable abbrev noT:CT:=fun ρ h P R X=>P h
noncomputable abbrev exT (n:Nat)(c:Ex):CT:=fun ρ h P R X=>wE (J0 n) c ρ h (fun d h=>br d (P h) (R h)) X
theorem Alf:TsOK Γ Φ [] noT:=fun ι s σ ρ P R Xd Q E S w K=>wpAny_tests_nil (K.now (d:=true) S.hr rfl w)
theorem ApW {c:Ex}{e:PySem.Expr}(h:TrOK Γ n c)(hc:chkE Γ.K c Φ.env.scope Φ.NE e=true):TsOK Γ Φ [e] (exT n c):=fun ι s σ ρ P R Xd Q E S w K=>wpAny_tests_one (h Φ e ι s σ ρ P R Xd Q E hc S w K)
structure Lc (Γ:Wo){n:Nat}(Φ:Fx n)(t:Tg)(target elt:PySem.Expr)(ifs:List PySem.Expr)(x:Ex)(c:CT):Prop where
 el:EvOK Γ n x
 ce:chkE Γ.K x Φ.env.scope Φ.NE elt=true
 ct:chkT Φ.env.scope Φ.NE t target=true
 cl:tgL Φ.env.scope t target=true
 ts:TsOK Γ Φ ifs c
theorem Amo {sc:PySem.Scope}{t:Tg}{target:PySem.Expr}(h:tgL sc t target=true):notQ t:=by
 cases t with
 |n i=>trivial
 |p is=>trivial
 |q i is=>exact ffE h
theorem fit1 {k:Nat}(h:k≤100000):k < sizeLine+1:=Nat.lt_succ_of_le (fit h)
theorem Aer {t:Tg}{target elt:PySem.Expr}{ifs:List PySem.Expr}{x:Ex}{c:CT}{v:Value}{d:D}{Nx:List D→Hp→Prop}{P:Shared→Prop}(F:Co Γ Φ ι0 s0 a L)(G:Lc Γ Φ t target elt ifs x c)(K:Kn Γ Φ.F VR ι0 s0 Qd Xd Q E)
  (z:Zc Γ Φ ι0 s0 a L (clr (tgI t) ρ) xs ι σ s) (rv:VR ι s.heap v d) (e:t.set d ρ=some ρ') (hlen:xs.length≤100000) (w:c ρ' σ (fun h1=>wE (J0 n) x ρ' h1 (fun y h2=>Nx (xs++[y]) h2) Xd) (fun h1=>Nx xs h1) Xd)
  (k:∀ι₁ σ₁ s₁ xs₁,Zc Γ Φ ι0 s0 a L (clr (tgI t) ρ) xs₁ ι₁ σ₁ s₁→xs₁.length≤xs.length+1→(∀b∈L,b≠a→b≠Φ.env.locals→∀o,s.heap.get? b=some o→s₁.heap.get? b=some o)→Mo ι ι₁ s.heap s₁.heap→ι₁.hid=ι.hid→Nx xs₁ σ₁→P s₁) :
  wpAny Γ.M Φ.A (assign target Φ.env v) (fun u s₃=>wpAny Γ.M Φ.A (AnM ifs Φ.env) (fun ok s₄=>if ok=true then wpAny Γ.M Φ.A (eval elt Φ.env) (fun y s₅=>wpAny Γ.M Φ.A (call (.builtin "list.append") [.ref a,y]) (fun u s₆=>P s₆) (nx Γ Φ E Q a) s₅) (nx Γ Φ E Q a) s₄ else P s₄) (nx Γ Φ E Q a) s₃) (nx Γ Φ E Q a) s:=by
 have hq:=Amo G.cl
 refine Abq (loc:=true) Φ.Rm.hh G.ct (fun u=>G.cl) z.S rv ((AmP hq).trans e) fun h₃ tk₃ own ho E₃ S₃=>?_
 have ho':∀b∈own,b=Φ.env.locals:=fun b hb=>(ho b hb).2 rfl
 have ok₃:=Aea z.S.fr ho
 have z₃:Zc Γ Φ ι0 s0 a L ρ' xs ι σ (upd s h₃ tk₃):=z.step F E₃ (fun b hb=>ho' b hb▸F.C) (fun q=>z.ne (ho' a q)) ok₃ S₃
 have kp:∀{ι1 ι2:Io} {ρ1:Ve} {σ1:Hp} {s1:Shared} {h2:Heap} {ow:List Nat} {xs1:List D},Zc Γ Φ ι0 s0 a L ρ1 xs1 ι1 σ1 s1→Ext Φ.F ow ι1 ι2 s1.heap h2→(∀b∈ow,b=Φ.env.locals)→∀b∈L,b≠Φ.env.locals→∀o,s1.heap.get? b=some o→h2.get? b=some o :=
  fun z1 e1 ow b hb nC o q=>e1.keep b o q (z1.own b hb).1 (F.nF b hb) fun y=>nC (ow b y)
 have nil:∀b∈([]:List Nat),b=Φ.env.locals:=fun b q=>nomatch q
 refine G.ts ι (upd s h₃ tk₃) σ ρ' _ _ Xd _ _ S₃ w (z₃.kn F K fun b ι₄ s₄ d₄ σ₄ z₄ e₄ hb w=>?_)
 subst hb
 have M₄:Mo ι ι₄ s.heap s₄.heap:=(E₃.mo z.S.ff.soft ok₃).trans (S₃.mo e₄)
 have k₄:∀b∈L,b≠Φ.env.locals→∀o,s.heap.get? b=some o→s₄.heap.get? b=some o:=fun b hb n o q=>kp z₃ e₄ nil b hb n o (kp z E₃ ho' b hb n o q)
 cases b with
 |false=>exact k ι₄ σ₄ s₄ xs ⟨z₄.S.unset e hq,z₄.X,z₄.hid,z₄.ah,z₄.own,z₄.hs,z₄.acc⟩ (Nat.le_succ _) (fun b hb _=>k₄ b hb) M₄ e₄.same w
 |true =>
  rw [if_pos rfl]
  refine G.el Φ elt ι₄ s₄ σ₄ ρ' _ Xd _ _ G.ce z₄.S w (z₄.kn F K fun y ι₅ s₅ dy σ₅ z₅ e₅ ry w=>?_)
  obtain ⟨vs,m,acc,rx⟩:=z₅.acc
  have S₅:=z₅.S
  refine call_meets PySem.F.slot_list_append ⟨_,acc,rfl⟩ PySem.F.entry_list_append (PySem.F.args_list_append_2 _ _) (PySem.list_append a vs.toArray m y (by rw [List.size_toArray,rx.length];first|exact fit1 hlen|exact fit hlen|exact Nat.le_of_lt (fit1 hlen))) ⟨acc,?_⟩
  have up:=PySem.IsL.update (show PySem.IsL s₅.heap a vs.toArray m from acc) (fun l=>l.push y)
  rw [List.push_toArray] at up
  have sb:Heap.SameBut a s₅.heap (s₅.heap.update a (Obj.mapSeq fun l=>l.push y)):=Heap.SameBut.update ..
  have ow:AcF ι₅ s₅.heap [a]:=fun b hb=>.inl (List.mem_singleton.mp hb▸J8 z₅.ah)
  have ha:∀b∈[a],b∈L:=Ag5 F.a
  have H₆:HR Γ ι₅ σ₅ (s₅.heap.update a (Obj.mapSeq fun l=>l.push y)):=S₅.hr.but (Aay sb) ow (fun b hb=>⟨(z₅.own b (ha b hb)).1,dead F.base (F.dd b (ha b hb))⟩) fun b hb _=>(List.mem_singleton.mp hb).symm▸⟨_,up⟩
  have al:J6 (s₅.heap.update a (Obj.mapSeq fun l=>l.push y)) a:=⟨_,up⟩
  have E₆:Ext Φ.F [a] ι₅ ι₅ s₅.heap (s₅.heap.update a (Obj.mapSeq fun l=>l.push y)):=Ext.but (Aay sb) fun b hb=>List.mem_singleton.mp hb▸al
  have S₆:=S₅.extO E₆ H₆ (fun b hb=>⟨F.notOwn (ha b hb) fun q=>z₅.ne ((List.mem_singleton.mp hb).symm.trans q),F.nF b (ha b hb)⟩) ow
  have M₆:=E₆.mo S₅.ff.soft ow
  refine k ι₅ σ₅ _ (xs++[dy]) ⟨S₆.unset e hq,z₅.X.drop (E₆.rehid ι0.hid) fun b hb=>.inr (F.dd b (ha b hb)),z₅.hid,z₅.ah,fun b hb=>⟨(z₅.own b hb).1,(z₅.own b hb).2.elim fun o e=>E₆.live b o e⟩,z₅.hs.elim fun t e=>⟨t,by rw [e]⟩,vs++[y],_,up,VRs.mono M₆ (rx.append (LR.cons ry LR.nil))⟩
   (by rw [List.length_append];exact Nat.le_refl _) (fun b hb n1 n2 o q=>E₆.keep b o (kp z₄ e₅ nil b hb n2 o (k₄ b hb n2 o q)) (z₅.own b hb).1 (F.nF b hb) fun y=>n1 (List.mem_singleton.mp y)) ((M₄.trans (z₄.S.mo e₅)).trans M₆) (e₅.same.trans e₄.same) w
theorem Zc.draw {W:List Nat}(z:Zc Γ Φ ι0 s0 a L ρ xs ι σ s)(F:Co Γ Φ ι0 s0 a L)(hW:∀b∈W,b∈L∧b≠a∧b≠Φ.env.locals)(k:But W s.heap h')(al:∀b∈W,J6 h' b)(ow:AcF ι s.heap W):Zc Γ Φ ι0 s0 a L ρ xs ι σ (upd s h' t) :=
 have E':Ext Φ.F W ι ι s.heap h':=Ext.but k al
 z.step F E' (fun b hb=>(hW b hb).1) (fun q=>(hW a q).2.1 rfl) ow (z.S.extO E' (z.S.hr.but k ow (fun b hb=>⟨(z.own b (hW b hb).1).1,dead F.base (F.dd b (hW b hb).1)⟩) fun b hb _=>al b hb) (fun b hb=>⟨F.notOwn (hW b hb).1 (hW b hb).2.2,F.nF b (hW b hb).1⟩) ow)
theorem Afm {W:List Nat}(F:Co Γ Φ ι0 s0 a L)(z:Zc Γ Φ ι0 s0 a L ρ xs ι σ s)(hW:∀b∈W,b∈L∧b≠a∧b≠Φ.env.locals)(k:But W s.heap h')(ow:AcF ι s.heap W)(K:Kn Γ Φ.F VR ι0 s0 Qd Xd Q E)(w:Qd (.lst xs) σ):compPost Γ.M Φ.A E none Q (.ref a) Φ.env.locals (.ok .next) { s with heap:=h' }:=by
 obtain ⟨m,nC⟩:=z.S.fr.ns
 refine ⟨m,Abj nC fun o e=>k _ o (fun q=>(hW _ q).2.2 rfl) e,fun h₂ hs₂=>?_⟩
 obtain ⟨t0,hs0⟩:=z.hs
 rw [hs0]
 have hW2:∀b∈Φ.env.locals::W,b∈L:=fun b hb=>(List.mem_cons.mp hb).elim (fun q=>q▸F.C) fun q=>(hW b q).1
 have k2:But (Φ.env.locals::W) s.heap h₂:=fun b o q e=>(hs₂.2 b fun y=>q (y▸List.mem_cons_self)).trans (k b o (fun y=>q (List.mem_cons_of_mem _ y)) e)
 have ow2:AcF ι s.heap (Φ.env.locals::W):=fun b hb=>(List.mem_cons.mp hb).elim (fun q=>.inr (q▸Aa8 nC)) (ow b)
 have G:=z.leave F hW2 k2 ow2
 obtain ⟨vs,m2,acc,rx⟩:=z.acc
 exact K.ok (.ref a) ⟨ι.nums,ι0.hid⟩ h₂ t0 _ σ G.1 G.2 (vLst (Z8 (k2 a _ (fun q=>(List.mem_cons.mp q).elim (fun q=>z.ne q) fun q=>(hW a q).2.1 rfl) acc)) (fun q=>W1 q (z.own a F.a).1 fun q=>(F.al a q).elim fun o e=>two e (F.dd a F.a)) (VRs.mono ((Mo.but k2 ow2).trans (Mo.less ι0.hid z.hid)) rx)) w
theorem app1 {ρ':Ve}{x:Ex}{c:CT}{P:Hp→Prop}{Qd:D→Hp→Prop}{Rc:Hp→(List D→Hp→Prop)→Prop}(w:c ρ' σ (fun h1=>wE (J0 n) x ρ' h1 (fun y h2=>Rc h2 fun zs h3=>Qd (.lst (xs++y::zs)) h3) Xd) P Xd) :
  c ρ' σ (fun h1=>wE (J0 n) x ρ' h1 (fun y h2=>Rc h2 fun zs h=>Qd (.lst (xs++[y]++zs)) h) Xd) P Xd:=by
 have e:(fun y h2=>Rc h2 fun zs h3=>Qd (.lst (xs++y::zs)) h3)=fun y h2=>Rc h2 fun zs h=>Qd (.lst (xs++[y]++zs)) h:=by
  funext y h2
  exact congrArg (Rc h2) (funext fun zs=>by rw [List.append_cons])
 exact e▸w
theorem Aei {t:Tg}{target elt iter:PySem.Expr}{ifs:List PySem.Expr}{scope:PySem.Scope}{pos:Pos}{x:Ex}{c:CT}{I:Addr}{W foot:List Nat}{St:List D→Io→Heap→Prop}{Rc:List D→Hp→(List D→Hp→Prop)→Prop}(F:Co Γ Φ ι0 s0 a L)(G:Lc Γ Φ t target elt ifs x c)(K:Kn Γ Φ.F VR ι0 s0 Qd Xd Q E)(hW:Wk Γ Φ.A I W foot St)
  (hf:∀b∈foot,b∈L∧b≠a∧b≠Φ.env.locals) (R0:∀h Q,Rc [] h Q→Q [] h) (R1:∀d ds h Q,Rc (d::ds) h Q→J9 (t.set d ρ) fun ρ'=>c ρ' h (fun h1=>wE (J0 n) x ρ' h1 (fun y h2=>Rc ds h2 (fun zs h3=>Q (y::zs) h3)) Xd) (fun h1=>Rc ds h1 Q) Xd) :
  ∀(ds xs:List D) (ι:Io) (σ:Hp) (s:Shared),Zc Γ Φ ι0 s0 a L (clr (tgI t) ρ) xs ι σ s→xs.length+ds.length≤100001→St ds ι s.heap→Rc ds σ (fun zs h=>Qd (.lst (xs++zs)) h)→codeAny Γ.M Φ.A (.compLoop (lcE elt target iter ifs scope pos) 0 (.ref I) (.ref a) Φ.env) (compPost Γ.M Φ.A E none Q (.ref a) Φ.env.locals) s:=by
 have hW':∀b∈W,b∈L∧b≠a∧b≠Φ.env.locals:=fun b hb=>hf b (hW.sub b hb)
 refine @List.rec D _ (fun xs ι σ s z hlen st w=>?_) fun d ds ih xs ι σ s z hlen st w=>?_
 ·exact Aby (E:=nx Γ Φ E Q a) rfl (hW.done ι s _ _ st fun h' k=>Afm F z hW' k (hW.own [] ι s.heap st) K (List.append_nil xs▸R0 _ _ w))
 ·refine Aby (E:=nx Γ Φ E Q a) rfl (hW.item d ds ι s _ _ st (fun b hb=>z.S.hr.alive hb) fun v h' k al rv st'=>?_)
  have z1:Zc Γ Φ ι0 s0 a L (clr (tgI t) ρ) xs ι σ (upd s h' s.toks):=z.draw F hW' k al (hW.own _ ι s.heap st)
  refine hW.go ds ι { s with heap:=h' } target v _ _ st' fun h'' k' al' M' st''=>?_
  have z2:Zc Γ Φ ι0 s0 a L (clr (tgI t) ρ) xs ι σ (upd s h'' s.toks):=z1.draw F hW' k' (fun b hb=>al' b hb (al b hb)) (hW.own _ ι h' st')
  exact Y6 (R1 d ds σ _ w) fun ρ' e w=>Aer (Nx:=fun us h=>Rc ds h (fun zs h=>Qd (.lst (us++zs)) h)) F G K z2 (rv.mono M') e (by simp at hlen;omega) (app1 (Rc:=Rc ds) w) fun ι₁ σ₁ s₁ xs₁ z₁ hl₁ kf Mf hh w =>
   ih xs₁ ι₁ σ₁ s₁ z₁ (by simp at hlen;omega) (hW.move ds ι ι₁ h'' s₁.heap st'' Mf (fun b hb=>hh▸hb) fun b hb o q=>kf b (hf b hb).1 (hf b hb).2.1 (hf b hb).2.2 o q) w
end
end Mine
end
section
namespace Mine
structure Src (ι0 ι:Io)(s0 s:Shared)(foot:List Nat):Prop where
 hn:ι.nums=ι0.nums
 hh:∀b∈ι0.hid,b∈ι.hid
 hN:∀b∈ι.hid,b∈ι0.hid∨s0.heap.get? b=none
 k:X0 s0.heap s.heap
 fo:∀b∈foot,s0.heap.get? b=none∧J6 s.heap b
 hs:∃t,s=upd s0 s.heap t
section
variable {Γ:Wo}{n:Nat}{Φ:Fx n}{ι0 ι ι':Io}{s0 s:Shared}{a:Nat}{foot L own:List Nat}{ρ ρ':Ve}{xs:List D}{σ σ':Hp}{h':Heap}{t:Nat}{Qd:D→Hp→Prop}{Xd:Nat→Hp→Prop}{Q:Value→Shared→Prop}{E:Value→Shared→Prop}
noncomputable abbrev Abi (Γ:Wo){n:Nat}(Φ:Fx n)(E Q:Value→Shared→Prop)(cl:List (Str×Addr))(elt target iter:PySem.Expr)(ifs:List PySem.Expr)(scope:PySem.Scope)(pos:Pos)(it:Value)(s₂:Shared):Prop :=
 wpAny Γ.M Φ.A (newList []) (fun acc s₃=>wpAny Γ.M Φ.A (newFunctionEnv scope Φ.env.globals cl [] Φ.env.qual none .none (some Φ.env)) (fun cenv s₄ =>
   codeAny Γ.M Φ.A (.compStart (lcE elt target iter ifs scope pos) 0 it acc { cenv with scope:=relabel scope Φ.env }) (compPost Γ.M Φ.A E none Q acc cenv.locals) s₄) E s₃) E s₂
theorem Abc {t:Tg}{target elt iter:PySem.Expr}{ifs:List PySem.Expr}{scope:PySem.Scope}{pos:Pos}{I:Addr}{cl:List (Str×Addr)}(ok:OkC scope Φ.env.scope)(q:ClR Φ.env scope cl)(S0:SR Γ Φ ι0 σ ρ s0.heap)(Y:Src ι0 ι s0 s foot)(H:HR Γ ι σ s.heap)
  (self:∀(s':Shared) (Q' E':Value→Shared→Prop),X0 s.heap s'.heap→Q' (.ref I) s'→wpAny Γ.M Φ.A (pyIter (.ref I)) Q' E' s')
  (loop:∀(a C:Nat) (ι3:Io) (s':Shared),Co Γ (Φ.comp scope cl C t target) ι0 s0 a (C::a::foot)→Zc Γ (Φ.comp scope cl C t target) ι0 s0 a (C::a::foot) (clr (tgI t) ρ) [] ι3 σ s'→(∀b∈foot,b∈C::a::foot∧b≠a∧b≠C)→Mo ι ι3 s.heap s'.heap→(∀b∈ι.hid,b∈ι3.hid)→ι3.nums=ι.nums→X0 s.heap s'.heap →
   codeAny Γ.M Φ.A (.compLoop (lcE elt target iter ifs scope pos) 0 (.ref I) (.ref a) (compEnvC scope cl C Φ.env)) (compPost Γ.M Φ.A E none Q (.ref a) C) s'):Abi Γ Φ E Q cl elt target iter ifs scope pos (.ref I) s:=by
 refine wpAny_newList ?_ (by rw [sizeLine_eq];decide)
 refine wpAny_newFunctionEnv (s:={ s with heap:=s.heap.push (X9 [] 0) }) ok.nc (fun p hp=>nomatch hp) (fun h' hNs hSB=>?_) ok.kind
 have sz1:(s.heap.push (X9 [] 0)).objs.size=s.heap.objs.size+1:=Heap.size_push ..
 have k1:X0 (s.heap.push (X9 [] 0)) h':=fun b o e=>(hSB.2 b (Nat.ne_of_lt (Heap.lt_size e))).trans (Heap.get?_push_of_some _ e)
 have k2:X0 s.heap h':=fun b o e=>k1 b o (J1 b o e)
 have k3:X0 s0.heap h':=fun b o e=>k2 b o (Y.k b o e)
 have acc:h'.get? s.heap.objs.size=some (X9 [] 0):=k1 _ _ (Heap.get?_push_size _ rfl)
 have da:s.heap.get? s.heap.objs.size=none:=X1
 have dc:s.heap.get? (s.heap.push (X9 [] 0)).objs.size=none:=Heap.get?_none_of_le (by rw [sz1];exact Nat.le_succ _)
 have M1:Mo ι (ι.hide s.heap.objs.size) s.heap h':=Mo.hide k2 da
 have H1:HR Γ (ι.hide s.heap.objs.size) σ h':=H.hide k2 da ⟨_,acc⟩
 have d0:∀{b},s.heap.get? b=none→s0.heap.get? b=none:=fun e=>dead (AdB Y.k) e
 have hid:∀b∈(ι.hide s.heap.objs.size).hid,b∈ι0.hid∨s0.heap.get? b=none:=fun b hb=>(List.mem_cons.mp hb).elim (fun q=>.inr (q▸d0 da)) (Y.hN b)
 have hA:∀b,J6 s0.heap b→b∉adr ι0→b∉adr (ι.hide s.heap.objs.size):=fun b al nb q=>W1 q (fun q=>nb (J4 (Y.hn▸q))) fun q=>(hid b q).elim (fun q=>nb (J8 q)) fun q=>al.elim fun o e=>two e q
 have M0:Mo ι0 (ι.hide s.heap.objs.size) s0.heap h':=⟨by rw [show (ι.hide s.heap.objs.size).nums=ι0.nums from Y.hn];exact List.prefix_refl _,fun b hb=>W1 hb (fun q=>.inl (J4 (Y.hn▸q))) fun q=>(hid b q).imp J8 AaT,fun b o xs n e _ _=>k3 b o e⟩
 have S1:SR Γ Φ (ι.hide s.heap.objs.size) σ ρ h':=S0.grow H1 k3 M0 hA
 have cne:(s.heap.push (X9 [] 0)).objs.size≠s.heap.objs.size:=by rw [sz1];exact Nat.succ_ne_self _
 have C0:(s.heap.push (X9 [] 0)).objs.size∉adr (ι.hide s.heap.objs.size):=fun q=>W1 q (fun q=>H.fresh dc (J4 q)) fun q=>(List.mem_cons.mp q).elim cne fun q=>H.fresh dc (J8 q)
 have dead1:∀b∈(s.heap.push (X9 [] 0)).objs.size::s.heap.objs.size::foot,s0.heap.get? b=none∧J6 h' b:=fun b hb=>(List.mem_cons.mp hb).elim (fun q=>q▸⟨d0 dc,AaZ hNs⟩) fun hb=>(List.mem_cons.mp hb).elim (fun q=>q▸⟨d0 da,_,acc⟩) fun hb=>⟨(Y.fo b hb).1,(Y.fo b hb).2.elim fun o e=>⟨o,k2 b o e⟩⟩
 have F:Co Γ (Φ.comp scope cl (s.heap.push (X9 [] 0)).objs.size t target) ι0 s0 s.heap.objs.size ((s.heap.push (X9 [] 0)).objs.size::s.heap.objs.size::foot) :=
  ⟨S0.hr.stay,fun b hb=>(S0.hr.hids b hb).2,fun b hb=>(dead1 b hb).1,fun b hb=>S0.ff.dead (dead1 b hb).1,List.mem_cons_self,List.mem_cons_of_mem _ List.mem_cons_self,fun y c hc=>(S0.fr.cell y c (q.a y c hc)).elim fun v n=>Aaw n⟩
 have e0:(⟨(ι.hide s.heap.objs.size).nums,ι0.hid⟩:Io)=ι0:=by rw [show (ι.hide s.heap.objs.size).nums=ι0.nums from Y.hn]
 have z:∀s':Shared,s'.heap=h'→(∃t,s'=upd s0 s'.heap t)→codeAny Γ.M Φ.A (.compLoop (lcE elt target iter ifs scope pos) 0 (.ref I) (.ref s.heap.objs.size) (compEnvC scope cl (s.heap.push (X9 [] 0)).objs.size Φ.env)) (compPost Γ.M Φ.A E none Q (.ref s.heap.objs.size) (s.heap.push (X9 [] 0)).objs.size) s':=fun s' e hs'=>by
  subst e
  exact loop _ _ (ι.hide s.heap.objs.size) s' F ⟨S1.comp ok hNs C0 (Adn S0.hr.stay (d0 dc)) q,e0.symm▸Ext.more k3,fun b hb=>List.mem_cons_of_mem _ (Y.hh b hb),List.mem_cons_self,fun b hb=>⟨fun q=>S0.hr.fresh (dead1 b hb).1 (J4 (Y.hn▸q)),(dead1 b hb).2⟩,hs',[],0,acc,LR.nil⟩
   (fun b hb=>⟨List.mem_cons_of_mem _ (List.mem_cons_of_mem _ hb),fun q=>(Y.fo b hb).2.elim fun o e=>two e (q▸da),fun q=>(Y.fo b hb).2.elim fun o e=>two e (q▸dc)⟩) M1 (fun b hb=>List.mem_cons_of_mem _ hb) rfl k2
 have hs:∀u,∃t,upd s h' u=upd s0 h' t:=fun u=>⟨u,Y.hs.elim fun t e=>by rw [e]⟩
 exact codeAny_compStart_list (z _ rfl (hs _)) (self _ _ _ k2 (z _ rfl (hs _)))
inductive W8 (Γ:Wo) {n:Nat} (Φ:Fx n) (E Q:Value→Shared→Prop) (s:Shared):PySem.Expr→Prop
 |mk {elt target iter:PySem.Expr} {ifs:List PySem.Expr} {scope:PySem.Scope} {pos:Pos}:Ahn iter=false→OkC scope Φ.env.scope →
   (∀cl,ClR Φ.env scope cl→wpAny Γ.M Φ.A (eval iter Φ.env) (fun v s₁=>wpAny Γ.M Φ.A (pyIter v) (Abi Γ Φ E Q cl elt target iter ifs scope pos) E s₁) E s)→W8 Γ Φ E Q s (lcE elt target iter ifs scope pos)
noncomputable def CoOK (Γ:Wo)(n:Nat)(e:Ex):Prop:=∀(Φ:Fx n) (x:PySem.Expr) (ι:Io) (s:Shared) (σ:Hp) (ρ:Ve) (Qd:D→Hp→Prop) (Xd:Nat→Hp→Prop) (Q E:Value→Shared→Prop),
 chkE Γ.K e Φ.env.scope Φ.NE x=true→SR Γ Φ ι σ ρ s.heap→wE (J0 n) e ρ σ Qd Xd→Kn Γ Φ.F VR ι s Qd Xd Q E→W8 Γ Φ E Q s x
theorem Abh {iter:PySem.Expr}{env:PEnv}(h:Ahn iter=false)(x:Value):foldedSetIterable iter env x=pure x:=by
 cases iter<;>first|rfl|exact ffE h.symm
theorem Afz {e:Ex}(h:CoOK Γ n e):EvOK Γ n e:=fun Φ x ι s σ ρ Qd Xd Q E hc S w K=>by
 obtain ⟨h1,ok,h3⟩:=h Φ x ι s σ ρ Qd Xd Q E hc S w K
 rw [eval_ListComp]
 exact AbR S.fr ok.fr fun cl e q=>wpAny_comprehension_free rfl (fun x=>Abh h1 x) e ok.kind (fun p hp hl=>(ok.one p hp).trans (congrArg some hl)) (h3 cl q)
theorem AiP {ob:Obj}(hf:ob.isFreed=false):Src ι ι s { s with heap:=s.heap.push ob } [s.heap.objs.size] :=
 ⟨rfl,fun b h=>h,fun b h=>.inl h,J1,fun b hb=>List.mem_singleton.mp hb▸⟨X1,_,Heap.get?_push_size _ hf⟩,⟨s.toks,rfl⟩⟩
theorem Ac4 {t:Tg}{target elt iter:PySem.Expr}{ifs:List PySem.Expr}{scope:PySem.Scope}{pos:Pos}{x:Ex}{c:CT}{cl:List (Str×Addr)}{v:Value}{d:D}{Rc:List D→Hp→(List D→Hp→Prop)→Prop}(ok:OkC scope Φ.env.scope)(q:ClR Φ.env scope cl)(G:∀C,Lc Γ (Φ.comp scope cl C t target) t target elt ifs x c)
  (R0:∀h Q,Rc [] h Q→Q [] h) (R1:∀d ds h Q,Rc (d::ds) h Q→J9 (t.set d ρ) fun ρ'=>c ρ' h (fun h1=>wE (J0 n) x ρ' h1 (fun y h2=>Rc ds h2 (fun zs h3=>Q (y::zs) h3)) Xd) (fun h1=>Rc ds h1 Q) Xd)
  (S:SR Γ Φ ι σ ρ s.heap) (r:VR ι s.heap v d) (w:X4 d fun ds=>grd (Nat.ble ds.length most) (Rc ds σ fun xs h1=>Qd (.lst xs) h1)) (K:Kn Γ Φ.F VR ι s Qd Xd Q E):wpAny Γ.M Φ.A (pyIter v) (Abi Γ Φ E Q cl elt target iter ifs scope pos) E s :=
 Aiy w r fun b l ds w sq=>X6 w fun hl w =>
  have hW:Wk Γ Φ.A s.heap.objs.size [s.heap.objs.size] [s.heap.objs.size] (fun ds ι h=>SqIt ι h s.heap.objs.size l ds):=AkP Φ.Rm.hh _ l
  Abc (t:=t) (foot:=[s.heap.objs.size]) ok q S (AiP rfl) (S.hr.more J1) (fun s' Q' E' k=>hW.self ds ι s' Q' E' (hW.move ds ι ι _ s'.heap sq (Mo.more k) (fun b h=>h) fun b _=>k b)) fun a C ι3 s' F z hf M hh hn k =>
   Aei F (G C) K hW hf R0 R1 ds [] ι3 σ s' z (by simp only [List.length_nil,Nat.zero_add];exact Nat.le_succ_of_le (Y2 hl)) (hW.move ds ι ι3 _ s'.heap sq M hh fun b _=>k b) w
theorem Am6 {t:Tg}{target elt iter:PySem.Expr}{scope:PySem.Scope}{pos:Pos}{x:Ex}{I l:Nat}{p:Nat×Option Nat}(F:Co Γ Φ ι0 s0 a L)(G:Lc Γ Φ t target elt [] x noT)(K:Kn Γ Φ.F VR ι0 s0 Qd Xd Q E)(hI:I∈L∧I≠a∧I≠Φ.env.locals) :
  ∀(fuel i:Nat) (xs:List D) (ι:Io) (σ:Hp) (s:Shared),Zc Γ Φ ι0 s0 a L (clr (tgI t) ρ) xs ι σ s→xs.length+fuel≤100001→s.heap.IsListIter I p.1 i→ι.nums[l]? = some p→cmaL (fun ρ h Q X=>wE (J0 n) x ρ h Q X) t ρ l fuel i σ (fun zs h=>Qd (.lst (xs++zs)) h) Xd →
   codeAny Γ.M Φ.A (.compLoop (lcE elt target iter [] scope pos) 0 (.ref I) (.ref a) Φ.env) (compPost Γ.M Φ.A E none Q (.ref a) Φ.env.locals) s:=by
 have hW:∀b∈[I],b∈L∧b≠a∧b≠Φ.env.locals:=fun b hb=>List.mem_singleton.mp hb▸hI
 refine @Nat.rec _ (fun i xs ι σ s z hlen hit ep w=>hiE w) fun fuel ih i xs ι σ s z hlen hit ep w=>?_
 have ow:AcF ι s.heap [I]:=fun b hb=>.inr (List.mem_singleton.mp hb▸hit.elim fun o y=>Ab7 y.1 y.2.2)
 refine Y8 (B:=fun p'=>p'=p→codeAny Γ.M Φ.A (.compLoop (lcE elt target iter [] scope pos) 0 (.ref I) (.ref a) Φ.env) (compPost Γ.M Φ.A E none Q (.ref a) Φ.env.locals) s) z.S.hr ep (K:=fun ds=>@Option.casesOn D (fun _=>Prop) ds[i]? (Qd (.lst (xs++[])) σ) fun d=>AgI (t.set d ρ) fun ρ'=>wE (J0 n) x ρ' σ (fun y h1=>cmaL (fun ρ h Q X=>wE (J0 n) x ρ h Q X) t ρ l fuel (i+1) h1 (fun zs h2=>Qd (.lst (xs++y::zs)) h2) Xd) Xd) w (fun a' us m ds ep' q g rs w e=>?_) rfl
 subst e
 have hl:s.heap.IsList a' us.toArray:=Z8 g
 cases qd:ds[i]? with
 |none =>
  rw [qd] at w
  exact Aby (E:=nx Γ Φ E Q a) rfl (wpAny_pyNext_list_end Φ.Rm.hh hit hl (by rw [List.getElem?_toArray];exact List.getElem?_eq_none (rs.length▸List.getElem?_eq_none_iff.mp qd)) fun h' he=>Afm F z hW (AaN List.mem_cons_self he) ow K (List.append_nil xs▸w))
 |some d =>
  rw [qd] at w
  refine Y6 (o:=t.set d ρ) (K:=fun ρ'=>wE (J0 n) x ρ' σ (fun y h1=>cmaL (fun ρ h Q X=>wE (J0 n) x ρ h Q X) t ρ l fuel (i+1) h1 (fun zs h2=>Qd (.lst (xs++y::zs)) h2) Xd) Xd) w fun ρ' e w=>?_
  refine rs.get qd fun v hv rv=>?_
  refine Aby (E:=nx Γ Φ E Q a) rfl (wpAny_pyNext_list_item hit hl (by rw [List.getElem?_toArray];exact hv) fun h' hit' hsb=>?_)
  have al:∀b∈[I],J6 h' b:=fun b hb=>List.mem_singleton.mp hb▸hit'.elim fun o y=>⟨o,y.1⟩
  have z1:Zc Γ Φ ι0 s0 a L (clr (tgI t) ρ) xs ι σ (upd s h' s.toks):=z.draw F hW (Aay hsb) al ow
  refine hit'.elim fun o y=>AlE (b:=true) (s:={ s with heap:=h' }) y.1 y.2.1 y.2.2 ?_
  refine Aer (Nx:=fun us h=>cmaL (fun ρ h Q X=>wE (J0 n) x ρ h Q X) t ρ l fuel (i+1) h (fun zs h=>Qd (.lst (us++zs)) h) Xd) F G K z1 (rv.mono (Mo.but (Aay hsb) ow)) e (by omega) (app1 (c:=noT) (Rc:=fun h Q=>cmaL (fun ρ h Q X=>wE (J0 n) x ρ h Q X) t ρ l fuel (i+1) h Q Xd) (P:=fun h=>cmaL (fun ρ h Q X=>wE (J0 n) x ρ h Q X) t ρ l fuel (i+1) h (fun zs h=>Qd (.lst (xs++zs)) h) Xd) w) fun ι₁ σ₁ s₁ xs₁ z₁ hl₁ kf Mf hh w=>?_
  exact ih (i+1) xs₁ ι₁ σ₁ s₁ z₁ (by omega) (hit'.at fun o y=>kf I hI.1 hI.2.1 hI.2.2 o y) (Alu Mf.pre ep) w
end
end Mine
end
section
namespace Mine
theorem AnG {f:Comprehension→Bool}{gs:List Comprehension}{P:List Comprehension→Prop}(h:genK f gs=true)(k:∀target iter ifs,f ⟨target,iter,ifs,0⟩=true→P [⟨target,iter,ifs,0⟩]):P gs :=
 lC_i (P:=P) h fun g u h=>lN_i (P:=fun u=>P (g::u)) (aL h) (by
  obtain ⟨target,iter,ifs,asy⟩:=g
  cases bE (aL (aR h))
  exact k target iter ifs (aR (aR h)))
section
variable {Γ:Wo}{n:Nat}{Φ:Fx n}{ι:Io}{s:Shared}{ρ:Ve}{σ:Hp}{Qd:D→Hp→Prop}{Xd:Nat→Hp→Prop}{Q:Value→Shared→Prop}{E:Value→Shared→Prop}{scope:PySem.Scope}
theorem Ama {t:Tg}{target elt:PySem.Expr}{ifs:List PySem.Expr}{x:Ex}{c:CT}{cl:List (Str×Addr)}(h1:EvOK Γ n x)(hk:coK scope Φ.env.scope Φ.NE t target=true)(ce:chkE Γ.K x (AeM scope Φ.env.scope) (neC scope t target Φ.NE) elt=true)(ts:∀C,TsOK Γ (Φ.comp scope cl C t target) ifs c) :
  ∀C,Lc Γ (Φ.comp scope cl C t target) t target elt ifs x c:=fun C=>⟨h1,ce,aL (aR hk),aR (aR hk),ts C⟩
theorem AiL {t:Tg}{target elt iter:PySem.Expr}{pos:Pos}{x:Ex}{cl:List (Str×Addr)}{v:Value}{d:D}(ok:OkC scope Φ.env.scope)(q:ClR Φ.env scope cl)(G:∀C,Lc Γ (Φ.comp scope cl C t target) t target elt [] x noT)(S:SR Γ Φ ι σ ρ s.heap)(r:VR ι s.heap v d)
  (w:comK (fun ρ h Q X=>wE (J0 n) x ρ h Q X) t ρ d σ Qd Xd) (K:Kn Γ Φ.F VR ι s Qd Xd Q E):wpAny Γ.M Φ.A (pyIter v) (Abi Γ Φ E Q cl elt target iter [] scope pos) E s :=
 have byV:∀d,VR ι s.heap v d→(X4 d fun ds=>grd (Nat.ble ds.length most) (cmpL (fun ρ h Q X=>wE (J0 n) x ρ h Q X) t ρ ds σ (fun xs h1=>Qd (.lst xs) h1) Xd))→wpAny Γ.M Φ.A (pyIter v) (Abi Γ Φ E Q cl elt target iter [] scope pos) E s:=fun d r w =>
  Ac4 (c:=noT) (Rc:=fun ds h Q=>cmpL (fun ρ h Q X=>wE (J0 n) x ρ h Q X) t ρ ds h Q Xd) ok q G (fun h Q w=>w) (fun d ds h Q w=>w) S r w K
 @D.casesOn (fun d=>VR ι s.heap v d→comK (fun ρ h Q X=>wE (J0 n) x ρ h Q X) t ρ d σ Qd Xd→wpAny Γ.M Φ.A (pyIter v) (Abi Γ Φ E Q cl elt target iter [] scope pos) E s) d (fun r w=>hiE w) (fun x r w=>hiE w) (fun x r w=>hiE w) (fun x r w=>hiE w) (fun ds r w=>byV _ r w) (fun ds r w=>byV _ r w)
  (fun l r w=>VR.loc_i (P:=fun v=>wpAny Γ.M Φ.A (pyIter v) (Abi Γ Φ E Q cl elt target iter [] scope pos) E s) r fun p ep=>Y8 (B:=fun p=>wpAny Γ.M Φ.A (pyIter (.ref p.1)) (Abi Γ Φ E Q cl elt target iter [] scope pos) E s) S.hr ep w fun a us m ds ep' q' g rs w=>X6 w fun hl w =>
   wpAny_pyIter_list (Z8 g) (Abc (t:=t) (s:={ s with heap:=s.heap.push { cls:=.type "list_iterator",data:=.fields #[.ref a,.int 0 0] } }) (foot:=[s.heap.objs.size]) ok q S (AiP rfl) (S.hr.more J1)
    (fun s' Q' E' k y=>wpAny_pyIter_listiter (i:=0) ⟨_,k _ _ (Heap.get?_push_size _ rfl),rfl,rfl⟩ y) fun a' C ι3 s' F z hf M hh hn k=>Am6 (p:=(a,none)) F (G C) K (hf _ List.mem_cons_self) (ds.length+1) 0 [] ι3 σ s' z (by simp only [List.length_nil,Nat.zero_add];exact Nat.succ_le_succ (Y2 hl)) ⟨_,k _ _ (Heap.get?_push_size _ rfl),rfl,rfl⟩ (hn▸ep') w))
  (fun r w=>hiE w) r w
theorem AmV {x it:Ex}{t:Tg}(h1:EvOK Γ n x)(h2:EvOK Γ n it):CoOK Γ n (.comp x t it):=fun Φ e ι s σ ρ Qd Xd Q E hc S w K=>AaI (P:=W8 Γ Φ E Q s) hc fun elt gs scope pos hc=>AnG (P:=fun gs=>W8 Γ Φ E Q s (.ListComp elt gs scope pos)) hc fun target iter ifs hc=>lN_i (P:=fun ifs=>W8 Γ Φ E Q s (lcE elt target iter ifs scope pos)) (aL hc)
 (.mk (nT (aL (aR hc))) (AgG (aL (aL (aR (aR (aR hc)))))) fun cl q=>h2.go (aL (aR (aR hc))) S (Qe:=fun d h1=>comK (fun ρ h Q X=>wE (J0 n) x ρ h Q X) t ρ d h1 Qd Xd) w K fun v s1 d σ1 ι1 S1 e r w K =>
  AiL (AgG (aL (aL (aR (aR (aR hc)))))) q (Ama h1 (aL (aR (aR (aR hc)))) (aR (aR (aR (aR hc)))) fun C=>Alf) S1 r w K)
theorem Aku {x c it:Ex}{t:Tg}(h1:EvOK Γ n x)(h2:EvOK Γ n it)(h3:TrOK Γ n c):CoOK Γ n (.compc x t it c):=fun Φ e ι s σ ρ Qd Xd Q E hc S w K=>AaI (P:=W8 Γ Φ E Q s) hc fun elt gs scope pos hc=>AnG (P:=fun gs=>W8 Γ Φ E Q s (.ListComp elt gs scope pos)) hc fun target iter ifs hc =>
 lC_i (P:=fun ifs=>W8 Γ Φ E Q s (lcE elt target iter ifs scope pos)) (aL hc) fun f fs hf=>lN_i (P:=fun fs=>W8 Γ Φ E Q s (lcE elt target iter (f::fs) scope pos)) (aL hf)
 (.mk (nT (aL (aR hc))) (AgG (aL (aL (aR (aR (aR hc)))))) fun cl q=>h2.go (aL (aR (aR hc))) S (Qe:=fun d h1=>X4 d fun ds=>grd (Nat.ble ds.length most) <| cmtL (fun ρ h Q X=>wE (J0 n) x ρ h Q X) (fun ρ h Q X=>wE (J0 n) c ρ h Q X) t ρ ds h1 (fun xs h1=>Qd (.lst xs) h1) Xd) w K fun v s1 d σ1 ι1 S1 e r w K =>
  Ac4 (c:=exT n c) (Rc:=fun ds h Q=>cmtL (fun ρ h Q X=>wE (J0 n) x ρ h Q X) (fun ρ h Q X=>wE (J0 n) c ρ h Q X) t ρ ds h Q Xd) (AgG (aL (aL (aR (aR (aR hc)))))) q (Ama h1 (aL (aR (aR (aR hc)))) (aR (aR (aR (aR hc)))) fun C=>ApW h3 (aR hf)) (fun h Q w=>w) (fun d ds h Q w=>w) S1 r w K)
theorem Ah6 {h':Heap}(k:X0 s.heap h')(al:∀c∈Ad6 s.heap.objs.size,J6 h' c):Src ι (ι.hide (s.heap.objs.size+3)) s { s with heap:=h' } (Ad6 s.heap.objs.size) :=
 have dd:∀m,s.heap.get? (s.heap.objs.size+m)=none:=fun m=>Heap.get?_none_of_le (Nat.le_add_right _ _)
 ⟨rfl,fun b hb=>List.mem_cons_of_mem _ hb,fun b hb=>(List.mem_cons.mp hb).elim (fun q=>.inr (q▸dd 3)) .inl,k,fun b hb=>⟨(by
  have hb':=hb
  simp only [Ad6,List.mem_cons,List.not_mem_nil,or_false] at hb'
  rcases hb' with rfl|rfl|rfl|rfl|rfl
  ·exact dd 4
  ·exact dd 2
  ·exact dd 3
  ·exact dd 0
  ·exact dd 1),al b hb⟩,⟨s.toks,rfl⟩⟩
theorem Ai9 {x y z:Ex}{i j:Nat}(W:Good Γ)(h1:EvOK Γ n x)(h3:EvsOK Γ n (.cons y (.cons z .nil))):CoOK Γ n (.compz x i j y z):=fun Φ e ι s σ ρ Qd Xd Q E hc S w K=>AaI (P:=W8 Γ Φ E Q s) hc fun elt gs scope pos hc=>AnG (P:=fun gs=>W8 Γ Φ E Q s (.ListComp elt gs scope pos)) hc fun target iter ifs hc =>
 lN_i (P:=fun ifs=>W8 Γ Φ E Q s (lcE elt target iter ifs scope pos)) (aL hc) (W4 (P:=fun iter=>W8 Γ Φ E Q s (lcE elt target iter [] scope pos)) (aL (aR hc)) fun zn l ks cp hi=>lN_i (P:=fun ks=>W8 Γ Φ E Q s (lcE elt target (.Call zn l ks cp) [] scope pos)) (aL hi)
  (lC_i (P:=fun l=>W8 Γ Φ E Q s (lcE elt target (.Call zn l [] cp) [] scope pos)) (aR (aR hi)) fun e1 l hl=>lC_i (P:=fun l=>W8 Γ Φ E Q s (lcE elt target (.Call zn (e1::l) [] cp) [] scope pos)) (aR (aR hl)) fun e2 l hr=>lN_i (P:=fun l=>W8 Γ Φ E Q s (lcE elt target (.Call zn (e1::e2::l) [] cp) [] scope pos)) (aL hr)
   (X3 (P:=fun zn=>W8 Γ Φ E Q s (lcE elt target (.Call zn [e1,e2] [] cp) [] scope pos)) (aL (aR hi)) fun zx zp hz =>
    have hco:=aR (aR hc)
    have cA:Aba Γ.K (.cons y (.cons z .nil)) Φ.env.scope Φ.NE [e1,e2]=true:=Bool.and_eq_true_iff.mpr ⟨aL hl,Bool.and_eq_true_iff.mpr ⟨aL (aR hl),Bool.and_eq_true_iff.mpr ⟨aL (aR hr),Bool.and_eq_true_iff.mpr ⟨aR (aR hr),rfl⟩⟩⟩⟩
    .mk rfl (AgG (aL (aL hco))) fun cl q=>Call_ (Adi W S hz zp (Aah (first:=[]) (Ph:=fun h=>True) (fun h u=>U9 (by intro a q;cases q) h) (fun h u=>trivial) h3 cA S (Qe:=fun ds h2=>twoK ds fun d e=>X4 d fun xs=>X4 e fun ys=>grd (Nat.ble xs.length most) <| grd (Nat.ble ys.length most) <| cmpL (fun ρ h Q X=>wE (J0 n) x ρ h Q X) (.p [i,j]) ρ (zipD xs ys) h2 (fun zs h1=>Qd (.lst zs) h1) Xd) w K
     fun vs s1 ds σ1 ι1 S1 e r w K=>AdQ (CL:=fun vs=>wpAny Γ.M Φ.A (call (.type "zip") ([]++vs)) (fun v s₁=>wpAny Γ.M Φ.A (pyIter v) (Abi Γ Φ E Q cl elt target (.Call (.Name zx zp) [e1,e2] [] cp) [] scope pos) E s₁) E s1) w r.1 fun v u d e rv ru w =>
      AfS S1.hr rv ru w fun xs ys h' l1 l2 w k al Z=>X6 w fun hl1 w=>X6 w fun hl2 w=>AfK (s:={ s1 with heap:=h' }) Z
       (have dd:s1.heap.get? (s1.heap.objs.size+3)=none:=Heap.get?_none_of_le (Nat.le_add_right _ _)
       have hW:=AiF (Γ:=Γ) Φ.Rm.hh (s1.heap.objs.size+4) (s1.heap.objs.size+2) (s1.heap.objs.size+3) s1.heap.objs.size (s1.heap.objs.size+1) l1 l2
       have st:StZ (s1.heap.objs.size+4) (s1.heap.objs.size+2) (s1.heap.objs.size+3) s1.heap.objs.size (s1.heap.objs.size+1) l1 l2 (zipD xs ys) (ι1.hide (s1.heap.objs.size+3)) h':=⟨List.mem_cons_self,xs,ys,rfl,Z⟩
       Abc (t:=.p [i,j]) (AgG (aL (aL hco))) q S1 (Ah6 k al) (S1.hr.hide k dd (al _ (List.mem_cons_of_mem _ (List.mem_cons_of_mem _ List.mem_cons_self)))) (fun s' Q' E' k=>hW.self _ _ s' Q' E' (hW.move _ _ _ _ s'.heap st (Mo.more k) (fun b h=>h) fun b _=>k b)) fun a C ι3 s' F z hf M hh hn k =>
        Aei (c:=noT) (Rc:=fun ds h Q=>cmpL (fun ρ h Q X=>wE (J0 n) x ρ h Q X) (.p [i,j]) ρ ds h Q Xd) F (Ama h1 (aL hco) (aR hco) (fun C=>Alf) C) K hW hf (fun h Q w=>w) (fun d ds h Q w=>w) (zipD xs ys) [] ι3 σ1 s' z (by simp only [List.length_nil,Nat.zero_add];exact Nat.le_succ_of_le (Nat.le_trans (AfP xs ys) (Y2 hl1))) (hW.move _ _ _ _ s'.heap st M hh fun b _=>k b) w))))))
end
end Mine
end
section
namespace Mine
theorem Agc:typeLookup (.type "zip") "__len__" = pure none:=by rw [typeLookup_type,builtinLookup_eq_fast];kernel_rfl
theorem AeY:typeLookup (.type "zip") "__length_hint__" = pure none:=by rw [typeLookup_type,builtinLookup_eq_fast];kernel_rfl
section
variable {Γ:Wo}{ι:Io}{s:Shared}{σ:Hp}{A:Around}{E:Value→Shared→Prop}{I S:Addr}{W foot:List Nat}{St:List D→Io→Heap→Prop}{h h':Heap}
theorem Ah4 {h₀:Heap}(al:∀a∈adr ι,J6 h₀ a)(k:But W h₀ h)(aw:∀b∈W,J6 h b)(hs:Heap.SameBut S h h')(hv:J6 h' S):∀a∈adr ι,J6 h' a:=fun a ha =>
 have x:J6 h a:=(Classical.em (a∈W)).elim (aw a) fun q=>(al a ha).elim fun o e=>⟨o,k a o q e⟩
 (Classical.em (a=S)).elim (fun q=>q▸hv) fun q=>x.elim fun o e=>⟨o,(hs.2 a q).trans e⟩
theorem Afq {h₀ h₁ h₂:Heap}(k:But W h₀ h)(hs:Heap.SameBut S h h'):But (S::W) h₀ h':=fun b o q e=>(hs.2 b fun y=>q (y▸List.mem_cons_self)).trans (k b o (fun y=>q (List.mem_cons_of_mem _ y)) e)
theorem Akc {res:Value}{R:Result→Shared→Prop}(hW:Wk Γ A.in1 I W foot St)(hSf:S∉foot)(hSh:S∈ι.hid) :
  ∀(ds us:List D) (acc:List Value) (c:Nat) (s:Shared),St ds ι s.heap→(∀a∈adr ι,J6 s.heap a)→s.heap.get? S=some (X9 acc c)→VRs ι s.heap acc us→us.length+ds.length≤100000 →
  (∀h' acc' c',But (S::W) s.heap h'→h'.get? S=some (X9 acc' c')→VRs ι h' acc' (us++ds)→R (.ok (.ret res)) { s with heap:=h' }) →
  codeAny Γ.M A (.builtin "list.extend.loop" ⟨[.ref S,.ref I,res],[]⟩) R s:=by
 have hSW:S∉W:=fun q=>hSf (hW.sub S q)
 refine @List.rec D _ (fun us acc c s st al hS r hl hR=>?_) fun d ds ih us acc c s st al hS r hl hR=>?_
 ·refine codeAny_builtin PySem.F.entry_extend_loop ?_
  rw [Around.under_plainId PySem.F.plain_extend_loop _]
  show wpAny _ A.in1 (pyNext (.ref I) >>= _) _ _ s
  exact wpAny_bind (hW.done ι s _ _ st fun h' k=>wpAny_pure (hR h' acc c (fun b o q e=>k b o (fun y=>q (List.mem_cons_of_mem _ y)) e) (k S _ hSW hS) (by rw [List.append_nil];exact VRs.mono (Mo.but k (hW.own _ _ _ st)) r)))
 ·refine codeAny_builtin PySem.F.entry_extend_loop ?_
  rw [Around.under_plainId PySem.F.plain_extend_loop _]
  show wpAny _ A.in1 (pyNext (.ref I) >>= _) _ _ s
  refine wpAny_bind (hW.item d ds ι s _ _ st al fun v h' k alW rv st'=>?_)
  have hS':=k S _ hSW hS
  have hz:us.length < 100000:=Nat.lt_of_lt_of_le (Nat.lt_add_of_pos_right (Nat.succ_pos _)) hl
  have hlen:acc.toArray.size=us.length:=r.length
  have r1:=LR.append (VRs.mono (Mo.but k (hW.own _ _ _ st)) r) (LR.cons rv LR.nil)
  have sb:Heap.SameBut S h' (h'.update S (Obj.mapSeq (·.push v))):=Heap.SameBut.update ..
  show wpAny _ A.in1 (updateSeq S (·.push v) >>= _) _ _ _
  refine wpAny_bind (wpAny_updateSeq hS' rfl (wpAny_pure ⟨plainId_quiet PySem.F.plain_extend_loop _,?_⟩) (by rw [hlen];exact fit (Nat.le_of_lt hz)) (by rw [Array.size_push,hlen];exact Nat.le_trans (Nat.succ_le_succ (fit (Nat.le_of_lt hz))) (Nat.le_refl _)))
  have M1:Mo ι ι h' (h'.update S (Obj.mapSeq (·.push v))):=Mo.one sb (.inl (J8 hSh))
  have up:=PySem.IsL.update (show PySem.IsL h' S acc.toArray c from hS') (fun l=>l.push v)
  rw [List.push_toArray] at up
  refine ih (us++[d]) (acc++[v]) _ _ (hW.move _ _ _ _ _ st' M1 (fun b q=>q) fun b hb o e=>(sb.2 b fun q=>hSf (q▸hb)).trans e) (Ah4 al k alW sb ⟨_,up⟩) up (VRs.mono M1 r1) (by rw [List.length_append,Nat.add_assoc,Nat.add_comm [d].length];exact hl)
   fun h₂ acc' c' k₂ hS₂ r₂=>hR h₂ acc' c' (fun b o q e=>k₂ b o q (Afq (h₁:=h') (h₂:=h') k sb b o q e)) hS₂ (by rwa [List.append_assoc] at r₂)
theorem Akx {z TI TO i1 i2 l1 l2:Addr}{xs ys:List D}{Q:Value→Shared→Prop}(hh:A.handled=none)(hA:∀a∈adr ι,J6 s.heap a)(Z:StZ z TI TO i1 i2 l1 l2 (zipD xs ys) ι s.heap)(hz:s.TypeIs (.ref z) "zip")(hf:∀b∈[z,TI,TO,i1,i2],J6 s.heap b)(hl:xs.length≤100000)
  (hQ:∀h' acc' c',But [z,TI,TO,i1,i2] s.heap h'→h'.get? s.heap.objs.size=some (X9 acc' c')→VRs (ι.hide s.heap.objs.size) h' acc' (zipD xs ys)→Q (.ref s.heap.objs.size) { s with heap:=h' }) :
  wpAny Γ.M A (call (.type "list") [.ref z]) Q E s:=by
 refine callType_codes (Q₁:=fun obj s₁=>obj=.ref s.heap.objs.size∧s₁={ s with heap:=s.heap.push { cls:=.type "list",data:=.seq #[] } }) PySem.F.called_list (PySem.F.typeCall_list_1 _) PySem.F.entry_list_init
  (code_list_new _ ⟨rfl,rfl⟩) fun obj s₁ h₁=>?_
 obtain ⟨rfl,rfl⟩:=h₁
 have dS:s.heap.get? s.heap.objs.size=none:=X1
 have hSf:s.heap.objs.size∉[z,TI,TO,i1,i2]:=fun q=>(hf _ q).elim fun o e=>two e dS
 have hW:Wk Γ A.in1.in1 z [z,TO,i1,i2] [z,TI,TO,i1,i2] (StZ z TI TO i1 i2 l1 l2):=AiF (A:=A.in1.in1) hh z TI TO i1 i2 l1 l2
 have hS0:(s.heap.push { cls:=.type "list",data:=.seq #[] }).get? s.heap.objs.size=some (X9 [] 0):=Heap.get?_push_size _ rfl
 have k00:X0 s.heap (s.heap.push { cls:=.type "list",data:=.seq #[] }):=J1
 generalize s.heap.push { cls:=.type "list",data:=.seq #[] }=H0 at *
 generalize s.heap.objs.size=S at *
 have ne:∀{b o},s.heap.get? b=some o→b≠S:=fun e q=>two (q▸e) dS
 have kup:∀{h f},X0 s.heap h→X0 s.heap (h.update S f):=fun k b o e=>(Heap.get?_update_other _ _ (Ne.symm (ne e))).trans (k b o e)
 have hzT:∀(h:Heap),X0 s.heap h→({ s with heap:=h }:Shared).TypeIs (.ref z) "zip" := fun h k=>hz.elim fun o e=>⟨o,k _ _ e.1,e.2⟩
 have stm:∀h,X0 s.heap h→StZ z TI TO i1 i2 l1 l2 (zipD xs ys) (ι.hide S) h:=fun h k=>hW.move (zipD xs ys) ι _ s.heap h Z (Mo.hide k dS) (fun a q=>List.mem_cons_of_mem _ q) fun b _ o e=>k b o e
 refine ⟨⟨_,hS0,rfl⟩,PySem.F.args_list_init_2 _ _,?_⟩
 show wpAny _ _ (do let old ←Builtin.List.listItems (.ref S);Builtin.List.listUpdate (.ref S) (fun _=>#[]);letGo old.toList.reverse;Builtin.List.listExtendWith (.ref S) (.ref z) .none) _ _ _
 refine wpAny_bind ?_
 unfold Builtin.List.listItems
 refine wpAny_bind (wpAny_seqItems hS0 rfl (wpAny_pure ?_))
 show wpAny _ _ (updateSeq S (fun _=>#[]) >>= fun _=>letGo (#[]:Array Value).toList.reverse >>= fun _=>Builtin.List.listExtendWith (.ref S) (.ref z) .none) _ _ _
 refine wpAny_bind (wpAny_updateSeq hS0 rfl ?_)
 have hS₁:=Heap.get?_update_self (Obj.mapSeq (fun _=>(#[]:Array Value))) hS0 rfl
 have k1:=kup (f:=Obj.mapSeq (fun _=>(#[]:Array Value))) k00
 generalize H0.update S (Obj.mapSeq (fun _=>(#[]:Array Value)))=H1 at *
 refine wpAny_bind (wpAny_letGo ?_)
 unfold Builtin.List.listExtendWith
 refine wpAny_bind (wpAny_typeOf (hzT _ k1) ?_)
 have h1:Builtin.List.listSameRef (.ref S) (.ref z)=false:=by simp only [Builtin.List.listSameRef];exact beq_eq_false_iff_ne.mpr fun q=>hSf (q▸List.mem_cons_self)
 have h2:(Value.type "zip" == Value.type "list")=false:=by decide
 have h3:(Value.type "zip" == Value.type "tuple")=false:=by decide
 simp only [h1,h2,h3,Bool.or_false,Bool.false_eq_true,if_false]
 refine wpAny_bind (hW.self _ _ _ _ _ (stm _ k1) ?_)
 refine wpAny_bind (wpAny_holding ?_)
 unfold Builtin.List.listLengthHint
 refine wpAny_bind (wpAny_specialOf (hzT _ k1) Agc ?_)
 show wpAny _ _ (specialOf (Value.ref z) (Str.ofString "__length_hint__") >>= _) _ _ _
 refine wpAny_bind (wpAny_specialOf (hzT _ k1) AeY ?_)
 refine wpAny_pure ?_
 show wpAny _ _ (rule "list.extend.makes-room" >>= fun _=>Builtin.List.listTouch (.ref S) >>= fun _ =>
  again (.builtin "list.extend.loop" ⟨[.ref S,.ref z,.none],[]⟩)) _ _ _
 refine wpAny_bind (wpAny_rule ?_)
 refine wpAny_bind ?_
 show wpAny _ _ (updateSeq S (·.push .none) >>= fun _=>updateSeq S (·.pop)) _ _ _
 refine wpAny_bind (wpAny_updateSeq hS₁ rfl ?_)
 have hS₂:=Heap.get?_update_self (Obj.mapSeq (·.push Value.none)) hS₁ rfl
 have k2:=kup (f:=Obj.mapSeq (·.push Value.none)) k1
 refine wpAny_updateSeq (hz:=by seq_fits) hS₂ rfl ?_
 have hS₃:=Heap.get?_update_self (Obj.mapSeq (·.pop)) hS₂ rfl
 have k3:=kup (f:=Obj.mapSeq (·.pop)) k2
 have hv:J6 ((H1.update S (Obj.mapSeq (·.push Value.none))).update S (Obj.mapSeq (·.pop))) S:=⟨_,hS₃⟩
 refine wpAny_pure ⟨plainId_quiet PySem.F.plain_extend_loop _,?_⟩
 exact Akc (ι:=ι.hide S) hW hSf List.mem_cons_self (zipD xs ys) [] [] _ _ (stm _ k3) (fun a ha=>W1 ha (fun q=>(hA a (J4 q)).elim fun o e=>⟨o,k3 a o e⟩) fun q=>(List.mem_cons.mp q).elim (fun q=>q.symm▸hv) fun q=>(hA a (J8 q)).elim fun o e=>⟨o,k3 a o e⟩) hS₃ LR.nil
  (by simp only [List.length_nil,Nat.zero_add];exact Nat.le_trans (AfP xs ys) hl) fun h' acc' c' k' hS' r=>⟨rfl,hQ h' acc' c' (fun b o hb e=>k' b o (fun q=>(List.mem_cons.mp q).elim (ne e) fun q=>hb (hW.sub b q)) (k3 b o e)) hS' r⟩
end
end Mine
end
section
namespace Mine
theorem slot_zip_ga:Slot "zip" "__getattribute__" "zip.__getattribute__" :=
 .of (owner := "zip") (n := "__getattribute__") (by rw [typeLookup_type,builtinLookup_eq_fast];kernel_rfl) (by decide +kernel) (by decide +kernel) (by decide +kernel)
  (by first|exact .inl (by decide +kernel)|exact .inr (by decide +kernel)) (by rw [isSubtype_type];kernel_rfl)
theorem Aeh:entryFor table "zip.__getattribute__" = some Builtin.«object.__getattribute__» :=
 entryFor_alias (id' := "object.__getattribute__") (by kernel_rfl) (by first|rfl|decide +kernel) (by decide +kernel) (by kernel_rfl)
theorem Ae5:typeLookup (.type "zip") "keys" = pure none:=by rw [typeLookup_type,builtinLookup_eq_fast];kernel_rfl
theorem AcY:typeLookup (.type "zip") "__getattr__" = pure none:=by rw [typeLookup_type,builtinLookup_eq_fast];kernel_rfl
theorem Afb (a b:Value):argsOk "zip.__getattribute__" ⟨[a,b],[]⟩:=by
 unfold argsOk;rw [signature?_of (id := "zip.__getattribute__") (n:=['_','_','e','t','u','b','i','r','t','t','a','t','e','g','_','_']) (o:=['p','i','z']) (by kernel_rfl) PySem.F.owner_zip];kernel_rfl
theorem Z7:plainId "dict.update.loop" = true:=by decide +kernel
theorem AaD:entryFor table "dict.update.loop" = some Builtin.«dict.update.loop» := entryFor_of_tree (by kernel_rfl)
theorem Ajj (a:Addr)(vs:Array Value)(u:Tok) :
  Meets (Builtin.«object.__getattribute__» ⟨[.ref a,.str "keys" u],[]⟩) (fun A R s=>s.heap.get? a=some { cls:=.type "zip",dict:=none,data:=.fields vs,slots:=#[] }∧raisesAttr (.ref a) "keys" A R s) :=
 Meets.of_wp fun prog w A R s hs=>by
  obtain ⟨hp,g,d,tk,os⟩:=s
  obtain ⟨hx,hs⟩:=hs
  have hT:(⟨hp,g,d,tk,os⟩:Shared).TypeIs (.ref a) "zip" := ⟨_,hx,rfl⟩
  have hname:(["__module__", "__name__", "__qualname__", "__doc__", "__annotations__"]:List Str).contains (Str.ofString "keys")=false:=by decide +kernel
  have f1:=Ae5
  unfold Builtin.«object.__getattribute__»
  repeat (any_goals (first|assumption|wp_step))
  exact wpAny_raiseAttrError hs.1 hs.2 (attrMsg_fits (by decide +kernel) (by size_fits))
section
variable {Γ:Wo}{ι:Io}{s:Shared}{σ:Hp}{A:Around}{E:Value→Shared→Prop}{I S:Addr}{W foot:List Nat}{St:List D→Io→Heap→Prop}{h h':Heap}
theorem Ajy {a:Addr}{vs:Array Value}{Q:Option Value→Shared→Prop}(hx:s.heap.get? a=some { cls:=.type "zip",dict:=none,data:=.fields vs,slots:=#[] })(hA:A.handled=none)
  (h:∀h' tk,X0 s.heap h'→Q none { s with heap:=h',toks:=tk }):wpAny Γ.M A (getAttr? (.ref a) "keys") Q E s:=by
 obtain ⟨hp,g,d,tk,os⟩:=s
 have hT:∀tk',(⟨hp,g,d,tk',os⟩:Shared).TypeIs (.ref a) "zip" := fun _=>⟨_,hx,rfl⟩
 have f1:=sub_AttributeError
 have f3:=slot_zip_ga.lookup
 have f4:=slot_zip_ga.bind (.ref a)
 have f5:=AcY
 unfold getAttr? getAttrBy? getAttrBy
 repeat (any_goals (first|assumption|exact hT _|((with_reducible show wpAny _ _ (call (Value.builtin "zip.__getattribute__") _ _) _ _ _);refine call_meets slot_zip_ga (hT _) Aeh (Afb _ _) (Ajj a vs _) ⟨hx,hA,fun h' tk' e hx'=>?_⟩)|wp_step))
 obtain ⟨t',u',he⟩:=hx'.there
 have hE:(⟨h',g,d,tk',os⟩:Shared).TypeIs (.ref e) "AttributeError" := ⟨_,he,rfl⟩
 show wpAny _ _ (getattributeRaised _ _ _ _ _ _ _) _ _ _
 unfold getattributeRaised
 repeat (any_goals (first|assumption|wp_step))
 exact h _ _ hx'.keeps
theorem AhU {d:D}{ds:List D}{kvs:List (List Nat×D)}{G:Prop}(e:W5 (d::ds)=some kvs)(k:∀x v r,d=.tup [.str x,v]→kvs=(x,v)::r→W5 ds=some r→G):G:=by
 have e':kvOf none d (fun k v=>(W5 ds).map fun r=>(k,v)::r)=some kvs:=e
 rcases d with _|_|_|_|l|_|_|_<;>first|exact nope e'|skip
 rcases l with _|⟨y,_|⟨v,_|⟨u,l⟩⟩⟩<;>first|exact nope e'|skip
 all_goals (cases y<;>first|exact nope e'|skip)
 rename_i x
 have e2:(W5 ds).map (fun r=>(x,v)::r)=some kvs:=e'
 cases q:W5 ds with
 |none=>rw [q] at e2;exact nope e2
 |some r=>rw [q] at e2;exact k x v r rfl (Option.some.inj e2).symm q
theorem AbC {prog:Program}{w:World}{a:Nat}{es:List (Str×Value)}(e:h.DictOf (PySem.strKind prog w) a es)(k:∀o,h.get? a=some o→h'.get? a=some o):h'.DictOf (PySem.strKind prog w) a es:=e.elim fun o e=>e.elim fun es' e=>e.elim fun ep e=>⟨o,es',ep,k o e.1,e.2⟩
theorem AjK {R:Result→Shared→Prop}(hW:Wk Γ A.in1 I W foot St)(hSf:S∉foot)(hSh:S∈ι.hid) :
  ∀(ds:List D) (more:List (List Nat×D)) (es:List (Str×Value)) (kvs:List (List Nat×D)) (i:Int) (ti:Tok) (s:Shared),W5 ds=some more→St ds ι s.heap→(∀a∈adr ι,J6 s.heap a)→s.heap.DictOf (PySem.strKind Γ.prog Γ.w) S es→Ents ι s.heap es kvs→es.length+ds.length≤100000 →
  (∀h' tk es',But (S::W) s.heap h'→h'.DictOf (PySem.strKind Γ.prog Γ.w) S es'→Ents ι h' es' (Y3 kvs more)→R (.ok (.ret .none)) { s with heap:=h',toks:=tk }) →
  codeAny Γ.M A (.builtin "dict.update.loop" ⟨[.ref S,.ref I,.int i ti,.none],[]⟩) R s:=by
 have hSW:S∉W:=fun q=>hSf (hW.sub S q)
 refine @List.rec D _ (fun more es kvs i ti s hp st al hS r hl hR=>?_) fun d ds ih more es kvs i ti s hp st al hS r hl hR=>?_
 ·cases hp
  refine codeAny_builtin AaD ?_
  rw [Around.under_plainId Z7 _]
  show wpAny _ A.in1 (pyNext (.ref I) >>= _) _ _ s
  exact wpAny_bind (hW.done ι s _ _ st fun h' k=>wpAny_bind (wpAny_pure (wpAny_pure (hR h' s.toks es (fun b o q e=>k b o (fun y=>q (List.mem_cons_of_mem _ y)) e) (AbC hS fun o=>k S o hSW) (Ents.mono (Mo.but k (hW.own _ _ _ st)) r)))))
 ·refine AhU hp fun kx dv more' ed em hp'=>?_
  subst ed em
  refine codeAny_builtin AaD ?_
  rw [Around.under_plainId Z7 _]
  show wpAny _ A.in1 (pyNext (.ref I) >>= _) _ _ s
  refine wpAny_bind (hW.item _ ds ι s _ _ st al fun v h' k alW rv st'=>?_)
  have hS':=AbC hS fun o=>k S o hSW
  have r1:=Ents.mono (Mo.but k (hW.own _ _ _ st)) r
  obtain ⟨T,v1,v2,ev,hT,rk,rd⟩:∃T v1 v2,v=.ref T∧IsSq "tuple" h' T #[v1,v2]∧VR ι h' v1 (.str kx)∧VR ι h' v2 dv:=VR.tup_i (P:=fun v=>∃T v1 v2,v=.ref T∧IsSq "tuple" h' T #[v1,v2]∧VR ι h' v1 (.str kx)∧VR ι h' v2 dv) rv fun a vs e n rs=>LR.two_i (P:=fun vs=>IsSq "tuple" h' a vs.toArray→∃T v1 v2,Value.ref a=.ref T∧IsSq "tuple" h' T #[v1,v2]∧VR ι h' v1 (.str kx)∧VR ι h' v2 dv) rs (fun v1 v2 r1 r2 e=>⟨a,v1,v2,rfl,e,r1,r2⟩) e
  subst ev
  obtain ⟨tx,ax,e1⟩:∃tx,ascN kx=true∧v1=.str (toS kx) tx:=VR.str_i (P:=fun v1=>∃tx,ascN kx=true∧v1=.str (toS kx) tx) rk fun t a=>⟨t,a,rfl⟩
  subst e1
  obtain ⟨oT,eT,cT,nT,qT⟩:=hT
  refine wpAny_bind (wpAny_holding ?_)
  refine wpAny_bind (wpAny_tryCatch ?_)
  unfold Builtin.Dict.pairItems
  refine wpAny_bind (wpAny_typeOf (show ({ s with heap:=h' }:Shared).TypeIs (.ref T) "tuple" from ⟨_,eT,cT⟩) ?_)
  rw [if_pos (by decide)]
  refine wpAny_bind (wpAny_seqItems (s:={ s with heap:=h' }) eT qT (wpAny_pure ?_))
  show wpAny _ _ (holding [Value.str (toS kx) tx,v2] (dictSet S (.str (toS kx) tx) v2)) _ _ _
  refine wpAny_holding (wpAny_dictSet_pairs (knd:=PySem.strKind Γ.prog Γ.w) (k:=toS kx) Aa6 hS' (fun h₂ hd₂ hs₂=>?_) (by rw [sizeLine_eq];simp only [List.length_cons] at hl;omega))
  rw [AcI _ (Aal hS')] at hd₂
  have M1:Mo ι ι h' h₂:=Mo.one hs₂ (.inl (J8 hSh))
  exact wpAny_pure ⟨plainId_quiet Z7 _,ih more' _ _ _ _ { s with heap:=h₂,toks:=s.toks+1 } hp' (hW.move _ _ _ _ _ st' M1 (fun b q=>q) fun b hb o e=>(hs₂.2 b fun q=>hSf (q▸hb)).trans e) (Ah4 al k alW hs₂ (U1 hd₂)) hd₂ (Ents.mono M1 (Ents.put r1 ax rd))
   (Nat.le_trans (Nat.add_le_add_right (Akq es) _) (by rw [Nat.add_assoc,Nat.add_comm 1];exact hl)) fun h₃ tk₃ es' k₃ hS₃ r₃=>hR h₃ tk₃ es' (fun b o q e=>k₃ b o q (Afq (h₁:=h') (h₂:=h') k hs₂ b o q e)) hS₃ r₃⟩
theorem Ain:∀(ds:List D) (kvs:List (List Nat×D)),W5 ds=some kvs→ds.length=kvs.length:=@List.rec D _ (fun kvs h=>by cases h;rfl) fun d ds ih kvs h=>AhU h fun x v r e1 e2 e3=>by rw [e2];exact congrArg Nat.succ (ih r e3)
theorem Ajk {z TI TO i1 i2 l1 l2:Addr}{xs ys:List D}{kvs:List (List Nat×D)}{f0 f1:Value}{Q:Value→Shared→Prop}(hh:A.handled=none)(hA:∀a∈adr ι,J6 s.heap a)(Z:StZ z TI TO i1 i2 l1 l2 (zipD xs ys) ι s.heap)(hz:s.heap.get? z=some (zObj f0 f1 TI TO))(hf:∀b∈[z,TI,TO,i1,i2],J6 s.heap b)(hp:W5 (zipD xs ys)=some kvs)(hl:kvs.length≤100000)
  (hQ:∀h' tk es,But [z,TI,TO,i1,i2] s.heap h'→h'.DictOf (PySem.strKind Γ.prog Γ.w) s.heap.objs.size es→Ents (ι.hide s.heap.objs.size) h' es (Y3 [] kvs)→Q (.ref s.heap.objs.size) { s with heap:=h',toks:=tk }) :
  wpAny Γ.M A (call (.type "dict") [.ref z]) Q E s:=by
 refine callType_codes (Q₁:=fun obj s₁=>obj=.ref s.heap.objs.size∧s₁={ s with heap:=s.heap.push { cls:=.type "dict",data:=.dict #[] } }) PySem.F.kt_called_dict (PySem.F.kt_typeCall_dict_1 _) PySem.F.entry_dict_init (kt_code_dict_new _ ⟨rfl,rfl⟩) ?_
 rintro obj s₁ ⟨rfl,rfl⟩
 have dS:s.heap.get? s.heap.objs.size=none:=X1
 have hSf:s.heap.objs.size∉[z,TI,TO,i1,i2]:=fun q=>(hf _ q).elim fun o e=>two e dS
 have hnew:(s.heap.push { cls:=.type "dict",data:=.dict #[] }).DictOf (PySem.strKind Γ.prog Γ.w) s.heap.objs.size []:=Heap.DictOf.new s.heap
 have k0:X0 s.heap (s.heap.push { cls:=.type "dict",data:=.dict #[] }):=J1
 have hW:Wk Γ A.in1.in1 z [z,TO,i1,i2] [z,TI,TO,i1,i2] (StZ z TI TO i1 i2 l1 l2):=AiF (A:=A.in1.in1) hh z TI TO i1 i2 l1 l2
 generalize s.heap.push { cls:=.type "dict",data:=.dict #[] }=H0 at *
 generalize s.heap.objs.size=S at *
 have hz1:=k0 _ _ hz
 refine ⟨hnew.typeIs,PySem.F.args_dict_init_2 _ _,?_⟩
 unfold Builtin.«dict.__init__»
 refine wpAny_bind ?_
 unfold Builtin.Dict.selfAndRest
 refine wpAny_bind (wpAny_notOrdered_dict hnew.typeIs ?_)
 show wpAny _ _ (pure (S,[Value.ref z])) _ _ _
 refine wpAny_pure ?_
 show wpAny _ _ (Builtin.Dict.updateFrom "dict.__init__" S (.ref z) [] .none) _ _ _
 unfold Builtin.Dict.updateFrom
 refine wpAny_bind (wpAny_typeOf (show ({ s with heap:=H0 }:Shared).TypeIs (.ref z) "zip" from ⟨_,hz1,rfl⟩) ?_)
 rw [if_pos (by decide)]
 refine wpAny_bind (Ajy hz1 hh fun h' tk k1=>?_)
 rw [if_pos (show (Option.isNone (none:Option Value))=true from rfl)]
 refine wpAny_bind (wpAny_rule ?_)
 have k2:X0 s.heap h':=fun b o e=>k1 b o (k0 b o e)
 have hnew':=AbC hnew fun o=>k1 S o
 have st:StZ z TI TO i1 i2 l1 l2 (zipD xs ys) (ι.hide S) h':=hW.move (zipD xs ys) ι _ s.heap h' Z (Mo.hide k2 dS) (fun a q=>List.mem_cons_of_mem _ q) fun b _ o e=>k2 b o e
 refine wpAny_bind (hW.self _ _ { s with heap:=h',toks:=tk } _ _ st ?_)
 exact wpAny_pure ⟨plainId_quiet Z7 _,AjK (ι:=ι.hide S) hW hSf List.mem_cons_self (zipD xs ys) kvs [] [] _ _ { s with heap:=h',toks:=tk } hp st (fun a ha=>W1 ha (fun q=>(hA a (J4 q)).elim fun o e=>⟨o,k2 a o e⟩) fun q=>(List.mem_cons.mp q).elim (fun q=>q.symm▸U1 hnew') fun q=>(hA a (J8 q)).elim fun o e=>⟨o,k2 a o e⟩) hnew' LR.nil
  (by rw [Ain _ _ hp];simpa using hl) fun h₂ tk₂ es' k₃ hd r=>⟨rfl,hQ h₂ tk₂ es' (fun b o hb e=>k₃ b o (fun q=>(List.mem_cons.mp q).elim (fun q=>two (q▸e) dS) fun q=>hb (hW.sub b q)) (k2 b o e)) hd r⟩⟩
end
section
variable {Γ:Wo}{n:Nat}{Φ:Fx n}{ι:Io}{s:Shared}{ρ:Ve}{σ:Hp}{Qd:D→Hp→Prop}{Xd:Nat→Hp→Prop}{Q:Value→Shared→Prop}{E:Value→Shared→Prop}{h h':Heap}{a:Nat}
theorem Mo.unhide:Mo (ι.hide a) ι h h:=Mo.less ι.hid fun b hb=>List.mem_cons_of_mem _ hb
theorem AhC {prog:Program}{w:World}{es:List (Str×Value)}(e:h.DictOf (PySem.strKind prog w) a es):W7 h a:=e.elim fun o e=>e.elim fun es' e=>e.elim fun ep e=>fun o' xs n q d=>by
 cases e.1.symm.trans q
 rw [e.2.2.1] at d
 cases d
theorem Mo.numOn (q:W7 h a):Mo ι (ι.add (a,none)) h h:=⟨List.prefix_append ..,fun b hb=>W1 hb (fun y=>(AaO y).imp J4 fun z=>Ac0 z fun (e:b=a)=>e.symm▸q) fun y=>.inl (J8 y),fun b o xs n e d nb=>e⟩
theorem Ac7 {h₀:Heap}(H:HR Γ ι σ h₀)(k:X0 h₀ h')(ha:J6 h' a):∀b∈adr (ι.hide a),J6 h' b:=fun b hb=>W1 hb (fun q=>(H.alive (J4 q)).elim fun o e=>⟨o,k b o e⟩) fun q=>(List.mem_cons.mp q).elim (fun q=>q.symm▸ha) fun q=>(H.alive (J8 q)).elim fun o e=>⟨o,k b o e⟩
noncomputable abbrev Z5 (m:Nat):List Nat:=[m+4,m+2,m+3,m,m+1]
theorem Ac9 {es:Exs}{T:String}{g:PySem.Expr}{args:List PySem.Expr}{pos:Pos}{Ko:List D→List D→Hp→Prop}(W:Good Γ)(h2:EvsOK Γ n es)(hg:V9 g (fun x p=>glob Γ.K Φ.env.scope x (isTy T))=true)(ha:zipA Γ.K Φ.env.scope (Aba Γ.K es Φ.env.scope Φ.NE) args=true)(S:SR Γ Φ ι σ ρ s.heap)
  (w:wEs (J0 n) es ρ σ (fun ds h1=>twoK ds fun a b=>X4 a fun xs=>X4 b fun ys=>Ko xs ys h1) Xd) (K:Kn Γ Φ.F VR ι s Qd Xd Q E)
  (k:∀s₁ ι₁ σ₁ xs ys h' l1 l2,HR Γ ι₁ σ₁ s₁.heap→Ko xs ys σ₁→Kn Γ Φ.F VR ι₁ s₁ Qd Xd Q E→X0 s₁.heap h'→(∀c∈Ad6 s₁.heap.objs.size,J6 h' c)→(∀b o,s₁.heap.get? b=some o→b∉Ad6 s₁.heap.objs.size) →
   ZipR (ι₁.hide (s₁.heap.objs.size+3)) h' (s₁.heap.objs.size+4) (s₁.heap.objs.size+2) (s₁.heap.objs.size+3) s₁.heap.objs.size (s₁.heap.objs.size+1) l1 l2 xs ys→wpAny Γ.M Φ.A (call (.type T) [.ref (s₁.heap.objs.size+4)]) Q E { s₁ with heap:=h' }) :
  wpAny Γ.M Φ.A (eval (.Call g args [] pos) Φ.env) Q E s :=
 X3 (P:=fun g=>wpAny Γ.M Φ.A (eval (.Call g args [] pos) Φ.env) Q E s) hg fun x p hg=>lC_i (P:=fun args=>wpAny Γ.M Φ.A (eval (.Call (.Name x p) args [] pos) Φ.env) Q E s) ha fun e1 r ha=>lN_i (P:=fun r=>wpAny Γ.M Φ.A (eval (.Call (.Name x p) (e1::r) [] pos) Φ.env) Q E s) (aL ha)
  (W4 (P:=fun e1=>wpAny Γ.M Φ.A (eval (.Call (.Name x p) [e1] [] pos) Φ.env) Q E s) (aR ha) fun zn l ks pz hz=>lN_i (P:=fun ks=>wpAny Γ.M Φ.A (eval (.Call (.Name x p) [.Call zn l ks pz] [] pos) Φ.env) Q E s) (aR (aR hz))
   (X3 (P:=fun zn=>wpAny Γ.M Φ.A (eval (.Call (.Name x p) [.Call zn l [] pz] [] pos) Φ.env) Q E s) (aL hz) fun y py hy =>
    Call_ (Adi W S hg p (callWith_of (P:=fun h=>True) rfl (fun h u=>U9 (by intro a q;cases q) h) (evalArgs_plain (args_cons (Call_ (Adi W S hy py
     (Aah (first:=[]) (Ph:=fun h=>True) (fun h u=>U9 (by intro a q;cases q) h) (fun h u=>trivial) h2 (aL (aR hz)) S (Qe:=fun ds h1=>twoK ds fun a b=>X4 a fun xs=>X4 b fun ys=>Ko xs ys h1) w K fun vs s1 ds σ1 ι1 S1 e r w K =>
      AdQ (CL:=fun vs=>wpAny Γ.M Φ.A (call (.type "zip") ([]++vs)) (fun v s'=>wpAny Γ.M Φ.A (spliced (backTo pos (starEach [] Φ.env))) (fun vs s₂=>True∧wpAny Γ.M Φ.A (call (.type T) ([]++v::vs)) Q E s₂) E s') E s1) w r.1 fun v u d e rv ru w =>
       AfS S1.hr rv ru w fun xs ys h' l1 l2 w kk al Z=>args_nil ⟨trivial,k s1 ι1 σ1 xs ys h' l1 l2 S1.hr w K kk al (fun b o e q=>two e ((Ah6 (ι:=ι1) kk al).fo b q).1) Z⟩))) rfl))))))
theorem Aga {es:Exs}(W:Good Γ)(h2:EvsOK Γ n es):EvOK Γ n (.bi .listzip es):=fun Φ x ι s σ ρ Qd Xd Q E hc S w K=>W4 (P:=fun x=>wpAny Γ.M Φ.A (eval x Φ.env) Q E s) hc fun g args ks pos hc=>lN_i (P:=fun ks=>wpAny Γ.M Φ.A (eval (.Call g args ks pos) Φ.env) Q E s) (aL hc)
 (Ac9 (T := "list") (Ko:=fun xs ys h=>grd (Nat.ble xs.length most) <| grd (Nat.ble ys.length most) <| Qd (.lst (zipD xs ys)) h) W h2 (aL (aR hc)) (aR (aR hc)) S w K fun s₁ ι₁ σ₁ xs ys h' l1 l2 H w K k al off Z=>X6 w fun hl w=>X6 w fun hl2 w =>
  Akx (s:={ s₁ with heap:=h' }) Φ.Rm.hh (Ac7 H k (al _ (List.mem_cons_of_mem _ (List.mem_cons_of_mem _ List.mem_cons_self)))) ⟨List.mem_cons_self,xs,ys,rfl,Z⟩ (Aaj (s:={ s₁ with heap:=h' }) Z) al (Y2 hl) fun h₂ acc c' k₂ g r =>
   have k₃:X0 s₁.heap h₂:=fun b o e=>k₂ b o (off b o e) (k b o e)
   K.more H k₃ (vLst (Z8 g) (H.fresh (dead (AdB k) X1)) (VRs.mono Mo.unhide (VRs.mono Mo.unhide r))) w)
theorem Af4 {es:Exs}(W:Good Γ)(h2:EvsOK Γ n es):EvOK Γ n (.bi .dictzip es):=fun Φ x ι s σ ρ Qd Xd Q E hc S w K=>W4 (P:=fun x=>wpAny Γ.M Φ.A (eval x Φ.env) Q E s) hc fun g args ks pos hc=>lN_i (P:=fun ks=>wpAny Γ.M Φ.A (eval (.Call g args ks pos) Φ.env) Q E s) (aL hc)
 (Ac9 (T := "dict") (Ko:=fun xs ys h=>J9 (W5 (zipD xs ys)) fun kvs=>grd (Nat.ble kvs.length most) <| Qd (.loc h.length) (h++[AO.dict (Y3 [] kvs)])) W h2 (aL (aR hc)) (aR (aR hc)) S w K fun s₁ ι₁ σ₁ xs ys h' l1 l2 H w K k al off Z=>Y6 w fun kvs hp w=>X6 w fun hl w =>
  Z.elim fun f0 Z0=>Z0.elim fun f1 Z0=>Z0.elim fun a0 Z0=>Z0.elim fun b0 Z0=>Ajk (s:={ s₁ with heap:=h' }) Φ.Rm.hh (Ac7 H k (al _ (List.mem_cons_of_mem _ (List.mem_cons_of_mem _ List.mem_cons_self)))) ⟨List.mem_cons_self,xs,ys,rfl,Z⟩ Z0.1.hz al hp (Y2 hl) fun h₂ tk es' k₂ g r =>
   have k₃:X0 s₁.heap h₂:=fun b o e=>k₂ b o (off b o e) (k b o e)
   Kn.numNew (s:=s₁) (h':=h₂) (o:=.dict (Y3 [] kvs)) (t:=tk) K H k₃ (dead (AdB k) X1) (H.sys.elim fun o e=>Heap.lt_size (k _ _ (H.stay _ o e))) (fun m=>DicO.mk g (Ents.mono (Mo.numOn (AhC g)) (Ents.mono Mo.unhide (Ents.mono Mo.unhide r)))) w)
end
end Mine
end
section
namespace Mine
noncomputable def isCo (e:Ex):Bool:=@Ex.casesOn (fun e=>Bool) e (fun x=>false) (fun x=>false) (fun x=>false) (fun x=>false) (fun x=>false) (fun x=>false) (fun x y=>false) (fun x y=>false) (fun x y=>false) (fun x=>false) (fun x y=>false) (fun x y=>false) (fun x y=>false) (fun x y z=>false) (fun x y=>false) (fun x y=>false) (fun x y z=>false) (fun x y=>false) (fun x=>false) (fun x y z=>false) (fun x y z=>false) (fun x y z=>false) (fun x y z=>true) (fun x y z u=>true) (fun x y z u v=>true) false
noncomputable abbrev TP (env:PEnv)(whole:Sem Value)(x:PySem.Expr):Prop:=PySem.isTrue x env whole=(do let v ←whole;standAt x.pos;holding [v] (truthy v))
structure Sd (Γ:Wo)(n:Nat)(e:Ex):Prop where
 ev:EvOK Γ n e
 tr:TrOK Γ n e
 co:isCo e=true→CoOK Γ n e
section
variable {Γ:Wo}{n:Nat}
theorem X8 {e:Ex}(h:EvOK Γ n e)(q:isCo e=false)(hp:∀sc NE x env whole,chkE Γ.K e sc NE x=true→TP env whole x):Sd Γ n e:=⟨h,Afi h hp,fun z=>bF z q⟩
theorem AlX {e:Ex}(h:CoOK Γ n e)(hp:∀sc NE x env whole,chkE Γ.K e sc NE x=true→TP env whole x):Sd Γ n e:=⟨Afz h,Afi (Afz h) hp,fun z=>h⟩
theorem AbL {env:PEnv}{whole:Sem Value}{x:PySem.Expr}{f:PySem.Expr→List PySem.Expr→List PySem.Keyword→Pos→Bool}(hc:AbJ x f=true):TP env whole x:=W4 (P:=TP env whole) hc fun a b c d q=>rfl
theorem Ah9 {env:PEnv}{whole:Sem Value}{x:PySem.Expr}{f:PySem.Expr→PySem.Expr→Pos→Bool}(hc:V2 x f=true):TP env whole x:=V6 (P:=TP env whole) hc fun a b c q=>rfl
theorem AiY {env:PEnv}{whole:Sem Value}{x:PySem.Expr}{f:List PySem.Expr→Pos→Bool}(hc:AiA x f=true):TP env whole x:=Adx (P:=TP env whole) hc fun a b q=>rfl
theorem AeP {env:PEnv}{whole:Sem Value}{x:PySem.Expr}{f:PySem.Expr→List Comprehension→PySem.Scope→Pos→Bool}(hc:Aaa x f=true):TP env whole x:=AaI (P:=TP env whole) hc fun a b c d q=>rfl
theorem Aam (W:Good Γ)(C:AaJ Γ n)(e:Ex):Sd Γ n e :=
 @Ex.rec (Sd Γ n) (AllOK Γ n)
  (fun d=>X8 (ApM W) rfl fun sc NE x env whole hc=>(oR hc).elim (fun hc=>W0 (P:=TP env whole) hc fun a b c q=>rfl) fun hc=>X3 (P:=TP env whole) hc fun a b q=>rfl)
  (fun k=>X8 Ao3 rfl fun sc NE x env whole hc=>Aax (P:=TP env whole) hc fun op v p q=>bE (aL q)▸rfl)
  (fun i=>X8 ApX rfl fun sc NE x env whole hc=>X3 (P:=TP env whole) hc fun a b q=>rfl)
  (fun es h=>X8 (An0 (Z9 h)) rfl fun sc NE x env whole hc=>Aan (P:=TP env whole) hc fun a b c q=>rfl)
  (fun es h=>X8 (Aj6 (Z9 h)) rfl fun sc NE x env whole=>AiY)
  (fun es h=>X8 (Aj3 (Z9 h)) rfl fun sc NE x env whole=>AiY)
  (fun ks es h=>X8 (Aj7 h) rfl fun sc NE x env whole hc=>AgW (P:=TP env whole) hc fun a b c q=>rfl)
  (fun a i h1 h2=>X8 (Anh h1.ev h2.ev) rfl fun sc NE x env whole=>Ah9)
  (fun es i h1 h2=>X8 (Aj9 (Z9 h1) h2.ev) rfl fun sc NE x env whole=>Ah9)
  (fun a h=>X8 (Apo h.ev) rfl fun sc NE x env whole=>Ah9)
  (fun a i h=>X8 (Ana W h.ev) rfl fun sc NE x env whole hc=>Z3 (P:=TP env whole) hc fun a b c q=>rfl)
  (fun f es h=>X8 (Al0 W C (Z9 h)) rfl fun sc NE x env whole=>AbL)
  (fun f es h=>X8 (AkM W C (Z9 h)) rfl fun sc NE x env whole=>AbL)
  (fun a o es h1 h2=>X8 (Anx W C h1.ev (Z9 h2)) rfl fun sc NE x env whole=>AbL)
  (fun c es h=>X8 (ApP W C (Z9 h)) rfl fun sc NE x env whole=>AbL)
  (fun b es h=>X8 ((Classical.em (b=.dictzip)).elim (fun q=>q▸Af4 W (Z9 h)) fun q1=>(Classical.em (b=.listzip)).elim (fun q=>q▸Aga W (Z9 h)) fun q2=>Ark q1 q2 W h) rfl fun sc NE x env whole=>AbL)
  (fun b o es h1 h2=>X8 (ArZ h1.ev (Z9 h2)) rfl fun sc NE x env whole=>AbL)
  (fun a es h=>⟨Akv h,Akj h,fun z=>ffE z⟩)
  (fun a h=>⟨ApT h.ev,AoY h.tr,fun z=>ffE z⟩)
  (fun op a b h1 h2=>⟨AnO h1.ev h2.ev,An9 h1.ev h2.ev,fun z=>ffE z⟩)
  (fun op a b h1 h2=>X8 (Aql h1.ev h2.ev) rfl fun sc NE x env whole hc=>AfY (P:=TP env whole) hc fun a b c d q=>rfl)
  (fun c a b h0 h1 h2=>⟨ApO h0.tr h1.ev h2.ev,AoF h0.tr h1.tr h2.tr,fun z=>ffE z⟩)
  (fun x t it h1 h2=>AlX (AmV h1.ev h2.ev) fun sc NE x env whole=>AeP)
  (fun x t it c h1 h2 h3=>AlX (Aku h1.ev h2.ev h3.tr) fun sc NE x env whole=>AeP)
  (fun x i j a b h1 h2 h3=>AlX (Ai9 W h1.ev (Z9 (.cons h2.ev h2.tr (.cons h3.ev h3.tr .nil)))) fun sc NE x env whole=>AeP)
  ⟨AjF,Ai7,fun z=>ffE z⟩ .nil (fun e es h1 h2=>.cons h1.ev h1.tr h2) e
theorem AhY (W:Good Γ)(C:AaJ Γ n)(es:Exs):AllOK Γ n es:=@Exs.rec (fun e=>True) (AllOK Γ n) (fun d=>trivial) (fun d=>trivial) (fun d=>trivial) (fun es h=>trivial) (fun es h=>trivial) (fun es h=>trivial) (fun ks es h=>trivial) (fun a i h1 h2=>trivial) (fun a i h1 h2=>trivial) (fun a h=>trivial) (fun a i h=>trivial) (fun a es h=>trivial) (fun a es h=>trivial) (fun a o es h1 h2=>trivial) (fun a es h=>trivial) (fun a es h=>trivial) (fun a o es h1 h2=>trivial) (fun a es h=>trivial) (fun a h=>trivial) (fun op a b h1 h2=>trivial) (fun op a b h1 h2=>trivial) (fun c a b h1 h2 h3=>trivial) (fun x t it h1 h2=>trivial) (fun x t it c h1 h2 h3=>trivial) (fun x i j a b h1 h2 h3=>trivial) trivial .nil (fun e es h1 h2=>.cons (Aam W C e).ev (Aam W C e).tr h2) es
end
end Mine
end
section
namespace Mine
noncomputable def ownE (env:PEnv):List Nat:=env.locals::env.cells.filterMap fun p=>env.cells.lookup p.1
noncomputable def FlR (ι:Io)(h:Heap)(v:Flow)(f:Fl):Prop:=@Fl.casesOn (fun f=>Prop) f (v=.next) (v=.cont) (fun d=>∃u,v=.ret u∧VR ι h u d)
theorem Aau {env:PEnv}{loc:Bool}{own:List Nat}(h:Ahv env loc own):∀b∈own,b∈ownE env:=fun b hb=>(h b hb).1.elim (fun q=>q▸List.mem_cons_self) fun q=>q.elim fun y q=>List.mem_cons_of_mem _ (List.mem_filterMap.mpr ⟨(y,b),mem_of_lookup q,q⟩)
theorem AgP {env:PEnv}:Ahv env false (ownE env):=fun b hb=>⟨(List.mem_cons.mp hb).elim .inl fun q=>(List.mem_filterMap.mp q).elim fun p e=>.inr ⟨p.1,e.2⟩,fun q=>nomatch q⟩
theorem Amr {env:PEnv}{b:Nat}(h:Aej env b):b∉ownE env:=fun q=>(AgP b q).1.elim h.1 fun y=>y.elim fun x e=>h.2 x b e rfl
structure Ks (Γ:Wo){n:Nat}(Φ:Fx n)(ι:Io)(s:Shared)(Qd:Fl→Ve→Hp→Prop)(Xd:Nat→Ve→Hp→Prop)(Q:Flow→Shared→Prop)(E:Value→Shared→Prop):Prop where
 ok:∀v ι' h' tk' f ρ' σ',Ext Φ.F (ownE Φ.env) ι ι' s.heap h'→SR Γ Φ ι' σ' ρ' h'→FlR ι' h' v f→Qd f ρ' σ'→Q v (upd s h' tk')
 ex:∀x ι' h' tk' c ρ' σ',Ext Φ.F (ownE Φ.env) ι ι' s.heap h'→SR Γ Φ ι' σ' ρ' h'→ExcR Γ.base s.heap h' x (clsA c) false→Xd c ρ' σ'→E (.ref x) (upd s h' tk')
section
variable {Γ:Wo}{n:Nat}{Φ:Fx n}{ι ι':Io}{s:Shared}{σ σ':Hp}{ρ ρ':Ve}{h':Heap}{tk':Nat}{Qd:Fl→Ve→Hp→Prop}{Xd:Nat→Ve→Hp→Prop}{Q:Flow→Shared→Prop}{E:Value→Shared→Prop}
theorem Ks.later (K:Ks Γ Φ ι s Qd Xd Q E)(X:Ext Φ.F (ownE Φ.env) ι ι' s.heap h'):Ks Γ Φ ι' (upd s h' tk') Qd Xd Q E :=
 ⟨fun v ι₂ h₂ tk₂ f ρ₂ σ₂ e S r q=>K.ok v ι₂ h₂ tk₂ f ρ₂ σ₂ (X.trans e) S r q,fun x ι₂ h₂ tk₂ c ρ₂ σ₂ e S r q=>K.ex x ι₂ h₂ tk₂ c ρ₂ σ₂ (X.trans e) S (r.lower X.live) q⟩
theorem Ks.now {f:Fl}{v:Flow}(K:Ks Γ Φ ι s Qd Xd Q E)(S:SR Γ Φ ι σ ρ s.heap)(r:FlR ι s.heap v f)(q:Qd f ρ σ):Q v s:=K.ok v ι s.heap s.toks f ρ σ Ext.refl S r q
theorem EvOK.st {e:Ex}{x:PySem.Expr}{Qe:D→Hp→Prop}{Q':Value→Shared→Prop}(h:EvOK Γ n e)(hc:chkE Γ.K e Φ.env.scope Φ.NE x=true)(S:SR Γ Φ ι σ ρ s.heap)(w:wE (J0 n) e ρ σ Qe (fun c h1=>Xd c ρ h1))(K:Ks Γ Φ ι s Qd Xd Q E)
  (k:∀v s1 d σ1 ι1,SR Γ Φ ι1 σ1 ρ s1.heap→Ext Φ.F [] ι ι1 s.heap s1.heap→VR ι1 s1.heap v d→Qe d σ1→Ks Γ Φ ι1 s1 Qd Xd Q E→Q' v s1):wpAny Γ.M Φ.A (eval x Φ.env) Q' E s :=
 h Φ x ι s σ ρ Qe (fun c h1=>Xd c ρ h1) Q' E hc S w ⟨fun v ι' h' tk' d σ' e H r q=>k v _ d σ' ι' (S.ext e H) e r q (K.later e.wide),fun x ι' h' tk' c σ' e H r q=>K.ex x ι' h' tk' c ρ σ' e.wide (S.ext e H) r q⟩
theorem TrOK.st {e:Ex}{x:PySem.Expr}{P R:Hp→Prop}{Q':Bool→Shared→Prop}(h:TrOK Γ n e)(hc:chkE Γ.K e Φ.env.scope Φ.NE x=true)(S:SR Γ Φ ι σ ρ s.heap)(w:wE (J0 n) e ρ σ (fun d h=>br d (P h) (R h)) (fun c h1=>Xd c ρ h1))(K:Ks Γ Φ ι s Qd Xd Q E)
  (kt:∀s1 σ1 ι1,SR Γ Φ ι1 σ1 ρ s1.heap→Ext Φ.F [] ι ι1 s.heap s1.heap→P σ1→Ks Γ Φ ι1 s1 Qd Xd Q E→Q' true s1) (kf:∀s1 σ1 ι1,SR Γ Φ ι1 σ1 ρ s1.heap→Ext Φ.F [] ι ι1 s.heap s1.heap→R σ1→Ks Γ Φ ι1 s1 Qd Xd Q E→Q' false s1):wpAny Γ.M Φ.A (PySem.isTrue x Φ.env (eval x Φ.env)) Q' E s :=
 h Φ x ι s σ ρ P R (fun c h1=>Xd c ρ h1) Q' E hc S w ⟨fun v ι' h' tk' d σ' e H r q=>by
  subst r
  cases v
  ·exact kf _ σ' ι' (S.ext e H) e q (K.later e.wide)
  ·exact kt _ σ' ι' (S.ext e H) e q (K.later e.wide),fun x ι' h' tk' c σ' e H r q=>K.ex x ι' h' tk' c ρ σ' e.wide (S.ext e H) r q⟩
noncomputable abbrev cbk (Γ:Wo){n:Nat}(Φ:Fx n)(E:Value→Shared→Prop):Value→Shared→Prop:=notedBy Γ.M Φ.A Φ.env (cameBackBy Γ.M Φ.A Φ.env E)
theorem Ks.noted (K:Ks Γ Φ ι s Qd Xd Q E)(hb0:Abw Γ.base s.heap):Ks Γ Φ ι s Qd Xd Q (cbk Γ Φ E):=⟨K.ok,fun x ι' h₁ tk₁ c ρ' σ' e S₁ X q=>by
 obtain ⟨e0,r0,L,hd1,hd2,hL⟩:=S₁.tp
 refine Aai (s:=upd s h₁ tk₁) Φ.hf ⟨e0,r0,hd1,hd2⟩ S₁.ff.ff hL X S₁.hr.stay e.live fun h₂ t₂ X₂=>?_
 have S₂:=S₁.touch t₂ hb0
 refine wpAny_bind (Ab0 (s:=upd s h₂ tk₁) X₂ fun T=>?_)
 rw [if_neg (by simp)]
 exact V5 (s:=upd s h₂ tk₁) S₂.ff.ff X₂ fun h₃ t₃ X₃=>K.ex x ι' h₃ tk₁ c ρ' σ' (t₃.ext (t₂.ext e)) (S₂.touch t₃ hb0) X₃.loose q⟩
noncomputable def StOK (Γ:Wo)(n:Nat)(st:St):Prop:=∀(Φ:Fx n) (x:PySem.Stmt) (ι:Io) (s:Shared) (σ:Hp) (ρ:Ve) (Qd:Fl→Ve→Hp→Prop) (Xd:Nat→Ve→Hp→Prop) (Q:Flow→Shared→Prop) (E:Value→Shared→Prop),
 chkS Γ.K Φ.env.scope Φ.NE st x=true→SR Γ Φ ι σ ρ s.heap→wS (J0 n) st ρ σ Qd Xd→Ks Γ Φ ι s Qd Xd Q E→wpAny Γ.M Φ.A (exec x Φ.env) Q E s
noncomputable def Acf (Γ:Wo)(n:Nat)(ss:Sts):Prop:=∀(Φ:Fx n) (l:List PySem.Stmt) (ι:Io) (s:Shared) (σ:Hp) (ρ:Ve) (Qd:Fl→Ve→Hp→Prop) (Xd:Nat→Ve→Hp→Prop) (Q:Flow→Shared→Prop) (E:Value→Shared→Prop),
 AkD Γ.K Φ.env.scope Φ.NE ss l=true→SR Γ Φ ι σ ρ s.heap→wSs (J0 n) ss ρ σ Qd Xd→Ks Γ Φ ι s Qd Xd Q E→wpAny Γ.M Φ.A (execs l Φ.env) Q E s
theorem AoB:Acf Γ n .nil:=fun Φ l ι s σ ρ Qd Xd Q E hc S w K=>lN_i (P:=fun l=>wpAny Γ.M Φ.A (execs l Φ.env) Q E s) hc (wpAny_execs_nil (K.now S (f:=.nx) rfl w))
theorem fl_i {ι:Io}{h:Heap}{v:Flow}{f:Fl}{P:Flow→Fl→Prop}(r:FlR ι h v f)(k1:P .next .nx)(k2:P .cont .ct)(k3:∀u d,VR ι h u d→P (.ret u) (.rt d)):P v f :=
 @Fl.casesOn (fun f=>FlR ι h v f→P v f) f (fun r=>(show v=.next from r)▸k1) (fun r=>(show v=.cont from r)▸k2) (fun d r=>r.elim fun u e=>e.1▸k3 u d e.2) r
theorem Anm {x:St}{xs:Sts}(h1:StOK Γ n x)(h2:Acf Γ n xs):Acf Γ n (.cons x xs):=fun Φ l ι s σ ρ Qd Xd Q E hc S w K=>lC_i (P:=fun l=>wpAny Γ.M Φ.A (execs l Φ.env) Q E s) hc fun y l hc =>
 wpAny_execs_cons (h1 Φ y ι s σ ρ (fun f ρ' h1=>flK f (wSs (J0 n) xs ρ' h1 Qd Xd) (Qd f ρ' h1)) Xd _ E (aL hc) S w ⟨fun v ι' h' tk' f ρ' σ' e S' r q=>fl_i (P:=fun v f=>flK f (wSs (J0 n) xs ρ' σ' Qd Xd) (Qd f ρ' σ')→(match v with|.next=>wpAny Γ.M Φ.A (execs l Φ.env) Q E (upd s h' tk')|f=>Q f (upd s h' tk'))) r
  (fun q=>h2 Φ l ι' _ σ' ρ' Qd Xd Q E (aR hc) S' q (K.later e)) (fun q=>K.ok .cont ι' h' tk' .ct ρ' σ' e S' rfl q) (fun u d r q=>K.ok (.ret u) ι' h' tk' (.rt d) ρ' σ' e S' ⟨u,rfl,r⟩ q) q,K.ex⟩)
theorem Aom {env:PEnv}(h:env.scope.kind=.function):interactive env=false:=by unfold interactive;rw [h];rfl
theorem Aag {v:PySem.Expr}{o:Option PySem.Expr}{line:Nat}{env:PEnv}(h:Acw v=false):swapsWith v o line env=pure false :=
 @PySem.Expr.casesOn (fun v=>Acw v=false→swapsWith v o line env=pure false) v (fun x0 x1 x2 h=>rfl) (fun x0 x1 x2 h=>rfl) (fun x0 x1 x2 x3 h=>rfl) (fun x0 x1 x2 h=>rfl) (fun x0 x1 x2 x3 h=>rfl) (fun x0 x1 x2 x3 h=>rfl) (fun x0 x1 x2 h=>rfl) (fun x0 x1 x2 h=>rfl) (fun x0 x1 x2 x3 (h:true=false)=>ffE h.symm) (fun x0 x1 x2 x3 (h:true=false)=>ffE h.symm) (fun x0 x1 x2 x3 x4 (h:true=false)=>ffE h.symm) (fun x0 x1 x2 x3 h=>rfl) (fun x0 x1 h=>rfl) (fun x0 x1 h=>rfl) (fun x0 x1 h=>rfl) (fun x0 x1 x2 x3 h=>rfl) (fun x0 x1 x2 x3 h=>rfl) (fun x0 x1 x2 x3 h=>rfl) (fun x0 x1 h=>rfl) (fun x0 x1 x2 h=>rfl) (fun x0 x1 x2 h=>rfl) (fun x0 x1 x2 h=>rfl) (fun x0 x1 h=>rfl) (fun x0 x1 h=>rfl) (fun x0 x1 h=>rfl) (fun x0 x1 x2 h=>rfl) (fun x0 x1 x2 x3 h=>rfl) h
theorem AsW {e:Ex}(h:EvOK Γ n e):StOK Γ n (.ex e):=fun Φ x ι s σ ρ Qd Xd Q E hc S w K=>AgY (P:=fun x=>wpAny Γ.M Φ.A (exec x Φ.env) Q E s) hc fun v p hc =>
 wpAny_Expr_any (h.st (aL hc) S (Qe:=fun d h1=>Qd .nx ρ h1) w K fun v s1 d σ1 ι1 S1 e r w K=>K.now S1 (f:=.nx) rfl w) (Aom S.fr.kind) (Aag (nT (aR hc)))
theorem Apm {e:Ex}(h:EvOK Γ n e):StOK Γ n (.ret e):=fun Φ x ι s σ ρ Qd Xd Q E hc S w K=>Ad8 (P:=fun x=>wpAny Γ.M Φ.A (exec x Φ.env) Q E s) hc fun o p hc=>(oR hc).elim
 (fun hc=>oN_i (P:=fun o=>wpAny Γ.M Φ.A (exec (.Return o p) Φ.env) Q E s) (aL hc) (wpAny_Return_none (K.now S (f:=.rt .none) ⟨.none,rfl,Ad0⟩ (Alw (P:=fun e=>wS (J0 n) (.ret e) ρ σ Qd Xd→Qd (.rt .none) ρ σ) (aR hc) (fun w=>w) w))))
 fun hc=>oS_i (P:=fun o=>wpAny Γ.M Φ.A (exec (.Return o p) Φ.env) Q E s) hc fun v hc=>wpAny_Return_some (h.st hc S (Qe:=fun d h1=>Qd (.rt d) ρ h1) w K fun v s1 d σ1 ι1 S1 e r w K=>K.now S1 (f:=.rt d) ⟨v,rfl,r⟩ w)
theorem AlY:StOK Γ n .cont:=fun Φ x ι s σ ρ Qd Xd Q E hc S w K=>AcA (P:=fun x=>wpAny Γ.M Φ.A (exec x Φ.env) Q E s) hc fun p hc=>wpAny_Continue (K.now S (f:=.ct) rfl w)
theorem AjZ:StOK Γ n .stuck:=fun Φ x ι s σ ρ Qd Xd Q E hc S w K=>hiE w
theorem ApQ {c:Ex}{a b:Sts}(h:TrOK Γ n c)(h1:Acf Γ n a)(h2:Acf Γ n b):StOK Γ n (.iff c a b):=fun Φ x ι s σ ρ Qd Xd Q E hc S w K=>Arh (P:=fun x=>wpAny Γ.M Φ.A (exec x Φ.env) Q E s) hc fun t x y p hc =>
 wpAny_If (h.st (aL hc) S (P:=fun h1=>wSs (J0 n) a ρ h1 Qd Xd) (R:=fun h1=>wSs (J0 n) b ρ h1 Qd Xd) w K (fun s1 σ1 ι1 S1 e w K=>h1 Φ x ι1 s1 σ1 ρ Qd Xd Q E (aL (aR hc)) S1 w K) fun s1 σ1 ι1 S1 e w K=>h2 Φ y ι1 s1 σ1 ρ Qd Xd Q E (aR (aR hc)) S1 w K)
theorem Aoe {c:Ex}{b:Sts}(h:TrOK Γ n c)(h1:Acf Γ n b):StOK Γ n (.whl c b):=fun Φ x ι s σ ρ Qd Xd Q E hc S w K=>Ai4 (P:=fun x=>wpAny Γ.M Φ.A (exec x Φ.env) Q E s) hc fun t body el p hc=>lN_i (P:=fun el=>wpAny Γ.M Φ.A (exec (.While t body el p) Φ.env) Q E s) (aL hc)
 (wpAny_While (codeAny_whileLoop (fun k s₁=>∃ι₁ σ₁ ρ₁,SR Γ Φ ι₁ σ₁ ρ₁ s₁.heap∧WH (J0 n) c b k ρ₁ σ₁ Qd Xd∧Ks Γ Φ ι₁ s₁ Qd Xd Q (cbk Γ Φ E)) (fun k s₁ hq=>hq.elim fun ι₁ hq=>hq.elim fun σ₁ hq=>hq.elim fun ρ₁ hq =>
  @Nat.casesOn (fun k=>WH (J0 n) c b k ρ₁ σ₁ Qd Xd→wpAny Γ.M Φ.A (PySem.isTrue t Φ.env (eval t Φ.env)) (fun bb s₂=>if bb=true then wpAny Γ.M Φ.A (execs body Φ.env) (fun f s₃=>match f with
      |.next|.cont=>∃m,m < k∧∃ι₁ σ₁ ρ₁,SR Γ Φ ι₁ σ₁ ρ₁ s₃.heap∧WH (J0 n) c b m ρ₁ σ₁ Qd Xd∧Ks Γ Φ ι₁ s₃ Qd Xd Q (cbk Γ Φ E)
      |.brk=>Q .next s₃
      |.ret v=>Q (.ret v) s₃) (cbk Γ Φ E) s₂ else wpAny Γ.M Φ.A (execs [] Φ.env) (fun f s₃=>Q f s₃) (cbk Γ Φ E) s₂) (cbk Γ Φ E) s₁) k (fun w=>hiE w) (fun k w =>
   h.st (aL (aR hc)) hq.1 (P:=fun h1=>wSs (J0 n) b ρ₁ h1 (fun f ρ' h2=>lpK0 f (WH (J0 n) c b k ρ' h2 Qd Xd) (Qd f ρ' h2)) Xd) (R:=fun h1=>Qd .nx ρ₁ h1) w hq.2.2
    (fun s1 σ1 ι1 S1 e w K=>by
     rw [if_pos rfl]
     exact h1 Φ body ι1 s1 σ1 ρ₁ (fun f ρ' h2=>lpK0 f (WH (J0 n) c b k ρ' h2 Qd Xd) (Qd f ρ' h2)) Xd _ _ (aR (aR hc)) S1 w ⟨fun v ι' h' tk' f ρ' σ' e S' r q=>fl_i (P:=fun v f=>lpK0 f (WH (J0 n) c b k ρ' σ' Qd Xd) (Qd f ρ' σ')→(match v with
       |.next|.cont=>∃m,m < k+1∧∃ι₁ σ₁ ρ₁,SR Γ Φ ι₁ σ₁ ρ₁ h'∧WH (J0 n) c b m ρ₁ σ₁ Qd Xd∧Ks Γ Φ ι₁ (upd s1 h' tk') Qd Xd Q (cbk Γ Φ E)
       |.brk=>Q .next (upd s1 h' tk')
       |.ret v=>Q (.ret v) (upd s1 h' tk'))) r (fun q=>⟨k,Nat.lt_succ_self k,ι',σ',ρ',S',q,K.later e⟩) (fun q=>⟨k,Nat.lt_succ_self k,ι',σ',ρ',S',q,K.later e⟩) (fun u d r q=>K.ok (.ret u) ι' h' tk' (.rt d) ρ' σ' e S' ⟨u,rfl,r⟩ q) q,K.ex⟩)
    fun s1 σ1 ι1 S1 e w K=>by
     rw [if_neg Bool.false_ne_true]
     exact wpAny_execs_nil (K.now S1 (f:=.nx) rfl w)) hq.2.1) Af2 ⟨ι,σ,ρ,S,w,K.noted S.base0⟩))
end
end Mine
end
section
namespace Mine
theorem gone (h:Heap)(C:Nat):∃h₀,Heap.SameBut C h h₀∧h₀.get? C=none:=by
 refine ⟨h.update C fun o=>{ o with data:=.freed },Heap.SameBut.update ..,?_⟩
 cases e:(h.update C fun o=>{ o with data:=.freed }).get? C with
 |none=>rfl
 |some o =>
  obtain ⟨e1,e2⟩:=Heap.get?_some_iff.mp e
  cases h with
  |mk objs life =>
   simp only [Heap.update,Array.getElem?_modify,if_true] at e1
   cases q:objs[C]? with
   |none=>rw [q] at e1;cases e1
   |some o'=>rw [q] at e1;cases e1;cases e2
section
variable {Γ:Wo}{n:Nat}{Φ:Fx n}{ι ι':Io}{s:Shared}{σ σ':Hp}{ρ ρ':Ve}{h h' h₃:Heap}{tk':Nat}{Qd:Fl→Ve→Hp→Prop}{Xd:Nat→Ve→Hp→Prop}{Q:Flow→Shared→Prop}{E:Value→Shared→Prop}{FL own:List Nat}{I:Nat}
theorem Ext.skip (X:Ext FL own ι ι' h h')(k:But [I] h' h₃)(hI:h.get? I=none):Ext FL own ι ι' h h₃ :=
 have ne:∀{b o},h.get? b=some o→b∉[I]:=fun e q=>two (List.mem_singleton.mp q▸e) hI
 ⟨X.pre,X.same,fun b o e=>(X.live b o e).elim fun o' e'=>⟨o',k b o' (ne e) e'⟩,X.new,fun b o e h1 h2 h3=>k b o (ne e) (X.keep b o e h1 h2 h3),fun b o e h1 h2=>(X.slot b o e h1 h2).elim fun sl e'=>⟨sl,k b _ (ne e) e'⟩⟩
theorem SR.off (S:SR Γ Φ ι σ ρ h)(k:But [I] h h')(h1:I∉adr ι)(h2:Γ.base.get? I=none)(h3:I∉Φ.F)(h4:Aej Φ.env I)(h5:W7 h I):SR Γ Φ ι σ ρ h' :=
 have e:∀b∈[I],b=I:=fun b hb=>List.mem_singleton.mp hb
 have kk:∀{b},b≠I→∀o,h.get? b=some o→h'.get? b=some o:=fun q o=>k _ o fun z=>q (e _ z)
 have ow:AcF ι h [I]:=fun b hb=>.inr (e b hb▸h5)
 S.move (S.hr.but k ow (fun b hb=>⟨fun z=>h1 (e b hb▸J4 z),e b hb▸h2⟩) fun b hb hh=>absurd (J8 (e b hb▸hh)) h1) (S.ff.mk' (fun b hb m q=>⟨m,Abj q (kk fun z=>h3 (z▸hb))⟩) S.ff.off)
  (fun m q=>Abj q (kk fun z=>h4.1 z.symm)) (fun x c q v y=>AeQ y (kk fun z=>h4.2 x c q z.symm)) (fun b al q=>q) (Mo.but k ow)
theorem SR.notOwn (S:SR Γ Φ ι σ ρ h)(hI:h.get? I=none):Aej Φ.env I:=⟨fun q=>S.fr.ns.elim fun m y=>(AaZ y).elim fun o e=>two (q▸e) hI,fun x c e q=>(S.fr.cell x c e).elim fun v y=>(Aaw y).elim fun o e=>two (q▸e) hI⟩
theorem Aiw {t:Tg}{target:PySem.Expr}{v:Value}{d:D}{P:Unit→Shared→Prop}(hc:chkT Φ.env.scope Φ.NE t target=true)(S:SR Γ Φ ι σ ρ s.heap)(r:VR ι s.heap v d)(w:J9 (t.set d ρ) fun ρ'=>Qd .nx ρ' σ)(K:Ks Γ Φ ι s Qd Xd Q E)(hP:∀s',Q .next s'→P () s'):wpAny Γ.M Φ.A (assign target Φ.env v) P E s :=
 Y6 w fun ρ' e w=>Abq (loc:=false) Φ.Rm.hh hc (fun z=>nomatch z) S r e fun h' tk' own ho e1 S1=>hP _ (K.ok .next ι h' tk' .nx ρ' σ (e1.widen (Aau ho)) S1 rfl w)
theorem Abl {t:Tg}{target v:PySem.Expr}{pos:Pos}{e:Ex}(h:EvOK Γ n e)(hc:chkT Φ.env.scope Φ.NE t target=true)(ce:chkE Γ.K e Φ.env.scope Φ.NE v=true)(S:SR Γ Φ ι σ ρ s.heap)(w:wS (J0 n) (.asn t e) ρ σ Qd Xd)(K:Ks Γ Φ ι s Qd Xd Q E)(ha:(assignEach [target] Φ.env).map (·.2)=[assign target Φ.env])
  (hs:swapsWithSole [target] v pos.line Φ.env=pure false) (hw:swappedStores [target] v Φ.env=pure none):wpAny Γ.M Φ.A (exec (.Assign [target] v pos) Φ.env) Q E s :=
 wpAny_Assign_stores (h.st ce S (Qe:=fun d h1=>J9 (t.set d ρ) fun ρ'=>Qd .nx ρ' h1) w K fun v s1 d σ1 ι1 S1 e1 r w K=>by
  rw [ha]
  show wpAny Γ.M Φ.A (assign target Φ.env v) _ E s1
  exact Aiw hc S1 r w K fun s' q=>q) hs hw
theorem Ag9 {t:Tg}{target:PySem.Expr}{C:Addr}{acc:Value}{res:Result}{s':Shared}(hc:chkT Φ.env.scope Φ.NE t target=true)(K:Ks Γ Φ ι s Qd Xd Q E)
  (P:compPost Γ.M Φ.A E none (fun v s₁=>∃d σ₁ ι₁,Ext Φ.F [] ι ι₁ s.heap s₁.heap∧SR Γ Φ ι₁ σ₁ ρ s₁.heap∧VR ι₁ s₁.heap v d∧(∃t,s₁=upd s s₁.heap t)∧J9 (t.set d ρ) fun ρ'=>Qd .nx ρ' σ₁) acc C res s') :
  compPost Γ.M Φ.A E (some (assign target Φ.env)) (fun u s'=>Q .next s') acc C res s':=by
 cases res with
 |error x=>exact P
 |ok f =>
  obtain ⟨m,hn,P⟩:=P
  obtain ⟨h₀,hs₀,hC⟩:=gone s'.heap C
  obtain ⟨d,σ₁,ι₁,e1,S1,r1,hu,w⟩:=P h₀ hs₀
  have k0:X0 h₀ s'.heap:=fun b o e=>(hs₀.2 b fun z=>two (z▸e) hC).symm.trans e
  have S2:SR Γ Φ ι₁ σ₁ ρ s'.heap:=S1.more k0
  have c1:C∉adr ι₁:=S1.hr.fresh hC
  have c3:=S1.notOwn hC
  refine Y6 w fun ρ' q w=>?_
  show wpAny Γ.M Φ.A (assign target Φ.env acc) _ E s'
  refine Abq (loc:=false) Φ.Rm.hh hc (fun z=>nomatch z) S2 (r1.mono (Mo.more k0)) q fun h'' tk'' own ho e3 S3=>?_
  have hn':h''.Ns C m:=Ak7 hn e3 c1 fun z=>(ho C z).1.elim c3.1 fun y=>y.elim fun x e=>c3.2 x C e rfl
  refine ⟨m,hn',fun h₃ hs₃=>?_⟩
  have eC:Ext Φ.F (ownE Φ.env) ι₁ ι₁ h₀ h₃:=((Ext.more k0).trans (e3.widen (Aau ho))).skip (Aay hs₃) hC
  have:=K.ok .next ι₁ h₃ tk'' .nx ρ' σ₁ (e1.wide.trans eC) (S3.off (Aay hs₃) c1 (Adn S1.hr.stay hC) (S1.ff.dead hC) c3 (Aa8 hn')) rfl w
  obtain ⟨t,hu⟩:=hu
  have e:s'=upd s s'.heap t:=congrArg (fun z:Shared=>{ z with heap:=s'.heap }) hu
  rw [e]
  exact this
theorem Akr {x:Str}{p pos:Pos}{t:Tg}{v:PySem.Expr}{e:Ex}(h:CoOK Γ n e)(hc:chkT Φ.env.scope Φ.NE t (.Name x p)=true)(ce:chkE Γ.K e Φ.env.scope Φ.NE v=true)(S:SR Γ Φ ι σ ρ s.heap)
  (w:wS (J0 n) (.asn t e) ρ σ Qd Xd) (K:Ks Γ Φ ι s Qd Xd Q E) (hs:swapsWith v (some (.Name x p)) pos.line Φ.env=pure true):wpAny Γ.M Φ.A (exec (.Assign [.Name x p] v pos) Φ.env) Q E s:=by
 obtain ⟨h1,ok,h3⟩:=h Φ v ι s σ ρ (fun d h1=>J9 (t.set d ρ) fun ρ'=>Qd .nx ρ' h1) (fun c h1=>Xd c ρ h1) (fun v s₁=>∃d σ₁ ι₁,Ext Φ.F [] ι ι₁ s.heap s₁.heap∧SR Γ Φ ι₁ σ₁ ρ s₁.heap∧VR ι₁ s₁.heap v d∧(∃t,s₁=upd s s₁.heap t)∧J9 (t.set d ρ) fun ρ'=>Qd .nx ρ' σ₁) E ce S w
  ⟨fun v ι' h' tk' d σ' e H r q=>⟨d,σ',ι',e,S.ext e H,r,⟨tk',rfl⟩,q⟩,fun x ι' h' tk' c σ' e H r q=>K.ex x ι' h' tk' c ρ σ' e.wide (S.ext e H) r q⟩
 rename_i elt target iter ifs scope cpos
 refine AbR S.fr ok.fr fun cl e q=>?_
 rw [exec_Assign_Name_used _ _ _ _ hs]
 refine wpAny_bind (wpAny_standAt (wpAny_bind ?_))
 show wpAny _ Φ.A (do let _ ←comprehension (.ListComp elt [⟨target,iter,ifs,0⟩] scope cpos) scope Φ.env _ (newList []) false (eval iter Φ.env) (some (assign (.Name x p) Φ.env))) _ _ s
 refine wpAny_bind (wpAny_mono (wpAny_comprehension_free (use:=some (assign (.Name x p) Φ.env)) (Q:=fun u s'=>Q .next s') rfl (fun x=>Abh h1 x) e ok.kind (fun p hp hl=>(ok.one p hp).trans (congrArg some hl)) ?_) (fun u s' hq=>wpAny_pure (wpAny_pure hq)) fun u s' e=>e)
 exact wpAny_mono (h3 cl q) (fun it s₁ h1=>wpAny_mono h1 (fun acc s₂ h2=>wpAny_mono h2 (fun a s₃ h3=>wpAny_mono h3 (fun cenv s₄ h4=>codeAny_mono h4 fun r s₅ h5=>Ag9 hc K h5) fun u s' e=>e) fun u s' e=>e) fun u s' e=>e) fun u s' e=>e
theorem Apf {e:Ex}{sc:PySem.Scope}{NE:NEt}{v:PySem.Expr}(hv:Acw v=true)(h:chkE Γ.K e sc NE v=true):e=.stuck∨(isCo e=true∧∃elt gs scope pos,v=.ListComp elt gs scope pos):=by
 cases v<;>first|exact ffE hv|skip
 all_goals (cases e<;>first|exact .inl rfl|exact .inr ⟨rfl,_,_,_,_,rfl⟩|exact ffE h)
theorem AjH {A:Around}{P:Unit→Shared→Prop}:∀(is:List Nat) (xs:List Str) (vs:List Value) (ds:List D) (s:Shared) (ρ:Ve),LR (fun x i=>chkN Φ.env.scope Φ.NE i x=true) xs is→SR Γ Φ ι σ ρ s.heap→VRs ι s.heap vs ds→Y7 is ds ρ=some ρ'→Aek Γ Φ false ι σ ρ' s P →
  wpAny Γ.M A (assignInOrder (xs.map fun x=>bindName Φ.env x) vs) P E s:=@List.rec Nat _ (fun xs vs ds s ρ rx S r e h=>by
  cases ds with
  |cons _ _=>exact nope (show none=some ρ' from e)
  |nil =>
   cases Option.some.inj (show some ρ=some ρ' from e)
   exact LR.nil_i (P:=fun xs=>wpAny Γ.M A (assignInOrder (xs.map fun x=>bindName Φ.env x) vs) P E s) rx (LR.nil_i (P:=fun vs=>wpAny Γ.M A (assignInOrder (([]:List Str).map fun x=>bindName Φ.env x) vs) P E s) r (wpAny_assignInOrder_none (h s.heap s.toks [] (fun b q=>nomatch q) Ext.refl S)))) fun i is ih xs vs ds s ρ rx S r e h=>by
  cases ds with
  |nil=>exact nope (show none=some ρ' from e)
  |cons d ds =>
   refine LR.cons_i (P:=fun xs=>wpAny Γ.M A (assignInOrder (xs.map fun x=>bindName Φ.env x) vs) P E s) rx fun x xs hx rx=>LR.cons_i (P:=fun vs=>wpAny Γ.M A (assignInOrder ((x::xs).map fun x=>bindName Φ.env x) vs) P E s) r fun v vs a r=>?_
   refine wpAny_assignInOrder_more (wpAny_bindName (Aci (loc:=false) hx (fun q=>nomatch q) S a fun h' tk' own ho e1 S1=>?_))
   exact ih xs vs ds (upd s h' tk') _ rx S1 (VRs.mono (ds:=ds) (e1.mo S.ff.soft (Aea S.fr ho)) r) e fun h'' tk'' own' ho' e2 S2 =>
    h h'' tk'' (own++own') (fun b hb=>(List.mem_append.mp hb).elim (ho b) (ho' b)) ((e1.widen fun b hb=>List.mem_append_left _ hb).trans (e2.widen fun b hb=>List.mem_append_right _ hb)) S2
theorem Aez {j:Nat}{e:D}:∀(is:List Nat) (ds:List D) (ρ:Ve),is.length=ds.length→Y7 (is++[j]) (ds++[e]) ρ=(Y7 is ds ρ).map (·.set j (some e)):=@List.rec Nat _ (fun ds ρ h=>by
  cases List.length_eq_zero_iff.mp h.symm
  rfl) fun i is ih ds ρ h=>by
 cases ds with
 |nil=>exact absurd h (Nat.succ_ne_zero _)
 |cons d ds=>exact ih ds (ρ.set i (some d)) (Nat.succ.inj h)
theorem Agz {j:Nat}{e:D}:∀(is:List Nat) (ds:List D) (ρ:Ve),j∉is→Y7 is ds (ρ.set j (some e))=(Y7 is ds ρ).map (·.set j (some e)):=@List.rec Nat _ (fun ds ρ h=>by cases ds<;>rfl) fun i is ih ds ρ h=>by
 cases ds with
 |nil=>rfl
 |cons d ds =>
  show Y7 is ds ((ρ.set j (some e)).set i (some d))=(Y7 is ds (ρ.set i (some d))).map _
  rw [List.set_comm _ _ (show j≠i from fun q=>h (q▸List.mem_cons_self)),ih ds _ fun q=>h (List.mem_cons_of_mem _ q)]
theorem Af6:∀(is:List Nat) (ds:List D) (ρ:Ve),is.Nodup→is.length=ds.length→Y7 is.reverse ds.reverse ρ=Y7 is ds ρ:=@List.rec Nat _ (fun ds ρ hn h=>by
  cases List.length_eq_zero_iff.mp h.symm
  rfl) fun i is ih ds ρ hn h=>by
 cases ds with
 |nil=>exact absurd h (Nat.succ_ne_zero _)
 |cons d ds =>
  have hn:=List.nodup_cons.mp hn
  rw [List.reverse_cons,List.reverse_cons,Aez _ _ _ (by rw [List.length_reverse,List.length_reverse];exact Nat.succ.inj h),ih ds ρ hn.2 (Nat.succ.inj h)]
  exact (Agz is ds ρ hn.1).symm
theorem AmM:∀(k:Nat) (l:List Str),l.length≤k→l.eraseDups.length≤l.length:=@Nat.rec _ (fun l h=>by
  cases List.length_eq_zero_iff.mp (Nat.le_zero.mp h)
  exact Nat.le_refl _) fun k ih l h=>by
 cases l with
 |nil=>exact Nat.le_refl _
 |cons x l =>
  rw [List.eraseDups_cons]
  have f:=List.length_filter_le (fun b=>!b==x) l
  exact Nat.succ_le_succ (Nat.le_trans (ih _ (Nat.le_trans f (Nat.le_of_succ_le_succ h))) f)
theorem Agn:∀l:List Str,l.eraseDups.length=l.length→l.Nodup:=@List.rec Str _ (fun h=>List.nodup_nil) fun x l ih h=>by
 rw [List.eraseDups_cons] at h
 have f:=List.length_filter_le (fun b=>!b==x) l
 have g:=AmM _ (l.filter fun b=>!b==x) (Nat.le_refl _)
 have h':=Nat.succ.inj h
 have e:l.filter (fun b=>!b==x)=l:=List.filter_eq_self.mpr (List.length_filter_eq_length_iff.mp (Nat.le_antisymm f (h'▸g)))
 rw [e] at h'
 exact List.nodup_cons.mpr ⟨fun q=>by have:=List.filter_eq_self.mp e x q;simp at this,ih h'⟩
theorem Ae6 {sc:PySem.Scope}{NE:NEt}{xs:List Str}{is:List Nat}(r:LR (fun x i=>chkN sc NE i x=true) xs is)(hn:xs.Nodup):is.Nodup :=
 LR.ind (P:=fun xs is=>xs.Nodup→is.Nodup∧∀i∈is,∃x∈xs,chkN sc NE i x=true) r (fun h=>⟨List.nodup_nil,fun i q=>nomatch q⟩) (fun x xs i is a r ih h =>
  have h:=List.nodup_cons.mp h
  have g:=ih h.2
  ⟨List.nodup_cons.mpr ⟨fun q=>(g.2 i q).elim fun y hy=>h.1 ((show x=y from congrArg toS (AfW hy.2 x.cps.toList i (bE (aL a)) rfl))▸hy.1),g.1⟩,fun j hj=>(List.mem_cons.mp hj).elim (fun q=>⟨x,List.mem_cons_self,q▸a⟩) fun q=>(g.2 j q).elim fun y hy=>⟨y,List.mem_cons_of_mem _ hy.1,hy.2⟩⟩) hn |>.1
theorem Amc {t:List Nat}{xs:List Str}{v:Value}{d:D}{P:Unit→Shared→Prop}(rx:LR (fun x i=>chkN Φ.env.scope Φ.NE i x=true) xs t)(hn:xs.Nodup)(S:SR Γ Φ ι σ ρ s.heap)(r:VR ι s.heap v d)(w:J9 ((Tg.p t).set d ρ) fun ρ'=>Qd .nx ρ' σ)(K:Ks Γ Φ ι s Qd Xd Q E)(hP:∀s',Q .next s'→P () s') :
  wpAny Γ.M Φ.A (unpackItems v xs.length none) (fun items s₂=>wpAny Γ.M Φ.A (assignInOrder (xs.reverse.map fun x=>bindName Φ.env x) items.reverse) P E s₂) E s :=
 Y6 w fun ρ' e w2=>Aep e fun ds ed e=>by
  subst ed
  have hl:=Ac5 t ds ρ e
  refine VR.tup_i (P:=fun v=>wpAny Γ.M Φ.A (unpackItems v xs.length none) (fun items s₂=>wpAny Γ.M Φ.A (assignInOrder (xs.reverse.map fun x=>bindName Φ.env x) items.reverse) P E s₂) E s) r fun a vs ht nt rs=>?_
  have hx:xs.length=vs.toArray.size:=rx.length.trans (hl.trans rs.length.symm)
  rw [hx]
  refine unpackItems_tuple (items:=vs.toArray) Φ.Rm.hh (show IsTup s.heap a vs.toArray from ht) fun h' hx=>?_
  have k:X0 s.heap h':=fun b o q=>hx b o (Nat.ne_of_lt (Heap.lt_size q)) q
  exact AjH (s:={ s with heap:=h' }) t.reverse xs.reverse vs.reverse ds.reverse ρ (LR.rev rx) (S.more k) (LR.rev (VRs.mono (Mo.more k) rs)) ((Af6 t ds ρ (Ae6 rx hn) hl).trans e) fun h'' tk'' own ho e2 S2 =>
   hP _ (K.ok .next ι h'' tk'' .nx ρ' σ ((Ext.more k).trans (e2.widen (Aau ho))) S2 rfl w2)
noncomputable def nmF (env:PEnv)(line:Nat)(e:PySem.Expr):Option Str:=match e with
 |.Name id pos=>if (env.kindOf id==some .local&&pos.line==line)=true then some id else none
 |_=>none
theorem Abx {env:PEnv}{ts:List PySem.Expr}{v:PySem.Expr}{k:Nat}{p:Pos}(hc:AjA (.Tuple ts k p) v=true) :
  swappedStores [.Tuple ts k p] v env=pure none∨∃line,swappedStores [.Tuple ts k p] v env=pure (some (ts.filterMap (nmF env line)))∧(ts.filterMap (nmF env line)).length=ts.length∧(ts.filterMap (nmF env line)).Nodup:=by
 have e0:∀line,(ts.filterMap fun x=>match x with|.Name id pos=>if (env.kindOf id==some .local&&pos.line==line)=true then some id else none|_=>none)=ts.filterMap (nmF env line):=fun line=>by
  congr 1
 cases v with
 |Tuple vs k2 p2 =>
  have hc':(vs.all (foldedForSure 8)||!vs.all (constantsAlone 8))=true:=by
   have h2:(!(!(vs.all (foldedForSure 8)||!vs.all (constantsAlone 8))))=true:=hc
   rwa [Bool.not_not] at h2
  unfold swappedStores
  simp only
  split
  ·exact .inl rfl
  ·split
   ·exact .inl rfl
   ·split
    ·exact .inl rfl
    ·rename_i g3
     split
     ·exact .inl rfl
     ·rename_i g4
      split
      ·rename_i g5
       rw [Bool.not_eq_true] at g4
       rw [g4,g5] at hc'
       exact ffE hc'
      ·rw [Bool.not_eq_true,Bool.or_eq_false_iff] at g3
       exact .inr ⟨_,congrArg (fun l=>pure (some l)) (e0 _),(e0 _)▸bne_eq_false_iff_eq.mp g3.1,Agn _ ((e0 _)▸bne_eq_false_iff_eq.mp g3.2)⟩
 |_=>exact .inl rfl
theorem Ako {sc:PySem.Scope}{NE:NEt}{env:PEnv}{line:Nat}:∀(is:List Nat) (l:List PySem.Expr),Agj sc NE is l=true→(l.filterMap (nmF env line)).length=l.length→LR (fun x i=>chkN sc NE i x=true) (l.filterMap (nmF env line)) is:=@List.rec Nat _ (fun l h q=>lN_i (P:=fun l=>LR (fun x i=>chkN sc NE i x=true) (l.filterMap (nmF env line)) []) h LR.nil) fun i is ih l h q =>
 lC_i (P:=fun l=>(l.filterMap (nmF env line)).length=l.length→LR (fun x i=>chkN sc NE i x=true) (l.filterMap (nmF env line)) (i::is)) h (fun e r h=>X3 (P:=fun e=>((e::r).filterMap (nmF env line)).length=(e::r).length→LR (fun x i=>chkN sc NE i x=true) ((e::r).filterMap (nmF env line)) (i::is)) (aL h) fun x p hx q=>by
  rw [List.filterMap_cons] at q ⊢
  have e:nmF env line (.Name x p)=if (env.kindOf x==some .local&&p.line==line)=true then some x else none:=rfl
  by_cases y:(env.kindOf x==some .local&&p.line==line)=true
  ·rw [e,if_pos y] at q ⊢
   exact LR.cons hx (ih r (aR h) (Nat.succ.inj q))
  ·rw [e,if_neg y] at q
   exact absurd (show (r.filterMap (nmF env line)).length=r.length+1 from q) (Nat.ne_of_lt (Nat.lt_succ_of_le (List.length_filterMap_le ..)))) q
theorem Afn {v:PySem.Expr}{ts:List PySem.Expr}{k line:Nat}{p:Pos}{env:PEnv}:swapsWithSole [.Tuple ts k p] v line env=pure false :=
 @PySem.Expr.casesOn (fun v=>swapsWithSole [.Tuple ts k p] v line env=pure false) v (fun x0 x1 x2=>rfl) (fun x0 x1 x2=>rfl) (fun x0 x1 x2 x3=>rfl) (fun x0 x1 x2=>rfl) (fun x0 x1 x2 x3=>rfl) (fun x0 x1 x2 x3=>rfl) (fun x0 x1 x2=>rfl) (fun x0 x1 x2=>rfl) (fun x0 x1 x2 x3=>rfl) (fun x0 x1 x2 x3=>rfl) (fun x0 x1 x2 x3 x4=>rfl) (fun x0 x1 x2 x3=>rfl) (fun x0 x1=>rfl) (fun x0 x1=>rfl) (fun x0 x1=>rfl) (fun x0 x1 x2 x3=>rfl) (fun x0 x1 x2 x3=>rfl) (fun x0 x1 x2 x3=>rfl) (fun x0 x1=>rfl) (fun x0 x1 x2=>rfl) (fun x0 x1 x2=>rfl) (fun x0 x1 x2=>rfl) (fun x0 x1=>rfl) (fun x0 x1=>rfl) (fun x0 x1=>rfl) (fun x0 x1 x2=>rfl) (fun x0 x1 x2 x3=>rfl)
theorem AeV {v:PySem.Expr}{x:Str}{p:Pos}{env:PEnv}:swappedStores [.Name x p] v env=pure none :=
 @PySem.Expr.casesOn (fun v=>swappedStores [.Name x p] v env=pure none) v (fun x0 x1 x2=>rfl) (fun x0 x1 x2=>rfl) (fun x0 x1 x2 x3=>rfl) (fun x0 x1 x2=>rfl) (fun x0 x1 x2 x3=>rfl) (fun x0 x1 x2 x3=>rfl) (fun x0 x1 x2=>rfl) (fun x0 x1 x2=>rfl) (fun x0 x1 x2 x3=>rfl) (fun x0 x1 x2 x3=>rfl) (fun x0 x1 x2 x3 x4=>rfl) (fun x0 x1 x2 x3=>rfl) (fun x0 x1=>rfl) (fun x0 x1=>rfl) (fun x0 x1=>rfl) (fun x0 x1 x2 x3=>rfl) (fun x0 x1 x2 x3=>rfl) (fun x0 x1 x2 x3=>rfl) (fun x0 x1=>rfl) (fun x0 x1 x2=>rfl) (fun x0 x1 x2=>rfl) (fun x0 x1 x2=>rfl) (fun x0 x1=>rfl) (fun x0 x1=>rfl) (fun x0 x1=>rfl) (fun x0 x1 x2=>rfl) (fun x0 x1 x2 x3=>rfl)
theorem Ao1 {t:Tg}{e:Ex}(h:EvOK Γ n e)(hco:isCo e=true→CoOK Γ n e):StOK Γ n (.asn t e):=fun Φ x ι s σ ρ Qd Xd Q E hc S w K=>Abr (P:=fun x=>wpAny Γ.M Φ.A (exec x Φ.env) Q E s) hc fun ts v p hc=>lC_i (P:=fun ts=>wpAny Γ.M Φ.A (exec (.Assign ts v p) Φ.env) Q E s) hc fun target r hc=>lN_i (P:=fun r=>wpAny Γ.M Φ.A (exec (.Assign (target::r) v p) Φ.env) Q E s) (aL hc) (by
  have c1:=aL (aR hc)
  have c2:=aL (aR (aR hc))
  have c3:=aR (aR (aR hc))
  cases t with
  |n i =>
   refine X3 (P:=fun target=>chkT Φ.env.scope Φ.NE (.n i) target=true→wpAny Γ.M Φ.A (exec (.Assign [target] v p) Φ.env) Q E s) c1 (fun x px _ c1=>?_) c1
   have hw:swappedStores [.Name x px] v Φ.env=pure none:=AeV
   cases q:Acw v with
   |false=>exact Abl h c1 c2 S w K rfl (show swapsWith v (some (.Name x px)) p.line Φ.env=pure false from Aag q) hw
   |true =>
    rcases Apf q c2 with z|⟨z,elt,gs,scope,cp,ev⟩
    ·subst z;exact hiE w
    ·subst ev
     obtain ⟨b,hb⟩:∃b:Bool,swapsWith (.ListComp elt gs scope cp) (some (.Name x px)) p.line Φ.env=pure b:=⟨_,rfl⟩
     cases b with
     |true=>exact Akr (hco z) c1 c2 S w K hb
     |false=>exact Abl h c1 c2 S w K rfl hb hw
  |p is =>
   refine Aan (P:=fun target=>chkT Φ.env.scope Φ.NE (.p is) target=true→AjA target v=true→wpAny Γ.M Φ.A (exec (.Assign [target] v p) Φ.env) Q E s) c1 (fun l k pp hl c1 c3=>?_) c1 c3
   have hs:swapsWithSole [.Tuple l k pp] v p.line Φ.env=pure false:=Afn
   rcases Abx (env:=Φ.env) c3 with hw|⟨line,hw,hl2,hn⟩
   ·exact Abl h c1 c2 S w K rfl hs hw
   ·exact PyProof.Rows.Assign_Tuple_swapped (h.st c2 S (Qe:=fun d h1=>J9 ((Tg.p is).set d ρ) fun ρ'=>Qd .nx ρ' h1) w K fun v s1 d σ1 ι1 S1 e1 r w K=>Amc (Ako is l hl hl2) hn S1 r w K fun s' q=>q) hs hw
  |q i is =>
   refine Aan (P:=fun target=>chkT Φ.env.scope Φ.NE (.q i is) target=true→AjA target v=true→wpAny Γ.M Φ.A (exec (.Assign [target] v p) Φ.env) Q E s) c1 (fun l k pp hl c1 c3=>?_) c1 c3
   have hs:swapsWithSole [.Tuple l k pp] v p.line Φ.env=pure false:=Afn
   rcases Abx (env:=Φ.env) c3 with hw|⟨line,hw,hl2,hn⟩
   ·exact Abl h c1 c2 S w K rfl hs hw
   ·exfalso
    revert hl2
    refine lC_i (P:=fun l=>(l.filterMap (nmF Φ.env line)).length=l.length→False) hl fun a r hr=>X3 (P:=fun a=>((a::r).filterMap (nmF Φ.env line)).length=(a::r).length→False) (aL hr) fun x px _=>lC_i (P:=fun r=>((.Name x px::r).filterMap (nmF Φ.env line)).length=(.Name x px::r:List PySem.Expr).length→False) (aR hr) fun b r hr=>Aan (P:=fun b=>((.Name x px::b::r).filterMap (nmF Φ.env line)).length=(.Name x px::b::r:List PySem.Expr).length→False) (aL hr) fun l2 k2 p2 _ z=>?_
    have e1:nmF Φ.env line (.Tuple l2 k2 p2)=none:=rfl
    rw [List.filterMap_cons,List.filterMap_cons,e1] at z
    have b:=List.length_filterMap_le (nmF Φ.env line) r
    cases q:nmF Φ.env line (.Name x px)<;>rw [q] at z<;>simp at z<;>omega)
end
end Mine
end
section
namespace Mine
section
variable {Γ:Wo}{n:Nat}{Φ:Fx n}{ι ι0 ι':Io}{s s0:Shared}{σ σ':Hp}{ρ ρ':Ve}{h h' h₃:Heap}{tk':Nat}{Qd:Fl→Ve→Hp→Prop}{Xd:Nat→Ve→Hp→Prop}{Q:Flow→Shared→Prop}{E:Value→Shared→Prop}
theorem AjO {o e:Ex}{a:Nat}(W:Good Γ)(h1:EvOK Γ n o)(h2:EvOK Γ n e):StOK Γ n (.sattr o a e):=fun Φ x ι s σ ρ Qd Xd Q E hc S w K=>Abr (P:=fun x=>wpAny Γ.M Φ.A (exec x Φ.env) Q E s) hc fun ts r p hc=>lC_i (P:=fun ts=>wpAny Γ.M Φ.A (exec (.Assign ts r p) Φ.env) Q E s) hc fun g u hc=>lN_i (P:=fun u=>wpAny Γ.M Φ.A (exec (.Assign (g::u) r p) Φ.env) Q E s) (aL hc)
 (Z3 (P:=fun g=>wpAny Γ.M Φ.A (exec (.Assign [g] r p) Φ.env) Q E s) (aL (aR hc)) fun v nm ap hg=>by
  cases bE (aR hg)
  have hr:=aR (aR hc)
  exact plainObj_wpAny_Assign_Attribute (h2.st (aL (aR hr)) S (Qe:=fun v h1=>wE (J0 n) o ρ h1 (fun x h2=>Aa7 x a v h2 fun h3=>Qd .nx ρ h3) (fun c h1=>Xd c ρ h1)) w K fun u s1 d σ1 ι1 S1 e1 r1 w K=>h1.st (aL hg) S1 (Qe:=fun x h2=>Aa7 x a d h2 fun h3=>Qd .nx ρ h3) w K fun y s2 d2 σ2 ι2 S2 e2 r2 w K =>
   AkI W (List.contains_iff_mem.mp (aL hr)) S2.hr S2.ff.off r2 (r1.mono (S1.mo e2)) w fun h' tk' σ' e3 H3 w=>K.ok .next ι2 h' tk' .nx ρ σ' e3.wide (S2.ext e3 H3) rfl w) (Aag (nT (aR (aR hr)))))
theorem Ai5 {o i e:Ex}(h1:EvOK Γ n o)(h2:EvOK Γ n i)(h3:EvOK Γ n e):StOK Γ n (.sitem o i e):=fun Φ x ι s σ ρ Qd Xd Q E hc S w K=>Abr (P:=fun x=>wpAny Γ.M Φ.A (exec x Φ.env) Q E s) hc fun ts r p hc=>lC_i (P:=fun ts=>wpAny Γ.M Φ.A (exec (.Assign ts r p) Φ.env) Q E s) hc fun g u hc=>lN_i (P:=fun u=>wpAny Γ.M Φ.A (exec (.Assign (g::u) r p) Φ.env) Q E s) (aL hc)
 (V6 (P:=fun g=>wpAny Γ.M Φ.A (exec (.Assign [g] r p) Φ.env) Q E s) (aL (aR hc)) fun v sl ap hg =>
  wpAny_Assign_Subscript (h3.st (aL (aR (aR hc))) S (Qe:=fun v h1=>wE (J0 n) o ρ h1 (fun x h2=>wE (J0 n) i ρ h2 (fun k h3=>Aaf x k v h3 fun h4=>Qd .nx ρ h4) (fun c h1=>Xd c ρ h1)) (fun c h1=>Xd c ρ h1)) w K fun u s1 d σ1 ι1 S1 e1 r1 w K=>h1.st (aL hg) S1 (Qe:=fun x h2=>wE (J0 n) i ρ h2 (fun k h3=>Aaf x k d h3 fun h4=>Qd .nx ρ h4) (fun c h1=>Xd c ρ h1)) w K fun y s2 d2 σ2 ι2 S2 e2 r2 w K =>
   h2.st (aR hg) S2 (Qe:=fun k h3=>Aaf d2 k d h3 fun h4=>Qd .nx ρ h4) w K fun z s3 d3 σ3 ι3 S3 e3 r3 w K =>
    Af3 S3.hr S3.ff.off (r2.mono (S2.mo e3)) r3 ((r1.mono (S1.mo e2)).mono (S2.mo e3)) w fun h' tk' σ' e4 H4 w=>K.ok .next ι3 h' tk' .nx ρ σ' e4.wide (S3.ext e4 H4) rfl w) (Aag (nT (aR (aR (aR hc))))))
structure Zf (Γ:Wo){n:Nat}(Φ:Fx n)(ι0:Io)(s0:Shared)(I lI:Addr)(ds:List D)(ι:Io)(σ:Hp)(ρ:Ve)(s:Shared):Prop where
 S:SR Γ Φ ι σ ρ s.heap
 X:Ext Φ.F (ownE Φ.env) ι0 ι s0.heap s.heap
 hs:∃t,s=upd s0 s.heap t
 sq:SqIt ι s.heap I lI ds
 iA:I∉adr ι
theorem Zf.turn {I lI:Addr}{ds ds':List D}(z:Zf Γ Φ ι0 s0 I lI ds ι σ ρ s)(S0:SR Γ Φ ι0 σ' ρ' s0.heap)(dI:s0.heap.get? I=none)(k:But [I] s.heap h')(q:SqIt ι h' I lI ds'):Zf Γ Φ ι0 s0 I lI ds' ι σ ρ (upd s h' tk') :=
 ⟨z.S.off k z.iA (Adn S0.hr.stay dI) (S0.ff.dead dI) (S0.notOwn dI) z.sq.soft,z.X.skip k dI,AfU z.hs,q,z.iA⟩
theorem Zf.step {I lI:Addr}{ds:List D}{own:List Nat}{σ2:Hp}{ρ2:Ve}(z:Zf Γ Φ ι0 s0 I lI ds ι σ ρ s)(S0:SR Γ Φ ι0 σ' ρ' s0.heap)(dI:s0.heap.get? I=none)(e:Ext Φ.F own ι ι' s.heap h')(ho:Ahv Φ.env false own)(S':SR Γ Φ ι' σ2 ρ2 h'):Zf Γ Φ ι0 s0 I lI ds ι' σ2 ρ2 (upd s h' tk') :=
 ⟨S',z.X.trans (e.widen (Aau ho)),AfU z.hs,z.sq.move (e.mo z.S.ff.soft (Aea z.S.fr ho)) fun o q=>e.keep I o q (fun y=>z.iA (J4 y)) (S0.ff.dead dI) fun y=>Amr (S0.notOwn dI) (Aau ho I y),e.off z.sq.alive z.iA⟩
theorem Zf.ks {I lI:Addr}{ds:List D}(z:Zf Γ Φ ι0 s0 I lI ds ι σ ρ s)(K:Ks Γ Φ ι0 s0 Qd Xd Q E):Ks Γ Φ ι s Qd Xd Q E:=z.hs.elim fun t e=>e.symm▸K.later (h':=s.heap) (tk':=t) z.X
noncomputable abbrev forR (Q:Flow→Shared→Prop)(E:Value→Shared→Prop)(Γ:Wo){n:Nat}(Φ:Fx n):Result→Shared→Prop:=fun r s'=>match r with|.ok f=>Q f s'|.error e=>cameBackBy Γ.M Φ.A Φ.env E e s'
theorem AkJ {t:Tg}{target:PySem.Expr}{body:List PySem.Stmt}{b:Sts}{I lI:Addr}{ds:List D}(h1:Acf Γ n b)(hc:chkT Φ.env.scope Φ.NE t target=true)(cb:AkD Γ.K Φ.env.scope Φ.NE b body=true)(S0:SR Γ Φ ι0 σ' ρ' s0.heap)(dI:s0.heap.get? I=none)(K:Ks Γ Φ ι0 s0 Qd Xd Q (cbk Γ Φ E))
  (z:Zf Γ Φ ι0 s0 I lI ds ι σ ρ s) (w:FR (J0 n) t b ds ρ σ Qd Xd):codeAny Γ.M Φ.A (.forLoop target (.ref I) body [] Φ.env) (forR Q E Γ Φ) s:=by
 have W:Wk Γ Φ.A I [I] [I] (fun ds ι h=>SqIt ι h I lI ds):=AkP Φ.Rm.hh I lI
 refine codeAny_forLoop_any (fun k s₁=>∃ds ι₁ σ₁ ρ₁,ds.length=k∧Zf Γ Φ ι0 s0 I lI ds ι₁ σ₁ ρ₁ s₁∧FR (J0 n) t b ds ρ₁ σ₁ Qd Xd) (fun k s₁ hq=>?_) ds.length ⟨ds,ι,σ,ρ,rfl,z,w⟩
 obtain ⟨ds,ι₁,σ₁,ρ₁,hk,z1,w⟩:=hq
 subst hk
 cases ds with
 |nil=>exact Ale Φ.Rm.hh z1.sq fun h' k'=>wpAny_execs_nil (z1.hs.elim fun t e=>e.symm▸K.ok .next ι₁ h' t .nx ρ₁ σ₁ (z1.X.skip (AaN List.mem_cons_self k') dI) (z1.S.off (AaN List.mem_cons_self k') z1.iA (Adn S0.hr.stay dI) (S0.ff.dead dI) (S0.notOwn dI) z1.sq.soft) rfl w)
 |cons d ds =>
  refine AiE z1.sq fun v h' k' hv rv q2=>?_
  have z2:Zf Γ Φ ι0 s0 I lI ds ι₁ σ₁ ρ₁ (upd s₁ h' s₁.toks):=z1.turn S0 dI (Aay k') q2
  refine W.go ds ι₁ { s₁ with heap:=h' } target v _ _ q2 fun h₂ k₂ al₂ M₂ q3=>?_
  have z3:Zf Γ Φ ι0 s0 I lI ds ι₁ σ₁ ρ₁ (upd s₁ h₂ s₁.toks):=z2.turn S0 dI k₂ q3
  refine Y6 (o:=t.set d ρ₁) (K:=fun ρ2=>wSs (J0 n) b ρ2 σ₁ (fun f ρ' h2=>lpK0 f (FR (J0 n) t b ds ρ' h2 Qd Xd) (Qd f ρ' h2)) Xd) w fun ρ2 e w=>?_
  refine Abq (s:={ s₁ with heap:=h₂ }) (loc:=false) Φ.Rm.hh hc (fun z=>nomatch z) z3.S ((rv.mono (Ach z1.sq k')).mono M₂) e fun h₃ tk₃ own ho e4 S4=>?_
  have z4:Zf Γ Φ ι0 s0 I lI ds ι₁ σ₁ ρ2 (upd s₁ h₃ tk₃):=z3.step S0 dI e4 ho S4
  refine h1 Φ body ι₁ (upd s₁ h₃ tk₃) σ₁ ρ2 (fun f ρ' h2=>lpK0 f (FR (J0 n) t b ds ρ' h2 Qd Xd) (Qd f ρ' h2)) Xd _ _ cb S4 w ⟨fun v ι' h' tk' f ρ' σ' e S' r q=>?_,(z4.ks K).ex⟩
  have z5:Zf Γ Φ ι0 s0 I lI ds ι' σ' ρ' (upd (upd s₁ h₃ tk₃) h' tk'):=z4.step S0 dI e AgP S'
  exact fl_i (P:=fun v f=>lpK0 f (FR (J0 n) t b ds ρ' σ' Qd Xd) (Qd f ρ' σ')→(match v with
       |.next|.cont=>∃m,m < ds.length+1∧∃ds ι₁ σ₁ ρ₁,ds.length=m∧Zf Γ Φ ι0 s0 I lI ds ι₁ σ₁ ρ₁ (upd (upd s₁ h₃ tk₃) h' tk')∧FR (J0 n) t b ds ρ₁ σ₁ Qd Xd
       |.brk=>Q .next (upd (upd s₁ h₃ tk₃) h' tk')
       |.ret v=>Q (.ret v) (upd (upd s₁ h₃ tk₃) h' tk'))) r (fun q=>⟨ds.length,Nat.lt_succ_self _,ds,ι',σ',ρ',rfl,z5,q⟩) (fun q=>⟨ds.length,Nat.lt_succ_self _,ds,ι',σ',ρ',rfl,z5,q⟩) (fun u d r q=>(z4.ks K).ok (.ret u) ι' h' tk' (.rt d) ρ' σ' e S' ⟨u,rfl,r⟩ q) q
theorem Aqi {t:Tg}{e:Ex}{b:Sts}(h0:EvOK Γ n e)(h1:Acf Γ n b):StOK Γ n (.for t e b):=fun Φ x ι s σ ρ Qd Xd Q E hc S w K=>Aqf (P:=fun x=>wpAny Γ.M Φ.A (exec x Φ.env) Q E s) hc fun target it body el p hc=>lN_i (P:=fun el=>wpAny Γ.M Φ.A (exec (.For target it body el p) Φ.env) Q E s) (aL hc)
 (wpAny_For (h0.st (aL (aR (aR (aR hc)))) S (Qe:=fun d h1=>X4 d fun ds=>grd (Nat.ble ds.length most) <| FR (J0 n) t b ds ρ h1 Qd Xd) w K fun v s1 d σ1 ι1 S1 e1 r1 w K=>Aiy w r1 fun bb l ds w sq=>X6 w fun hl w =>
  AkJ (s0:=s1) h1 (aL (aR (aR hc))) (aR (aR (aR (aR hc)))) S1 X1 (K.noted S1.base0) ⟨S1.more J1,Ext.more J1,⟨s1.toks,rfl⟩,sq,S1.hr.fresh X1⟩ w) fun x=>Abh (nT (aL (aR hc))) x)
noncomputable def hnF (hn:Hn)(f:Fl):Prop:=@Hn.casesOn (fun hn=>Prop) hn (f=.ct) (fun d=>f=.rt d) False
theorem Am1 {hn:Hn}{hb:List PySem.Stmt}{A:Around}{env:PEnv}{P:Flow→Shared→Prop}(hc:AjM hn hb=true)(hQ:∀f v tk,hnF hn f→FlR ι s.heap v f→P v { s with toks:=tk }):wpAny Γ.M A (execs hb env) P E s :=
 @Hn.casesOn (fun hn=>AjM hn hb=true→(∀f v tk,hnF hn f→FlR ι s.heap v f→P v { s with toks:=tk })→wpAny Γ.M A (execs hb env) P E s) hn
  (fun hc hQ=>lC_i (P:=fun hb=>wpAny Γ.M A (execs hb env) P E s) hc fun x r hc=>lN_i (P:=fun r=>wpAny Γ.M A (execs (x::r) env) P E s) (aR hc) (AcA (P:=fun x=>wpAny Γ.M A (execs [x] env) P E s) (aL hc) fun p _=>wpAny_execs_cons (wpAny_Continue (hQ .ct .cont s.toks rfl rfl))))
  (fun d hc hQ=>lC_i (P:=fun hb=>wpAny Γ.M A (execs hb env) P E s) hc fun x r hc=>lN_i (P:=fun r=>wpAny Γ.M A (execs (x::r) env) P E s) (aR hc) (Ad8 (P:=fun x=>wpAny Γ.M A (execs [x] env) P E s) (aL hc) fun o p hc=>oS_i (P:=fun o=>wpAny Γ.M A (execs [.Return o p] env) P E s) hc fun e hc=>W0 (P:=fun e=>wpAny Γ.M A (execs [.Return (some e) p] env) P E s) hc fun c k q hc =>
   wpAny_execs_cons (wpAny_Return_some (AlJ (ι:=ι) hc fun v tk r=>hQ (.rt d) (.ret v) tk rfl ⟨v,rfl,r⟩)))) (fun hc hQ=>ffE hc) hc hQ
theorem Ary {k:Nat}{hn:Hn}{c:Nat}{G:Prop}(w:tryK k hn c ρ σ Qd)(hk:k≠0)(g:∀e:c=k,(∀f,hnF hn f→Qd f ρ σ)→G):G:=X6 w fun hu w =>
 have hck:c=k:=by
  unfold under at hu
  exact (oR hu).elim bE fun z=>absurd (bE z) hk
 g hck fun f hf=>@Hn.casesOn (fun hn=>@Hn.casesOn (fun x=>Prop) hn (Qd .ct ρ σ) (fun d=>Qd (.rt d) ρ σ) hi→hnF hn f→Qd f ρ σ) hn (fun w hf=>(show f=.ct from hf)▸w) (fun d w hf=>(show f=.rt d from hf)▸w) (fun w hf=>hiE w) w hf
noncomputable abbrev Ao8 (Γ:Wo){n:Nat}(Φ:Fx n)(Q:Flow→Shared→Prop)(E:Value→Shared→Prop):Flow→Shared→Prop:=fun f s₁=>match f with|.next=>wpAny Γ.M Φ.A (execs [] Φ.env) Q E s₁|f=>Q f s₁
theorem Aly {K:Ks Γ Φ ι s Qd Xd Q E}{v:Flow}{f:Fl}(e:Ext Φ.F (ownE Φ.env) ι ι' s.heap h')(S:SR Γ Φ ι' σ' ρ' h')(r:FlR ι' h' v f)(w:Qd f ρ' σ'):Ao8 Γ Φ Q E v (upd s h' tk') :=
 fl_i (P:=fun v f=>FlR ι' h' v f→Qd f ρ' σ'→Ao8 Γ Φ Q E v (upd s h' tk')) r (fun r w=>wpAny_execs_nil (K.ok .next ι' h' tk' .nx ρ' σ' e S r w)) (fun r w=>K.ok .cont ι' h' tk' .ct ρ' σ' e S r w) (fun u d q r w=>K.ok (.ret u) ι' h' tk' (.rt d) ρ' σ' e S r w) r w
theorem Apr {b:Sts}{k:Nat}{hn:Hn}(W:Good Γ)(h:Acf Γ n b):StOK Γ n (.try b k hn):=fun Φ x ι s σ ρ Qd Xd Q E hc S w K=>Aqj (P:=fun x=>wpAny Γ.M Φ.A (exec x Φ.env) Q E s) hc fun body hs el fb p hc=>lN_i (P:=fun el=>wpAny Γ.M Φ.A (exec (.Try body hs el fb p) Φ.env) Q E s) (aL hc) (lN_i (P:=fun fb=>wpAny Γ.M Φ.A (exec (.Try body hs [] fb p) Φ.env) Q E s) (aL (aR hc))
 (lC_i (P:=fun hs=>wpAny Γ.M Φ.A (exec (.Try body hs [] [] p) Φ.env) Q E s) (aR (aR (aR hc))) fun hd u hh=>lN_i (P:=fun u=>wpAny Γ.M Φ.A (exec (.Try body (hd::u) [] [] p) Φ.env) Q E s) (aL hh) (by
  have cb:=aL (aR (aR hc))
  obtain ⟨ty,nm,hb,hp⟩:=hd
  have hh':=aR hh
  refine oS_i (P:=fun ty=>wpAny Γ.M Φ.A (exec (.Try body [⟨ty,nm,hb,hp⟩] [] [] p) Φ.env) Q E s) (aL hh') fun z hz=>X3 (P:=fun z=>wpAny Γ.M Φ.A (exec (.Try body [⟨some z,nm,hb,hp⟩] [] [] p) Φ.env) Q E s) hz fun y py hy=>(oR (aR hh')).elim (fun hx=>?_) fun hx=>?_
  ·refine oN_i (P:=fun nm=>wpAny Γ.M Φ.A (exec (.Try body [⟨some (.Name y py),nm,hb,hp⟩] [] [] p) Φ.env) Q E s) (aL hx) ?_
   have hk:k≠0:=bne_iff_ne.mp (aL (aR hx))
   refine wpAny_Try_except (h Φ body ι s σ ρ Qd (fun c ρ' h1=>tryK k hn c ρ' h1 Qd) _ _ cb S w ⟨fun v ι' h' tk' f ρ' σ' e S r w=>Aly (K:=K) e S r w,fun x ι₁ h₁ tk₁ c ρ₁ σ₁ e₁ S₁ X w=>Ary w hk fun ec w2=>?_⟩)
   subst ec
   obtain ⟨e0,r0,L,hd1,hd2,hL⟩:=S₁.tp
   refine Aai (s:=upd s h₁ tk₁) Φ.hf ⟨e0,r0,hd1,hd2⟩ S₁.ff.ff hL X S₁.hr.stay e₁.live fun h₂ t₂ X₂=>?_
   have S₂:=S₁.touch t₂ S.base0
   refine V5 (s:=upd s h₂ tk₁) S₂.ff.ff X₂ fun h₃ t₃ X₃=>?_
   have S₃:=S₂.touch t₃ S.base0
   refine wpAny_handleBy_cons (codeAny_handlers_test ?_) (by intro q;cases q)
   refine Ab6 (s:=upd s h₃ tk₁) W S₃ hy py ?_
   have LT:Looks Γ.M h₃ (typeOf (.ref x)) (.ref (clsA c)):=ExcR.casesOn X₃ fun e1 e2 d3 d4 d5 d6=>e2▸(Looks.ld e1).andThen .now
   refine (exm_one (M:=Γ.M) (W.In S₃.hr.stay) LT (bE (aL (aR (aR hx))))).here (s:=upd s h₃ tk₁) ?_
   cases hb with
   |nil=>exact ffE (@Hn.casesOn (fun hn=>AjM hn []=true→false=true) hn (fun q=>q) (fun d q=>q) (fun q=>q) (aR (aR (aR hx))))
   |cons b0 hb =>
    refine codeAny_handlers_suite ?_
    exact V5 (s:=upd s h₃ tk₁) S₃.ff.ff X₃ fun h₄ t₄ X₄=>Am1 (ι:=ι₁) (s:=upd s h₄ tk₁) (aR (aR (aR hx))) fun f v tk hf r=>K.ok v ι₁ h₄ tk f ρ₁ σ₁ (t₄.ext (t₃.ext (t₂.ext e₁))) (S₃.touch t₄ S.base0) r (w2 f hf)
  ·refine oS_i (P:=fun nm=>wpAny Γ.M Φ.A (exec (.Try body [⟨some (.Name y py),nm,hb,hp⟩] [] [] p) Φ.env) Q E s) hx fun x hx=>?_
   exact wpAny_Try_except (h Φ body ι s σ ρ Qd (fun c ρ' h1=>tryK k hn c ρ' h1 Qd) _ _ cb S w ⟨fun v ι' h' tk' f ρ' σ' e S r w=>Aly (K:=K) e S r w,fun x ι₁ h₁ tk₁ c ρ₁ σ₁ e₁ S₁ X w=>X6 w fun hu w=>@Hn.casesOn (fun hn=>AgS hn=true→@Hn.casesOn (fun x=>Prop) hn (Qd .ct ρ₁ σ₁) (fun d=>Qd (.rt d) ρ₁ σ₁) hi→_) hn (fun q w=>ffE q) (fun d q w=>ffE q) (fun q w=>hiE w) hx w⟩))))
end
end Mine
end
section
namespace Mine
section
variable {Γ:Wo}{n:Nat}{Φ:Fx n}{ι ι0 ι':Io}{s s0:Shared}{σ σ':Hp}{ρ ρ':Ve}{h h':Heap}{FL own:List Nat}
theorem HR.tabs {ps:Array Value}(H:HR Γ ι σ h)(e0:σ[(0:Nat)]? = some .tab)(k:But [tabA] h h')(hP:h'.get? tabA=some (tabObj ps))(ht:TriplesOk ps.toList)(hF:∀b∈FL,b∉adr ι):HR Γ ι σ h'∧Ext FL own ι ι h h' :=
 have ep:=(tab0 H e0).1
 have hin:tabA∈nad ι.nums:=AaQ ep (.inl rfl)
 have k':∀{b},b≠tabA→∀o,h.get? b=some o→h'.get? b=some o:=fun q o=>k _ o fun z=>q (List.mem_singleton.mp z)
 have M:Mo ι ι h h':=Mo.but k fun b hb=>.inl (List.mem_singleton.mp hb▸J4 hin)
 ⟨⟨fun b o q=>k' (fun (z:b=tabA)=>two q (H.off b (z▸J4 hin))) o (H.stay b o q),H.len,fun l o q=>by
   by_cases hl:l=0
   ·subst hl
    cases Option.some.inj (e0.symm.trans q)
    exact ⟨_,ep,TabO.mk hP ht⟩
   ·exact (H.obj l o q).elim fun p z=>⟨p,z.1,z.2.move M fun b hb=>k' fun y=>hl (Ace H.nd z.1 ep hb (.inl y))⟩,
  H.nd,H.off,fun a ha=>⟨(H.hids a ha).1,(H.hids a ha).2.elim fun o e=>⟨o,k' (fun (z:a=tabA)=>(H.hids a ha).1 (z▸hin)) o e⟩⟩,H.sys,H.low⟩,
 ⟨List.prefix_refl _,rfl,fun b o q=>(Classical.em (b=tabA)).elim (fun z=>z▸⟨_,hP⟩) fun z=>⟨o,k' z o q⟩,fun b z=>.inl z,fun b o q hb _ _=>k' (fun (z:b=tabA)=>hb (z▸hin)) o q,fun b o q hb _=>⟨o.slots,k' (fun (z:b=tabA)=>hF b hb (z▸J4 hin)) o q⟩⟩⟩
theorem AoS {G:Prop}(T:TabO h (tabA,none))(k:∀ps,h.get? tabA=some (tabObj ps)→TriplesOk ps.toList→G):G:=TabO.casesOn (motive:=fun p x=>G) T fun {ps} a b=>k ps a b
theorem AmO {env:PEnv}:∀l:List PySem.Arg,l.all (fun a=>oN a.annotation)=true→annotationsOf l env=[]:=@List.rec _ _ (fun h=>by first|rfl|(unfold annotationsOf;rfl)) fun a r ih h=>by
 obtain ⟨x,an,p⟩:=a
 rw [List.all_cons] at h
 refine oN_i (P:=fun an=>annotationsOf (⟨x,an,p⟩::r) env=[]) (aL h) ?_
 have:=ih (aR h)
 unfold annotationsOf
 exact this
theorem AmC {ps:Arguments}{P:Arguments→Prop}(h:ApB ps=true)(k:∀args,args.all (fun a=>oN a.annotation)=true→P ⟨[],args,none,[],[],none,[]⟩):P ps:=by
 obtain ⟨po,args,va,ko,kd,kw,df⟩:=ps
 refine lN_i (P:=fun po=>P ⟨po,args,va,ko,kd,kw,df⟩) (aL h) (oN_i (P:=fun va=>P ⟨[],args,va,ko,kd,kw,df⟩) (aL (aR h)) (lN_i (P:=fun ko=>P ⟨[],args,none,ko,kd,kw,df⟩) (aL (aR (aR h))) (lN_i (P:=fun kd=>P ⟨[],args,none,[],kd,kw,df⟩) (aL (aR (aR (aR h)))) (oN_i (P:=fun kw=>P ⟨[],args,none,[],[],kw,df⟩) (aL (aR (aR (aR (aR h))))) (lN_i (P:=fun df=>P ⟨[],args,none,[],[],none,df⟩) (aL (aR (aR (aR (aR (aR h)))))) (k args (aR (aR (aR (aR (aR (aR h))))))))))))
theorem AnL {i:Nat}(W:Good Γ)(hd:CodeHd Γ.base codA tabA)(hb:Γ.base.BuiltinsAt Γ.mg tabA):StOK Γ n (.deff i):=fun Φ x ι s σ ρ Qd Xd Q E hc S w K=>AcK (P:=fun x=>wpAny Γ.M Φ.A (exec x Φ.env) Q E s) hc fun name ps body ds ret tps scope ts bind pos hc =>
 lN_i (P:=fun ds=>wpAny Γ.M Φ.A (exec (.FunctionDef name ps body ds ret tps scope ts bind pos) Φ.env) Q E s) (aL hc) (oN_i (P:=fun ret=>wpAny Γ.M Φ.A (exec (.FunctionDef name ps body [] ret tps scope ts bind pos) Φ.env) Q E s) (aL (aR hc)) (lN_i (P:=fun tps=>wpAny Γ.M Φ.A (exec (.FunctionDef name ps body [] none tps scope ts bind pos) Φ.env) Q E s) (aL (aR (aR hc))) (oN_i (P:=fun ts=>wpAny Γ.M Φ.A (exec (.FunctionDef name ps body [] none [] scope ts bind pos) Φ.env) Q E s) (aL (aR (aR (aR hc)))) (by
  have hc:=aR (aR (aR (aR hc)))
  refine lC_i (P:=fun body=>wpAny Γ.M Φ.A (exec (.FunctionDef name ps body [] none [] scope none bind pos) Φ.env) Q E s) (aL hc) fun b0 body _=>AmC (P:=fun ps=>wpAny Γ.M Φ.A (exec (.FunctionDef name ps (b0::body) [] none [] scope none bind pos) Φ.env) Q E s) (aL (aR hc)) fun args hann=>?_
  have hc:=aR (aR hc)
  cases bE (aL hc)
  cases bE (aL (aR hc))
  have hc:=aR (aR hc)
  have w:=AeD w
  refine AbR S.fr (fun p hp hfr=>(oR (List.all_eq_true.mp (aL (aR hc)) p hp)).elim (fun z=>absurd hfr (bne_iff_ne.mp z)) fun z=>(oR z).imp bE bE) fun clos hcl q=>?_
  refine nestDef_K rfl rfl (by
   unfold annTrees
   simp only [List.append_nil,List.nil_append,Option.toList]
   rw [AmO args hann]
   rfl) ?_
  have hcode:Φ.env.code=.ref codA:=S.fr.cd (.inl (bE (aL hc)))
  have e0:=w.1
  refine AoS (tab0 S.hr e0).2 fun ps hP ht=>?_
  have hg:s.heap.Ns mainGlobals Γ.mg:=Abj W.g fun o e=>S.hr.stay _ o e
  have C:=hd.keeps fun b o e=>S.hr.stay b o e
  have B:=hb.keeps fun b o e=>S.hr.stay b o e
  have hgP:mainGlobals≠tabA:=fun q=>hg.elim fun o y=>y.elim fun es y=>y.elim fun ep y=>by
   have e:=y.2.1
   rw [Option.some.inj (y.1.symm.trans (q.symm▸hP))] at e
   cases e
  have fin:∀(f:Addr) (h':Heap) (tk:Nat) (ps':Array Value),But [tabA] s.heap h'→h'.get? tabA=some (tabObj ps')→TriplesOk ps'.toList→wpAny Γ.M Φ.A (storeName Φ.env defN (.ref f)) (fun u s''=>Q .next s'') E { s with heap:=h',toks:=tk }:=fun f h' tk ps' k hP' ht' =>
   have G:=S.hr.tabs (own:=[]) e0 k hP' ht' S.ff.off
   Aci (s:={ s with heap:=h',toks:=tk }) (loc:=false) (aR (aR hc)) (fun z=>nomatch z) (S.ext G.2 G.1) vOpq fun h₂ tk₂ own ho e2 S2=>K.ok .next ι h₂ tk₂ .nx (ρ.set i (some .opq)) σ (G.2.wide.trans (e2.widen (Aau ho))) S2 rfl w.2
  cases hf':codeAmong pos ps.toList with
  |none =>
   refine makeFunction_K (mg:=Γ.mg) hcl S.fr.glob hg hcode C hP ht hf' hgP B fun c' ctv doc h' tk hx _ _ _ hP'=>fin _ _ tk _ (fun b o ne e=>J1 b o (hx b o (fun z=>ne (List.mem_singleton.mpr z)) e)) (J1 _ _ hP') ?_
   have:=TriplesOk_snoc pos.line pos.col (.ref c') ps.toList ht
   simpa using this
  |some cv=>exact makeFunction_hit (mg:=Γ.mg) hcl S.fr.glob hg hcode C hP ht hf' B fun ctv doc h' tk k _=>fin _ _ tk ps (fun b o _ e=>J1 b o (k b o e)) (J1 _ _ (k _ _ hP)) ht))))
end
section
variable {α:Type}
theorem Ado {l r:List (Str×α)}{x:Str}:(l++r).lookup x=(l.lookup x).or (r.lookup x):=@List.rec _ (fun l=>(l++r).lookup x=(l.lookup x).or (r.lookup x)) rfl (fun p l ih=>by
 rw [List.cons_append,List.lookup_cons,List.lookup_cons]
 cases x==p.1 with
 |true=>rfl
 |false=>exact ih) l
noncomputable def Aim (l:List (Str×α)):List (Str×α)→List (Str×α):=@List.rec (Str×α) (fun l=>List (Str×α)→List (Str×α)) (fun slots=>slots) (fun p l r slots=>r (if (slots.lookup p.1).isNone then slots++[p] else slots)) l
theorem Aen {x:Str}:∀(r slots:List (Str×α)),(Aim r slots).lookup x=(slots.lookup x).or (r.lookup x):=@List.rec _ _ (fun slots=>(Option.or_none).symm) fun p r ih slots=>by
 have key:(if (slots.lookup p.1).isNone then slots++[p] else slots).lookup x=(slots.lookup x).or ([p].lookup x):=by
  cases e:slots.lookup p.1 with
  |none=>exact Ado
  |some v =>
   show slots.lookup x=_
   rw [List.lookup_cons]
   cases q:x==p.1 with
   |true=>rw [beq_iff_eq.mp q,e];rfl
   |false=>exact (Option.or_none).symm
 refine (ih _).trans ?_
 rw [key,Option.or_assoc]
 congr 1
 rw [List.lookup_cons,List.lookup_cons]
 cases x==p.1<;>rfl
theorem AbS {x:Str}:∀(names:List Str) (ws:List α) (i:Nat),names.Nodup→names[i]? = some x→(names.zip ws).lookup x=ws[i]? := @List.rec Str _ (fun ws i hn h=>nope h) fun m names ih ws i hn h=>by
 cases ws with
 |nil=>rfl
 |cons v ws =>
  rw [List.zip_cons_cons,List.lookup_cons]
  cases i with
  |zero=>rw [show x==m from beq_iff_eq.mpr (Option.some.inj h).symm];rfl
  |succ i =>
   have hn:=List.nodup_cons.mp hn
   rw [show (x==m)=false from beq_eq_false_iff_ne.mpr fun q=>hn.1 (q▸List.mem_of_getElem? (show names[i]? = some x from h))]
   exact ih ws i hn.2 h
theorem Aot {g:Str→Option α}:∀(names:List Str) (ws:List α),names.length=ws.length→(∀(i:Nat) (x:Str),names[i]? = some x→g x=ws[i]?)→names.filterMap (fun n=>(g n).map (n,·))=names.zip ws:=@List.rec Str _ (fun ws hl h=>rfl) fun m names ih ws hl h=>by
 cases ws with
 |nil=>exact absurd hl (Nat.succ_ne_zero _)
 |cons v ws =>
  rw [List.filterMap_cons,h 0 m rfl]
  exact congrArg ((m,v)::·) (ih ws (Nat.succ.inj hl) fun i x e=>h (i+1) x e)
end
section
variable {M:Model}{A:Around}{E:Value→Shared→Prop}{s:Shared}
theorem Akd {Q:List (Str×Value)→Shared→Prop}:∀(l slots:List (Str×Value)),Q (Aim l slots) s →
  wpAny M A (forIn l slots fun p slots=>(if (slots.lookup p.1).isNone=true then pure (ForInStep.yield (slots++[(p.1,p.2)])) else pure (ForInStep.yield slots):Sem (ForInStep (List (Str×Value))))) Q E s:=@List.rec _ _ (fun slots h=>wpAny_pure h) fun p r ih slots h=>by
 rw [List.forIn_cons]
 by_cases q:(slots.lookup p.1).isNone=true
 ·have h':Q (Aim r (if (slots.lookup p.1).isNone=true then slots++[p] else slots)) s:=h
  rw [if_pos q] at h' ⊢
  exact wpAny_bind (wpAny_pure (ih _ h'))
 ·have h':Q (Aim r (if (slots.lookup p.1).isNone=true then slots++[p] else slots)) s:=h
  rw [if_neg q] at h' ⊢
  exact wpAny_bind (wpAny_pure (ih _ h'))
theorem Aji {names:List Str}{vs dl:List Value}(hn:names.Nodup)(h1:vs.length≤names.length)(h2:names.length≤vs.length+dl.length)(h3:dl.length≤names.length) :
  names.filterMap (fun n=>((Aim ((names.drop (names.length - dl.length)).zip dl) (names.zip vs)).lookup n).map (n,·))=names.zip (vs++dl.drop (vs.length+dl.length - names.length)):=by
 refine Aot names _ (by rw [List.length_append,List.length_drop];omega) fun i x hi=>?_
 rw [Aen,AbS names vs i hn hi]
 have hlt:=Abd hi
 by_cases hv:i < vs.length
 ·rw [List.getElem?_eq_getElem hv,List.getElem?_append_left hv,List.getElem?_eq_getElem hv]
  rfl
 ·have hv:=Nat.le_of_not_lt hv
  rw [List.getElem?_eq_none hv,List.getElem?_append_right hv]
  have hd':(names.drop (names.length - dl.length))[i - (names.length - dl.length)]? = some x:=by
   rw [List.getElem?_drop,Nat.add_sub_cancel' (by omega)]
   exact hi
  rw [AbS _ dl _ (hn.sublist (List.drop_sublist _ _)) hd',List.getElem?_drop]
  exact congrArg (fun k=>dl[k]?) (by omega)
theorem AiI {names:List Str}{vs:List Value}{k:Nat}(hn:names.Nodup)(h:names.length≤vs.length+k):(names.take (names.length - k)).filter (fun n=>((names.zip vs).lookup n).isNone)=[]:=by
 rw [List.filter_eq_nil_iff]
 intro x hx
 obtain ⟨i,hi⟩:=List.getElem?_of_mem hx
 have hlt:=Abd hi
 rw [List.length_take] at hlt
 rw [List.getElem?_take_of_lt (Nat.lt_of_lt_of_le hlt (Nat.min_le_left _ _))] at hi
 rw [AbS names vs i hn hi,List.getElem?_eq_getElem (show i < vs.length by omega)]
 exact Bool.false_ne_true
theorem AiH {fd:FuncData}{args:List PySem.Arg}{kd:List (Option PySem.Expr)}{df:List PySem.Expr}{vs dl:List Value}{od:Option (Array Value)}{Q:List (Str×Value)→Shared→Prop}(hp:fd.params=⟨[],args,none,[],kd,none,df⟩)
  (hd:∀{Q':Option (Array Value)→Shared→Prop},Q' od s→wpAny M A (seqItems? fd.defaults) Q' E s) (hod:(od.getD #[]).toList=dl) (hn:(args.map (·.arg)).Nodup) (h1:vs.length≤args.length) (h2:args.length≤vs.length+dl.length) (h3:dl.length≤args.length)
  (h:Q ((args.map (·.arg)).zip (vs++dl.drop (vs.length+dl.length - args.length))) s):wpAny M A (bindArgs fd ⟨vs,[]⟩) Q E s:=by
 unfold bindArgs
 rw [hp]
 simp only [List.map_nil,List.nil_append,List.forIn_nil,pure_bind,List.append_nil]
 refine wpAny_bind (hd ?_)
 rw [hod]
 have hlen:(args.map (·.arg)).length=args.length:=List.length_map ..
 rw [←hlen] at h1 h2 h3 h
 rw [show dl.drop (dl.length - (args.map (·.arg)).length)=dl by rw [Nat.sub_eq_zero_of_le h3];rfl]
 rw [if_neg (show ¬(decide (vs.length > (args.map (·.arg)).length)&&(none:Option PySem.Arg).isNone)=true by rw [decide_eq_false (Nat.not_lt.mpr h1)];exact Bool.false_ne_true)]
 rw [AiI hn h2,if_neg (by decide)]
 refine wpAny_bind (Akd _ _ ?_)
 rw [Aji hn h1 h2 h3]
 exact wpAny_pure h
end
end Mine
end
section
namespace Mine
section
variable {Γ:Wo}{n:Nat}
theorem Ahq (W:Good Γ)(C:AaJ Γ n)(hd:CodeHd Γ.base codA tabA)(hb:Γ.base.BuiltinsAt Γ.mg tabA)(hr:∀c es,StOK Γ n (.raise c es))(xs:Sts):Acf Γ n xs :=
 @Sts.rec (StOK Γ n) (Acf Γ n) (fun t e=>Ao1 (Aam W C e).ev (Aam W C e).co) (fun o a e=>AjO W (Aam W C o).ev (Aam W C e).ev) (fun o i e=>Ai5 (Aam W C o).ev (Aam W C i).ev (Aam W C e).ev) (fun e=>AsW (Aam W C e).ev) (fun c a b h1 h2=>ApQ (Aam W C c).tr h1 h2) (fun c b h=>Aoe (Aam W C c).tr h)
  (fun t e b h=>Aqi (Aam W C e).ev h) (fun e=>Apm (Aam W C e).ev) hr (fun b k hn h=>Apr W h) AlY (fun i=>AnL W hd hb) AjZ AoB (fun x xs h1 h2=>Anm h1 h2) xs
end
theorem AgO {kd:Str→Option NameKind}{x:Str}:∀(l:List (Str×Value)) (m:Str→Option Value),x∉l.map (·.1)→bindL kd l m x=m x:=@List.rec _ _ (fun m h=>rfl) fun p r ih m h=>by
 show bindL kd r (if kd p.1=some .local then fun y=>if y=p.1 then some p.2 else m y else m) x=m x
 rw [ih _ fun q=>h (List.mem_cons_of_mem _ q)]
 by_cases q:kd p.1=some .local
 ·rw [if_pos q];exact if_neg fun (z:x=p.1)=>h (z▸List.mem_cons_self)
 ·rw [if_neg q]
theorem Ahm {kd:Str→Option NameKind}{x:Str}:∀(l:List (Str×Value)) (m:Str→Option Value),x∉l.map (·.1)→bindC kd l m x=m x:=@List.rec _ _ (fun m h=>rfl) fun p r ih m h=>by
 show bindC kd r (if kd p.1=some .local then m else fun y=>if y=p.1 then some p.2 else m y) x=m x
 rw [ih _ fun q=>h (List.mem_cons_of_mem _ q)]
 by_cases q:kd p.1=some .local
 ·rw [if_pos q]
 ·rw [if_neg q];exact if_neg fun (z:x=p.1)=>h (z▸List.mem_cons_self)
theorem Ahr {x:Str}{names:List Str}{ws:List Value}(h:x∉names):x∉(names.zip ws).map (·.1):=fun q=>(List.mem_map.mp q).elim fun p hp=>h (hp.2▸(List.of_mem_zip hp.1).1)
theorem Ahw {kd:Str→Option NameKind}{x:Str}{v:Value}:∀(names:List Str) (ws:List Value) (m m':Str→Option Value) (i:Nat),names.Nodup→names[i]? = some x→ws[i]? = some v→(kd x=some .local→bindL kd (names.zip ws) m x=some v)∧(kd x≠some .local→bindC kd (names.zip ws) m' x=some v):=@List.rec Str _ (fun ws m m' i hn h hv=>nope h) fun y names ih ws m m' i hn h hv=>by
 cases ws with
 |nil=>exact nope hv
 |cons u ws =>
  have hn:=List.nodup_cons.mp hn
  cases i with
  |zero =>
   cases Option.some.inj h
   cases Option.some.inj hv
   exact ⟨fun hk=>(AgO _ _ (Ahr hn.1)).trans (by rw [if_pos hk];exact if_pos rfl),fun hk=>(Ahm _ _ (Ahr hn.1)).trans (by rw [if_neg hk];exact if_pos rfl)⟩
  |succ i=>exact ih ws _ _ i hn.2 h hv
theorem AgA {x:Str}{c:Addr}:∀l:List (Str×Addr),(x,c)∈l→∃c',l.lookup x=some c':=@List.rec _ _ (fun h=>nomatch h) fun p r ih h=>by
 rw [List.lookup_cons]
 cases hb:x==p.1 with
 |true=>exact ⟨p.2,rfl⟩
 |false=>exact (List.mem_cons.mp h).elim (fun q=>absurd (congrArg (·.1) q) (beq_eq_false_iff_ne.mp hb)) ih
theorem Ahg {x:Str}:∀(names:List (Str×NameKind)) (k:Nat) (acc:List (Str×Addr)),((x,NameKind.cell)∈names∨∃c,(x,c)∈acc)→∃c,(x,c)∈cellsFrom k names acc:=@List.rec _ _ (fun k acc h=>h.elim (fun z=>nomatch z) id) fun p r ih k acc h=>by
 show ∃c,(x,c)∈(if (p.2==NameKind.cell)=true then cellsFrom (k+1) r ((p.1,k)::acc) else cellsFrom k r acc)
 by_cases q:(p.2==NameKind.cell)=true
 ·rw [if_pos q]
  exact ih _ _ (h.elim (fun h=>(List.mem_cons.mp h).elim (fun z=>.inr ⟨k,(congrArg (·.1) z:x=p.1)▸List.mem_cons_self⟩) .inl) fun h=>h.elim fun c hc=>.inr ⟨c,List.mem_cons_of_mem _ hc⟩)
 ·rw [if_neg q]
  exact ih _ _ (h.imp (fun h=>(List.mem_cons.mp h).elim (fun z=>absurd (beq_iff_eq.mpr (congrArg (·.2) z).symm) q) id) id)
theorem AbM {x:Str}{names:List (Str×NameKind)}{k:Nat}(h:names.lookup x=some .cell):∃c,(cellsFrom k names []).lookup x=some c:=(Ahg names k [] (.inl (mem_of_lookup h))).elim fun c hc=>AgA _ hc
theorem Aks:∀l:List (List Nat),AfX l=true→l.Nodup:=@List.rec _ _ (fun h=>List.nodup_nil) fun x r ih h=>List.nodup_cons.mpr ⟨fun q=>bF (List.contains_iff_mem.mpr q) (nT (aL (show (!r.contains x&&AfX r)=true from h))),ih (aR (show (!r.contains x&&AfX r)=true from h))⟩
theorem AdU {x:List Nat}:∀(l:List (List Nat)) (k i:Nat),AaG (l.zipIdx k) x=some i→∃j,i=j+k∧l[j]? = some x:=@List.rec _ _ (fun k i h=>nope h) fun y l ih k i h=>by
 rw [List.zipIdx_cons,Adr] at h
 by_cases q:y=x
 ·rw [if_pos q] at h
  exact ⟨0,(Option.some.inj h).symm.trans (Nat.zero_add k).symm,congrArg some q⟩
 ·rw [if_neg q] at h
  exact (ih (k+1) i h).elim fun j e=>⟨j+1,e.1.trans (by rw [Nat.add_assoc,Nat.add_comm 1]),e.2⟩
structure FdOK (K:Frag)(fi:FnI)(fd:FuncData)(names:List (List Nat)):Prop where
 co:fd.scope.isCoroutine=false
 gen:fd.scope.isGenerator=false
 kind:fd.scope.kind=.function
 clos:fd.closure=[]
 glob:fd.globals=mainGlobals
 blt:fd.builtins=builtinsNs
 code:codeIn K fd.code fd.qualname=true
 args:parK fd.params (names.take fi.np)=true
 nd:(names.take fi.np).Nodup
 np:fi.np≤fi.nv
 nv:fi.nv≤names.length
 dl:fi.dfl.length≤fi.np
 dv:chkD K fi fd.defaults=true
 loc:∀x∈names.take fi.np,fd.scope.names.lookup (toS x)=some .local∨fd.scope.names.lookup (toS x)=some .cell
 nf:∀p∈fd.scope.names,p.2≠.free
 cd:(fd.scope.names.lookup defN=some .cell∨fd.scope.names.lookup defN=some .free)→fd.code=.ref codA
theorem AiT {K:Frag}{fi:FnI}{fd:FuncData}{names:List (List Nat)}(h:chkP K fi names fd=true):FdOK K fi fd names :=
 a2 h fun h1 h=>a2 h fun h2 h=>a2 h fun h3 h=>a2 h fun h4 h=>a2 h fun h5 h=>a2 h fun h6 h=>a2 h fun h7 h=>a2 h fun h8 h=>a2 h fun h9 h=>a2 h fun h10 h=>a2 h fun h11 h=>a2 h fun h12 h=>a2 h fun h13 h=>a2 h fun h14 h=>a2 h fun h15 h16 =>
  ⟨nT h1,nT h2,bE h3,List.isEmpty_iff.mp h4,bE h5,bE h6,h7,h8,Aks _ h9,Y2 h10,Y2 h11,Y2 h12,h13,fun x hx=>(oR (List.all_eq_true.mp h14 x hx)).imp bE bE,fun p hp=>bne_iff_ne.mp (List.all_eq_true.mp h15 p hp),
   fun q=>(oR h16).elim (fun z=>absurd q fun q=>q.elim (bne_iff_ne.mp (aL z)) (bne_iff_ne.mp (aR z))) bE⟩
theorem ApS {ps:Arguments}{l:List (List Nat)}{G:Prop}(h:parK ps l=true)(k:∀args kd df,ps=⟨[],args,none,[],kd,none,df⟩→args.map (·.arg)=l.map toS→args.length=l.length→G):G:=by
 obtain ⟨po,args,va,ko,kd,kw,df⟩:=ps
 have e:args.map (fun a=>a.arg.cps.toList)=l:=bE (aR (aR (aR (aR h))))
 refine lN_i (P:=fun po=>(∀args' kd' df',(⟨po,args,va,ko,kd,kw,df⟩:Arguments)=⟨[],args',none,[],kd',none,df'⟩→args'.map (·.arg)=l.map toS→args'.length=l.length→G)→G) (aL h) (fun k=>oN_i (P:=fun va=>(∀args' kd' df',(⟨[],args,va,ko,kd,kw,df⟩:Arguments)=⟨[],args',none,[],kd',none,df'⟩→args'.map (·.arg)=l.map toS→args'.length=l.length→G)→G) (aL (aR h)) (fun k=>lN_i (P:=fun ko=>(∀args' kd' df',(⟨[],args,none,ko,kd,kw,df⟩:Arguments)=⟨[],args',none,[],kd',none,df'⟩→args'.map (·.arg)=l.map toS→args'.length=l.length→G)→G) (aL (aR (aR h))) (fun k=>oN_i (P:=fun kw=>(∀args' kd' df',(⟨[],args,none,[],kd,kw,df⟩:Arguments)=⟨[],args',none,[],kd',none,df'⟩→args'.map (·.arg)=l.map toS→args'.length=l.length→G)→G) (aL (aR (aR (aR h))))
  (fun k=>k args kd df rfl (by rw [←e,List.map_map];rfl) (by rw [←e,List.length_map])) k) k) k) k
theorem AcC:∀l:List (List Nat),l.Nodup→(l.map toS).Nodup:=@List.rec _ _ (fun h=>List.nodup_nil) fun x r ih h=>by
 have h:=List.nodup_cons.mp h
 rw [List.map_cons,List.nodup_cons]
 exact ⟨fun q=>(List.mem_map.mp q).elim fun y hy=>h.1 (Adc hy.2▸hy.1),ih h.2⟩
theorem As4 {Γ:Wo}{ι:Io}{σ:Hp}{s:Shared}{fi:FnI}{dv:Value}{G:Prop}(W:Good Γ)(H:HR Γ ι σ s.heap)(h:chkD Γ.K fi dv=true)
  (k:∀(dl:List Value) (od:Option (Array Value)),(od.getD #[]).toList=dl→(∀{M:Model} {A:Around} {E:Value→Shared→Prop} {Q':Option (Array Value)→Shared→Prop},Q' od s→wpAny M A (seqItems? dv) Q' E s)→VRs ι s.heap dl fi.dfl→G):G :=
 (oR h).elim (fun h=>k [] none rfl (fun {M A E Q'} q=>by rw [bE (aL h)];exact wpAny_pure q) ((List.isEmpty_iff.mp (aR h)).symm▸LR.nil)) fun h =>
  Ac2 (P:=fun dv=>(∀(dl:List Value) (od:Option (Array Value)),(od.getD #[]).toList=dl→(∀{M:Model} {A:Around} {E:Value→Shared→Prop} {Q':Option (Array Value)→Shared→Prop},Q' od s→wpAny M A (seqItems? dv) Q' E s)→VRs ι s.heap dl fi.dfl→G)→G) h (fun a h k=>oS_e h fun o e h=>AgN (P:=fun d=>o.data=d→G) (aR h) (fun xs m h ed =>
   k xs.toList (some xs) rfl (fun {M A E Q'} q=>wpAny_seqItems (W.In H.stay _ _ e) ed q) ((AfO W.X H).2 fi.dfl xs.toList h)) rfl) k
theorem An7 {K:Frag}{a:Nat}{f g:FuncData→Bool}{G:Prop}(h1:fdK K a f=true)(h2:fdK K a g=true)(k:∀o fd,K.lookup a=some o→o.data=.func fd→f fd=true→g fd=true→G):G:=oS_e h1 fun o e h=>oS_e h2 fun o' e' h'=>by
 cases Option.some.inj (e.symm.trans e')
 exact Amf (P:=fun d=>o.data=d→Akt d g=true→G) (aR h) (fun fd hf ed hg=>k o fd e ed hf hg) rfl (aR h')
end Mine
end
section
namespace Mine
noncomputable abbrev envF (fd:FuncData)(L a:Addr):PEnv:=newEnv fd.scope L fd.globals (cellsFrom (L+1) fd.scope.names []) (fd.qualname ++ ".<locals>.") (some a) fd.code none fd.builtins
theorem Abu {e:PEnv}{fl:List PEnv}{L:Addr}(h:e.frame=some L):fls (e::fl)=L::fls fl:=by
 show List.filterMap _ (e::fl)=_
 rw [List.filterMap_cons,h]
section
variable {Γ:Wo}{n:Nat}{fl:List PEnv}{ι ι':Io}{s s₁:Shared}{σ:Hp}{h h':Heap}{env:PEnv}
theorem Ai6 {fi:FnI}{fd:FuncData}{names:List (List Nat)}{a:Addr}{as:List D}{ws:List Value}{m:Nat}{Φ:Fx m}(F:FdOK Γ.K fi fd names)(H:HR Γ ι σ s.heap)(ff:FramesR Γ fl ι s.heap)(hal:as.length=fi.np)(rw':VRs ι s.heap ws as)
  (h1:Φ.fl=envF fd s.heap.objs.size a::fl) (h2:Φ.env=envF fd s.heap.objs.size a) (h3:Φ.NE=(names.take fi.nv).zipIdx)
  (x:InCallC s s.heap.objs.size (bindL (envF fd s.heap.objs.size a).kindOf (((names.take fi.np).map toS).zip ws) fun _=>none) (envF fd s.heap.objs.size a).cells (bindC (envF fd s.heap.objs.size a).kindOf (((names.take fi.np).map toS).zip ws) fun _=>none) s₁) :
  SR Γ Φ ι σ (as.map some++List.replicate (fi.nv - fi.np) none) s₁.heap:=by
 have k:X0 s.heap s₁.heap:=x.toInCall.keep
 have dd:∀m,s.heap.objs.size≤m→s.heap.get? m=none:=fun m hm=>Heap.get?_none_of_le hm
 have fresh:∀m,s.heap.objs.size≤m→m∉adr ι∧Γ.base.get? m=none:=fun m hm=>⟨H.fresh (dd m hm),Adn H.stay (dd m hm)⟩
 have hns:=x.toInCall.ns
 have ffs:=ff.mk' (h':=s₁.heap) (ι':=ι) (fun b hb m q=>⟨m,Abj q fun o e=>k _ o e⟩) ff.off
 have lookC:∀y c,(envF fd s.heap.objs.size a).cells.lookup y=some c→s.heap.objs.size < c:=fun y c e=>x.above y c (mem_of_lookup e)
 have hF:∀b∈fls Φ.fl,b=s.heap.objs.size∨b∈fls fl:=fun b hb=>List.mem_cons.mp ((Abu (L:=s.heap.objs.size) (fl:=fl) (e:=envF fd s.heap.objs.size a) rfl)▸h1▸hb)
 refine ⟨H.more k,⟨?_,fun b hb=>(hF b hb).elim (fun q=>q▸⟨_,hns⟩) (ffs.ns b),fun b hb=>(hF b hb).elim (fun q=>q▸(fresh _ (Nat.le_refl _)).1) (ffs.off b)⟩,?_,?_,h1.symm▸h2.symm▸Exists.intro _ ⟨fl,s.heap.objs.size,rfl,rfl,rfl⟩⟩
 ·rw [h1]
  exact ⟨(fun q=>nomatch (F.kind.symm.trans q)),⟨s.heap.objs.size,hns.elim fun o y=>y.elim fun es y=>y.elim fun ep y=>⟨o,rfl,(fresh _ (Nat.le_refl _)).2,y.1,fun vs q=>nomatch y.2.1.symm.trans q⟩⟩,ffs.ff⟩
 ·rw [h2]
  exact ⟨F.kind,F.glob,F.blt,⟨_,hns⟩,fun y c e=>⟨_,x.cell y c e⟩,fun y z c e e'=>name_of_addr x.apart (mem_of_lookup e) (mem_of_lookup e'),fun y hy=>hy.elim AbM fun hy=>absurd rfl (F.nf _ (mem_of_lookup hy)),fresh _ (Nat.le_refl _),fun y c e=>fresh c (Nat.le_of_lt (lookC y c e)),fun q=>F.cd q⟩
 ·rw [h2,h3]
  intro y i d hi hd
  obtain ⟨j,ej,hx⟩:=AdU _ _ _ hi
  cases (show i=j from ej)
  have hlt:i < as.length:=by
   rcases Nat.lt_or_ge i as.length with q|q
   ·exact q
   ·rw [List.getElem?_append_right (by rw [List.length_map];exact q),List.getElem?_replicate] at hd
    split at hd
    ·cases hd
    ·exact nope hd
  have hd':as[i]? = some d:=by
   rw [List.getElem?_append_left (by rw [List.length_map];exact hlt),List.getElem?_map] at hd
   cases e:as[i]? with
   |none=>rw [e] at hd;exact nope hd
   |some d'=>rw [e] at hd;exact Option.some.inj hd
  refine rw'.get hd' fun v hv rv=>?_
  have h5:(names.take fi.np)[i]? = some y.cps.toList:=by
   have hl:=Abd hx
   rw [List.length_take] at hl
   rw [List.getElem?_take_of_lt (Nat.lt_of_lt_of_le hl (Nat.min_le_left _ _))] at hx
   rw [List.getElem?_take_of_lt (hal▸hlt)]
   exact hx
  have h4:((names.take fi.np).map toS)[i]? = some y:=by rw [List.getElem?_map,h5];rfl
  have G:=Ahw (kd:=(envF fd s.heap.objs.size a).kindOf) _ ws (fun _=>none) (fun _=>none) i (AcC _ F.nd) h4 hv
  have rv1:=rv.mono (Mo.more (ι:=ι) k)
  exact (F.loc _ (List.mem_of_getElem? h5)).elim (fun hk=>.loc hk hns (G.1 hk) rv1) fun hk=>(AbM (k:=s.heap.objs.size+1) hk).elim fun c hc =>
   .cell (.inl hk) hc (G.2 (fun z=>nomatch ((show some NameKind.cell=some .local from hk.symm.trans z)))▸x.cell y c hc) rv1
theorem AiZ {L:Nat}(k:X0 s.heap s₁.heap)(hL:s.heap.get? L=none)(hl:env.locals=L)(hfr:env.frame=some L)(hC:∀y c,env.cells.lookup y=some c→s.heap.get? c=none)
  (e:Ext (fls (env::fl)) (ownE env) ι ι' s₁.heap h'):Ext (fls fl) [] ι ι' s.heap h' :=
 have nO:∀{b:Nat} {o:Obj},s.heap.get? b=some o→b∉ownE env:=fun e q=>(AgP _ q).1.elim (fun y=>two (y.trans hl▸e) hL) fun y=>y.elim fun x z=>two e (hC x _ z)
 have nF:∀{b:Nat} {o:Obj},s.heap.get? b=some o→b∉fls fl→b∉fls (env::fl):=fun e q z=>(List.mem_cons.mp (Abu hfr▸z)).elim (fun y=>two (y▸e) hL) q
 ⟨e.pre,e.same,fun b o q=>e.live b o (k b o q),fun a ha=>(e.new a ha).imp id fun q=>dead (AdB k) q,fun b o q h1 h2 _=>e.keep b o (k b o q) h1 (nF q h2) (nO q),fun b o q h1 _=>e.slot b o (k b o q) (Abu hfr▸List.mem_cons_of_mem _ h1) (nO q)⟩
theorem Agp {lo a b:Heap}{L:Nat}(t:Touch lo (fls (env::fl)) a b)(hL:lo.get? L=none)(hfr:env.frame=some L)(e:Ext (fls fl) [] ι ι' lo a):Ext (fls fl) [] ι ι' lo b :=
 have nF:∀{b:Nat} {o:Obj},lo.get? b=some o→b∉fls fl→b∉fls (env::fl):=fun e q z=>(List.mem_cons.mp (Abu hfr▸z)).elim (fun y=>two (y▸e) hL) q
 ⟨e.pre,e.same,fun b o q=>(e.live b o q).elim fun o' z=>t.live b o' z,e.new,fun b o q h1 h2 h3=>t.old b o (e.keep b o q h1 h2 h3) ⟨o,q⟩ (nF q h2),fun b o q h1 h2=>(e.slot b o q h1 h2).elim fun sl z=>(t.slot b _ z (Abu hfr▸List.mem_cons_of_mem _ h1)).elim fun sl' z'=>⟨sl',z'⟩⟩
theorem AiX (W:Good Γ)(C:AaJ Γ n)(hd:CodeHd Γ.base codA tabA)(hb:Γ.base.BuiltinsAt Γ.mg tabA)(hr:∀c es,StOK Γ n (.raise c es))
  (hF:∀(f:Nat) (fi:FnI),fnT[f]? = some fi→∃nm,fdK Γ.K fi.addr (chkF Γ.K fi nm)=true∧fdK Γ.K fi.addr (chkP Γ.K fi nm)=true):AaJ Γ (n+1):=by
 intro f fi vs as fl A ι s σ Qd Xd Q E ef hfr Rm H ff r w K
 refine Y6 (o:=fnT[f]?) (K:=fun fi=>J9 (AgF fi as) fun ρ=>wSs (J0 n) fi.body ρ σ (fun f _ h1=>retK f fun d=>Qd d h1) (fun c _ h1=>Xd c h1)) w fun fi' ef' w=>Y6 w fun ρ hbd w=>?_
 cases Option.some.inj (ef.symm.trans ef')
 obtain ⟨nm,c1,c2⟩:=hF f fi ef
 refine An7 c1 c2 fun o fd hk ed c1 c2=>?_
 have F:=AiT c2
 unfold AgF at hbd
 by_cases hcond:as.length≤fi.np∧fi.np≤as.length+fi.dfl.length∧fi.np≤fi.nv
 rotate_left
 ·rw [if_neg hcond] at hbd;exact nope hbd
 rw [if_pos hcond] at hbd
 cases Option.some.inj hbd
 revert ed
 refine fun ed=>AfZ (P:=fun b=>fd.body=b→codeAny Γ.M A (.call (.ref fi.addr) ⟨vs,[]⟩) (wants Q E) s) c1 (fun body c1 hbody=>?_) rfl
 have hX:=W.In H.stay
 have hlen:=r.length
 refine ApS F.args fun args kd df hp hnames hal=>As4 W H F.dv fun dl odv hod hseq rd=>?_
 have hnp:(nm.take fi.np).length=fi.np:=List.length_take_of_le (Nat.le_trans F.np F.nv)
 rw [hnp] at hal
 have hdl:=rd.length
 have hv1:vs.length≤args.length:=by rw [hlen,hal];exact hcond.1
 have hv2:args.length≤vs.length+dl.length:=by rw [hlen,hal,hdl];exact hcond.2.1
 have hv3:dl.length≤args.length:=by rw [hal,hdl];exact F.dl
 have dep1:A.depth+8 * n+10 < recursionLimit:=Rm.dep
 refine codeAny_call_function (Nat.lt_of_le_of_lt (by rw [Nat.add_assoc];exact Nat.le_add_right _ _) dep1) (hX _ _ hk) ed F.co F.gen hbody (codeRec_of hX F.code) ?_
 refine AiH hp hseq hod (by rw [hnames];exact AcC _ F.nd) hv1 hv2 hv3 ?_
 rw [F.clos,hnames,hlen,hdl,hal]
 have rws:VRs ι s.heap (vs++dl.drop (as.length+fi.dfl.length - fi.np)) (as++fi.dfl.drop (as.length+fi.dfl.length - fi.np)):=r.append (LR.drop rd _)
 have hals:(as++fi.dfl.drop (as.length+fi.dfl.length - fi.np)).length=fi.np:=by rw [List.length_append,List.length_drop];have:=F.dl;omega
 refine wpAny_newFunctionEnv_cells F.kind (fun x hx=>?_) fun env he s₁ x=>?_
 ·obtain ⟨y,hy,e⟩:=List.mem_map.mp (List.of_mem_zip hx).1
  exact (F.loc y hy).imp (fun q=>e▸q) fun q=>⟨e▸q,(AbM (k:=s.heap.objs.size+1) q).elim fun c hc=>by rw [←e,hc];rfl⟩
 ·subst he
  have k:X0 s.heap s₁.heap:=x.toInCall.keep
  refine ⟨(W.lim.keeps fun b o e=>H.stay b o e).keeps k,codeAny_func ?_⟩
  obtain ⟨h₁,tk₁,hs₁⟩:=x.toInCall.same
  have hL:s.heap.get? s.heap.objs.size=none:=X1
  have hfr':(A.deeper (envF fd s.heap.objs.size fi.addr)).frames=some (envF fd s.heap.objs.size fi.addr::fl):=by
   show A.frames.map _=_
   rw [hfr]
   rfl
  have lx:∀{ι':Io} {h':Heap},Ext (fls (envF fd s.heap.objs.size fi.addr::fl)) (ownE (envF fd s.heap.objs.size fi.addr)) ι ι' s₁.heap h'→Ext (fls fl) [] ι ι' s.heap h':=fun e=>AiZ k hL rfl rfl (fun y c e=>Heap.get?_none_of_le (Nat.le_of_lt (x.above y c (mem_of_lookup e)))) e
  have dep:(A.deeper (envF fd s.heap.objs.size fi.addr)).depth+8 * n+4 < recursionLimit:=Nat.lt_of_le_of_lt (by show A.depth+1+8 * n+4≤A.depth+8 * n+10;omega) dep1
  have uni:(A.deeper (envF fd s.heap.objs.size fi.addr)).units+64 * n+100 < cLine:=Nat.lt_of_le_of_lt (by show A.units+3+64 * n+100≤A.units+64 * (n+1)+50;omega) Rm.uni
  have S:SR Γ (⟨envF fd s.heap.objs.size fi.addr::fl,A.deeper (envF fd s.heap.objs.size fi.addr),envF fd s.heap.objs.size fi.addr,(nm.take fi.nv).zipIdx,hfr',⟨Rm.hh,dep,uni⟩⟩:Fx n) ι σ _ s₁.heap:=Ai6 F H ff hals rws rfl rfl rfl x
  refine Ahq W C hd hb hr fi.body ⟨envF fd s.heap.objs.size fi.addr::fl,A.deeper (envF fd s.heap.objs.size fi.addr),envF fd s.heap.objs.size fi.addr,(nm.take fi.nv).zipIdx,hfr',⟨Rm.hh,dep,uni⟩⟩ body ι s₁ σ _ _ _ _ _ c1 S w ⟨fun v ι' h' tk' f ρ' σ' e S' r q=>?_,fun xa ι' h' tk' c ρ' σ' e S' X q=>?_⟩
  ·rw [hs₁]
   exact fl_i (P:=fun v f=>retK f (fun d=>Qd d σ')→wants Q E (.ok (.ret (match v with|.ret v=>v|_=>.none))) (upd s h' tk')) r (fun q=>K.ok .none ι' h' tk' .none σ' (lx e) S'.hr Ad0 q) (fun q=>hiE q) (fun u d r q=>K.ok u ι' h' tk' d σ' (lx e) S'.hr r q) q
  ·have hb0:Abw Γ.base s.heap:=fun b o q=>⟨o,H.stay b o q⟩
   have X':ExcR Γ.base s.heap h' xa (clsA c) false:=X.lower (AdB k)
   unfold leaving
   refine wpAny_bind ?_
   refine Aai (s:={ s₁ with heap:=h',toks:=tk' }) (env:=envF fd s.heap.objs.size fi.addr) hfr' ⟨_,_,rfl,rfl⟩ S'.ff.ff rfl X' S'.hr.stay (lx e).live fun h₂ t₂ X₂=>?_
   have S₂:=S'.touch t₂ hb0
   refine V5 (s:={ s₁ with heap:=h₂,toks:=tk' }) S₂.ff.ff X₂ fun h₃ t₃ X₃=>?_
   rw [hs₁]
   exact K.ex xa ι' h₃ tk' c σ' (Agp (t₂.trans t₃) hL rfl (lx e)) (S₂.touch t₃ hb0).hr X₃.loose q
end
end Mine
end
section
namespace Mine
structure XP where
 nm:Str
 q:Str
 N:Addr
 bs:List Value
 sn:List Str
 sub:List Value
 ab:Bool
 col:Option Bool
 dd:Option Addr
 k0:Option Value
 k1:Option Value
 k2:Option Value
 k3:Option Value
 k5:Option Value
structure XCls (K:Frag)(C:Addr)(bm:List Value)(P:XP):Prop where
 obj:K.lookup C=some (excClassObj P.nm P.q C P.N P.bs bm true P.sn P.sub P.ab P.col P.dd P.k0 P.k1 P.k2 P.k3 P.k5 "Exception.__new__")
 B:(Value.ref C::bm).contains (.type "Exception")=true
 A:(Value.ref C::bm).contains (.type "AttributeError")=false
 N:(Value.ref C::bm).contains (.type "NameError")=false
 X:(Value.ref C::bm).contains (.type "BaseException")=true
 O:(Value.ref C::bm).contains (.type "object")=true
 pass:∀self:Value,refuseLoop self "__setattr__" bm=pure ()
section
variable {prog:Program}{w:World}{A:Around}{E:Value→Shared→Prop}{h:Heap}{g:Array GenState}{d:Drawn}{t:Nat}{os:OsState}{K:Frag}{C:Addr}{bm:List Value}{P:XP}
theorem AeA {M:Model}{rest:List Value}{Q:Unit→Shared→Prop}(X:K.In h)(Y:XCls K C bm P)(hq:Q () ⟨h,g,d,t,os⟩):wpAny M A (checkBuiltinCall "Exception.__new__" ⟨.ref C::rest,[]⟩) Q E ⟨h,g,d,t,os⟩:=by
 have hC:=X _ _ Y.obj
 exact wpAny_check_new_subU PySem.F.excBase_Exception (bmB:=bm) (by have:=Y.B;rw [List.contains_cons] at this;simpa using this) .base hC hq
theorem Aso {rest:List Value}{R:Result→Shared→Prop}(X:K.In h)(Y:XCls K C bm P)
  (hq:R (.ok (.ret (.ref (h.objs.size+1)))) ⟨(h.push { cls:=.type "tuple",data:=.seq rest.toArray }).push { cls:=.ref C,data:=.fields #[.ref h.objs.size,.none,.none,.none,.bool false,.none] },g,d,t,os⟩) (hrest:rest.length≤sizeLine) :
  codeAny (model prog w) A (.builtin "Exception.__new__" ⟨.ref C::rest,[]⟩) R ⟨h,g,d,t,os⟩:=by
 have hC:=X _ _ Y.obj
 have F:=PySem.F.excBase_Exception
 have hends:=F.ends
 have hcB:=Y.B
 have hcA:=Y.A
 have hcN:=Y.N
 refine PySem.codeAny_builtinAt F.entry ?_
 unfold Builtin.«BaseException.__new__»
 refine PySem.wpAt_bind ?_
 show PySem.wpAt _ _ _ (stack >>= _) _ _ _
 refine PySem.wpAt_bind (PySem.wpAt_stack fun p below=>PySem.wpAt_of_wpAny ?_)
 wp_walk
 refine PySem.wpAt_of_wpAny ?_
 rw [F.owner]
 repeat (first|with_reducible refine wpAny_madeHere_exc F.canon hC ?_|with_reducible refine wpAny_loadPart_at hC ?_|(with_reducible refine wpAny_isSubtype_exc hC ?_;first|rw [hcB]|rw [hcA]|rw [hcN])|wp_step)
 show R _ _
 rw [Heap.size_push]
 exact hq
theorem AeW {rest:List Value}{fI:Addr}{Q:Fin→Shared→Prop}(X:K.In h)(Y:XCls K C bm P)(hi:findIn K (.ref C) "__init__" = some (some (.ref fI)))(hf:typeIn K (.ref fI)=some (.type "function"))
  (hq:∀h' e,Heap.MadeExcOf h h' e (.ref C) rest→wpAny (model prog w) A (call (.ref fI) (.ref e::rest)) (fun r s'=>r=.none∧Q (.done (.ret (.ref e))) s') E ⟨h',g,d,t,os⟩) (hrest:rest.length≤sizeLine) :
  wpAny (model prog w) A (Builtin.«type.__call__» ⟨.ref C::rest,[]⟩) Q E ⟨h,g,d,t,os⟩:=by
 have hC:=X _ _ Y.obj
 have F:=PySem.F.excBase_Exception
 repeat (first|with_reducible refine wpAny_loadPart_at hC ?_|with_reducible refine wpAny_madeBy_exc hC ?_|wp_step)
 refine codeAny_call_builtin_code (Code.quiet_builtin _ F.quiet) (AeA X Y ?_)
 refine Aso X Y ?_ hrest
 show wpAny _ _ _ _ _ _
 have k:∀b o,h.get? b=some o→((h.push { cls:=.type "tuple",data:=.seq rest.toArray }).push { cls:=.ref C,data:=.fields #[.ref h.objs.size,.none,.none,.none,.bool false,.none] }).get? b=some o:=fun b o e=>Heap.get?_push_of_some _ (Heap.get?_push_of_some _ e)
 have hC₁:=k _ _ hC
 have X₁:K.In ((h.push { cls:=.type "tuple",data:=.seq rest.toArray }).push { cls:=.ref C,data:=.fields #[.ref h.objs.size,.none,.none,.none,.bool false,.none] }):=X.keeps k
 have hget:((h.push { cls:=.type "tuple",data:=.seq rest.toArray }).push
   { cls:=.ref C,data:=.fields #[.ref h.objs.size,.none,.none,.none,.bool false,.none] }).get? (h.objs.size+1)=some
   { cls:=.ref C,data:=.fields #[.ref h.objs.size,.none,.none,.none,.bool false,.none] }:=by heap_get
 have hcC:(Value.ref C::bm).contains (.ref C)=true:=by simp
 unfold isInstance
 repeat (first|with_reducible refine wpAny_loadPart_at hget ?_|(with_reducible refine wpAny_isSubtype_exc hC₁ ?_;rw [hcC])|wp_step)
 show wpAny _ _ (typeLookup (.ref C) _) _ _ _
 refine (looks_findIn (M:=model prog w) X₁ hi).at ?_
 refine wpAny_holding (wpAny_bind ((bind_fn (M:=model prog w) X₁ _ hf).at ?_))
 refine wpAny_bind (wpAny_mono (hq _ (h.objs.size+1) ⟨k,Heap.get?_none_of_le (Nat.le_succ _),h.objs.size,hget,Heap.get?_none_of_le (Nat.le_refl _),?_⟩) (fun r s' hr=>?_) fun _ _ x=>x)
 ·exact Heap.get?_push_of_some _ (Heap.get?_push_at rfl rfl)
 ·obtain ⟨rfl,hQ⟩:=hr
  wp_walk
  exact hQ
theorem Aox {rest:List Value}{fI:Addr}{Q:Value→Shared→Prop}(X:K.In h)(Y:XCls K C bm P)(hi:findIn K (.ref C) "__init__" = some (some (.ref fI)))(hf:typeIn K (.ref fI)=some (.type "function"))
  (hq:∀h' e,Heap.MadeExcOf h h' e (.ref C) rest→wpAny (model prog w) (A.under (.builtin "type.__call__" ⟨.ref C::rest,[]⟩)) (call (.ref fI) (.ref e::rest)) (fun r s'=>r=.none∧Q (.ref e) s') E ⟨h',g,d,t,os⟩) (hrest:rest.length≤sizeLine) :
  wpAny (model prog w) A (call (.ref C) rest) Q E ⟨h,g,d,t,os⟩:=by
 have hC:=X _ _ Y.obj
 have f1:=tc_lookup
 have f2:=tc_bind (.ref C)
 have hT:(⟨h,g,d,t,os⟩:Shared).TypeIs (.ref C) "type" := ⟨_,hC,rfl⟩
 refine wpAny_call (codeAny_of_tree ?_)
 show wpAny _ _ (callAny (.ref C) _) _ _ _
 repeat (any_goals (first|assumption|with_reducible refine wpAny_loadPart_at hC ?_|wp_step))
 refine ⟨rfl,?_⟩
 refine codeAny_call_builtin_at (Code.quiet_builtin _ (by decide +kernel)) entry_typeCall (wpAny_check_type_call_sub hC (AeW X Y hi hf (fun h' e hm=>?_) hrest))
 exact hq h' e hm
end
end Mine
end
section
open Builtin Builtin.ObjectAttr
namespace Mine
section
variable {prog:Program}{w:World}{A:Around}{E:Value→Shared→Prop}{h:Heap}{g:Array GenState}{d:Drawn}{t:Nat}{os:OsState}{K:Frag}{C:Addr}{bm:List Value}{P:XP}
theorem Agg {M:Model}{o:Obj}{x:Addr}{nameV v:Value}{Q:Unit→Shared→Prop}(X:K.In h)(Y:XCls K C bm P)(hx:h.get? x=some o)(hc:o.cls=.ref C)(hq:Q () ⟨h,g,d,t,os⟩) :
  wpAny M A (checkBuiltinCall "object.__setattr__" ⟨[.ref x,nameV,v],[]⟩) Q E ⟨h,g,d,t,os⟩:=by
 have hC:=X _ _ Y.obj
 have SF:=PySem.F.store_Exception
 have hcB:=Y.O
 have ha:=SF.args (.ref x) nameV v
 simp only [checkBuiltinCall,SF.kind,SF.split]
 refine PySem.wpAny_bind ?_
 ·unfold isInstance
  repeat (first|(with_reducible refine wpAny_loadPart_at hx ?_;rw [hc])|(with_reducible refine wpAny_isSubtype_exc hC ?_;rw [hcB])|wp_step)
  exact hq
theorem Adf {x:Addr}{mA:Str→Option Value}{name:Str}{v:Value}{tk:Tok}{Q:Fin→Shared→Prop}{ns:List Str}(X:K.In h)(Y:XCls K C bm P)(hna:findIn K (.ref C) name=some none)(I:h.Inst x C mA)
  (hq:∀h' tk',h'.Inst x C (fun y=>if y=name then some v else mA y) →
   (∀b o,b≠x→(∀o₀ dx,h.get? x=some o₀→o₀.dict=some dx→b≠dx)→h.get? b=some o→h'.get? b=some o) →
   (∀o₀,h.get? x=some o₀→∃o₁,h'.get? x=some o₁∧o₁.cls=o₀.cls∧o₁.data=o₀.data∧o₁.slots=o₀.slots∧(∀dx,o₀.dict=some dx→o₁.dict=some dx)∧(o₀.dict=none→∀dx,o₁.dict=some dx→h.get? dx=none))→Q (.done (.ret .none)) ⟨h',g,d,tk',os⟩) (hw:Within mA ns) (hsz:ns.length≤sizeLine) :
  wpAny (model prog w) A (Builtin.«object.__setattr__» ⟨[.ref x,.str name tk,v],[]⟩) Q E ⟨h,g,d,t,os⟩:=by
 have hC:=X _ _ Y.obj
 obtain ⟨o,hx,hc,hnc,hd⟩:=I
 have hpass:=Y.pass (.ref x)
 have lk:=looks_findIn (M:=model prog w) X hna
 unfold Builtin.«object.__setattr__»
 repeat (first|rw [refuse_eq]|(rw [refuseLoop_ref,hpass])|(with_reducible refine wpAny_loadPart_at hx ?_;rw [hc])|with_reducible refine wpAny_mroOf_exc hC ?_|(with_reducible refine lk.at ?_)|wp_step)
 rcases hd with ⟨hdn,hmA⟩|⟨dx,hdx,hne,hns⟩
 ·
  rw [hdn,if_neg (by simp [typeHasDict])]
  split
  ·rename_i hcd
   cases hcd
  split
  ·rename_i c hcd
   exact absurd hcd (hnc c)
  ·have hx₁:(h.push { cls:=.type "dict",data:=.dict #[] }).get? x=some o:=Heap.get?_push_of_some _ hx
   have hxs:x≠h.objs.size:=Nat.ne_of_lt (Heap.lt_size hx)
   refine PySem.wpAny_bind (wpAny_alloc' ?_)
   refine PySem.wpAny_bind (wpAny_update' hx₁ ?_)
   refine PySem.wpAny_pure ?_
   have hgd:((h.push { cls:=.type "dict",data:=.dict #[] }).update x fun o=>{ cls:=o.cls,dict:=some h.objs.size,data:=o.data,slots:=o.slots }).get? h.objs.size
     = some { cls:=.type "dict",data:=.dict #[] } :=
    (Heap.get?_update_ne _ _ _ _ hxs.symm).trans (Heap.get?_push_at rfl rfl)
   have hnd:((h.push { cls:=.type "dict",data:=.dict #[] }).update x fun o=>{ cls:=o.cls,dict:=some h.objs.size,data:=o.data,slots:=o.slots }).Ns h.objs.size (fun _=>none) :=
    ⟨_,#[],_,hgd,rfl,fun e he=>absurd he (by simp),fun _=>rfl⟩
   show wpAny _ _ (storeInDict h.objs.size (.str name tk) name v) _ _ _
   unfold storeInDict newKeyGuard
   refine PySem.wpAny_bind (PySem.wpAny_pure (PySem.wpAny_bind (PySem.wpAny_nsSet1 (Heap.Ns1.of_empty hnd) fun h' hn' hs=>?_)))
   obtain ⟨oD,esD,epD,hoD,hdD,hcD⟩:=hn'.count (Within.cons name v Within.nil)
   refine PySem.wpAny_bind (wpAny_lookBehind hoD (by rw [hdD];exact pastItsLine_dict (Nat.le_trans hcD (by rw [List.length_cons,List.length_nil,sizeLine_eq];omega))) ?_)
   wp_walk
   have hx':h'.get? x=some { cls:=o.cls,dict:=some h.objs.size,data:=o.data,slots:=o.slots }:=?_
   refine hq h' _ ⟨{ cls:=o.cls,dict:=some h.objs.size,data:=o.data,slots:=o.slots },hx',hc,hnc,.inr ⟨h.objs.size,rfl,hxs.symm,?_⟩⟩ (fun b ob hbx _ hb=>?_)
    (fun o₀ h₀=>by obtain rfl:o=o₀:=Option.some.inj (hx.symm.trans h₀);exact ⟨_,hx',rfl,rfl,rfl,(fun dx e=>by rw [hdn] at e;cases e),fun _ dx e=>by cases e;exact Heap.get?_none_of_le (Nat.le_refl _)⟩)
   ·obtain ⟨o',es,ep,e1,e2,e3,eu,e4⟩:=hn'
    exact ⟨o',es,ep,e1,e2,e3,eu,fun y=>by rw [e4 y];by_cases hy:y=name<;>simp [hy,hmA]⟩
   ·exact (hs.2 b (Nat.ne_of_lt (Heap.lt_size hb))).trans ((Heap.get?_update_ne _ _ _ _ hbx).trans (Heap.get?_push_of_some _ hb))
   ·refine (hs.2 x hxs).trans (Heap.get?_update_self _ hx₁ ?_)
    have hfr:=(Heap.get?_some_iff.mp hx).2
    obtain ⟨oc,od,odt,osl⟩:=o
    cases odt<;>first|rfl|exact hfr
 ·
  rw [hdx]
  refine PySem.wpAny_pure ?_
  show wpAny _ _ (storeInDict dx (.str name tk) name v) _ _ _
  unfold storeInDict newKeyGuard
  refine PySem.wpAny_bind (PySem.wpAny_pure (PySem.wpAny_bind (PySem.wpAny_nsSet1 hns fun h' hn' hs=>?_)))
  obtain ⟨oD,esD,epD,hoD,hdD,hcD⟩:=hn'.count (Within.cons name v hw)
  refine PySem.wpAny_bind (wpAny_lookBehind hoD (by rw [hdD];exact pastItsLine_dict (Nat.le_trans hcD (by rw [List.length_cons];omega))) ?_)
  wp_walk
  refine hq h' _ ⟨o,(hs.2 x hne.symm).trans hx,hc,hnc,.inr ⟨dx,hdx,hne,hn'⟩⟩ (fun b ob _ hbd hb=>?_)
   (fun o₀ h₀=>⟨o₀,(hs.2 x hne.symm).trans h₀,rfl,rfl,rfl,(fun _ e=>e),fun e dx' e'=>by obtain rfl:o=o₀:=Option.some.inj (hx.symm.trans h₀);rw [hdx] at e;cases e⟩)
  exact (hs.2 b (hbd o dx hx hdx)).trans hb
theorem AmQ {x:Addr}{mA:Str→Option Value}{name:Str}{v:Value}{Q:Unit→Shared→Prop}{ns:List Str}(X:K.In h)(Y:XCls K C bm P)(hsa:findIn K (.ref C) "__setattr__" = some (some (.builtin "object.__setattr__")))(hna:findIn K (.ref C) name=some none)(I:h.Inst x C mA)
  (hq:∀h' tk',h'.Inst x C (fun y=>if y=name then some v else mA y) →
   (∀b o,b≠x→(∀o₀ dx,h.get? x=some o₀→o₀.dict=some dx→b≠dx)→h.get? b=some o→h'.get? b=some o) →
   (∀o₀,h.get? x=some o₀→∃o₁,h'.get? x=some o₁∧o₁.cls=o₀.cls∧o₁.data=o₀.data∧o₁.slots=o₀.slots∧(∀dx,o₀.dict=some dx→o₁.dict=some dx)∧(o₀.dict=none→∀dx,o₁.dict=some dx→h.get? dx=none))→Q () ⟨h',g,d,tk',os⟩) (hw:Within mA ns) (hsz:ns.length≤sizeLine) :
  wpAny (model prog w) A (setAttr (.ref x) name v) Q E ⟨h,g,d,t,os⟩:=by
 obtain ⟨o,hx,hc,_⟩:=id I
 have SF:=PySem.F.store_Exception
 have f3:=SF.slot.bind (.ref x)
 have lk:=looks_findIn (M:=model prog w) X hsa
 unfold setAttr callSpecial? specialOf
 repeat (any_goals (first|assumption|(with_reducible refine wpAny_loadPart_at hx ?_;rw [hc])|(with_reducible refine lk.at ?_)|wp_step))
 refine codeAny_call_builtin SF.slot.plain SF.entry (Agg X Y hx hc (Adf X Y hna I (fun h' tk' I' hk hsame=>?_) hw hsz))
 repeat (any_goals (first|assumption|wp_step))
 exact hq h' tk' I' hk hsame
theorem AmK {x:Sem Value}{env:PEnv}{s:Shared}{Q:Flow→Shared→Prop}(Y:XCls K C bm P)(hh:A.handled=none)
  (h:wpAny (model prog w) A x (fun v s₁=>∃e oe t,v=.ref e∧K.In s₁.heap∧s₁.heap.get? e=some oe∧oe.cls=.ref C∧oe.data=.fields #[.ref t,.none,.none,.none,.bool false,.none]∧E (.ref e) s₁) E s) :
  wpAny (model prog w) A (raiseStmt env (some x) none) Q E s:=by
 have hcB:=Y.X
 unfold raiseStmt
 refine PySem.wpAny_bind (PySem.wpAny_mono h (fun v s₁ h₁=>?_) fun _ _ x=>x)
 obtain ⟨e,oe,t,rfl,X,he,hcls,hdat,hE⟩:=h₁
 have hC:=X _ _ Y.obj
 obtain ⟨hp,g,d,tk,os⟩:=s₁
 obtain ⟨oc,od,odt,osl⟩:=oe
 subst hcls
 subst hdat
 repeat (first|with_reducible refine wpAny_loadPart_at he ?_|with_reducible refine wpAny_loadPart_at hC ?_|(with_reducible refine wpAny_isSubtype_exc hC ?_;rw [hcB])|wp_step)
 exact wpAny_raiseNew_none hh hE
end
end Mine
end
section
namespace Mine
noncomputable def iniF:FnI:=⟨36,3,[.int 0],3,.nil⟩
noncomputable def iniN:List (List Nat):=[("self" : Str).cps.toList,("message" : Str).cps.toList,("spot" : Str).cps.toList]
noncomputable def iniA (x:Str)(s:PySem.Stmt):Bool:=AbG s fun ts v p=>lC ts fun g u=>lN u&&(V1 g (fun o a p=>V9 o (fun y p=>y==("self" : Str))&&a==x)&&V9 v fun y p=>y==x)
noncomputable def iniC (K:Frag)(sc:PySem.Scope)(s:PySem.Stmt):Bool:=AjV s fun e p=>AbJ e fun g args ks cp=>lN ks&&(V1 g (fun v x ap=>V9 v (fun y p=>y==("Exception" : Str)&&glob K sc "Exception" (isTy "Exception"))&&(x==("__init__" : Str)&&ap.endLine==cp.line)) &&
 lC args fun a r=>V9 a (fun y p=>y==("self" : Str))&&lC r fun b r=>lN r&&V9 b fun y p=>y==("message" : Str))
noncomputable def AhP (K:Frag)(fd:FuncData):Bool:=AfL fd.body (fun b=>lC b fun s1 r=>iniC K fd.scope s1&&lC r fun s2 r=>iniA "message" s2&&lC r fun s3 r=>lN r&&iniA "spot" s3) &&
 (fd.scope.names.lookup ("self" : Str)==some NameKind.local&&(fd.scope.names.lookup ("message" : Str)==some NameKind.local&&fd.scope.names.lookup ("spot" : Str)==some NameKind.local))
section
variable {prog:Program}{w:World}{A:Around}{E:Value→Shared→Prop}{h:Heap}{g:Array GenState}{d:Drawn}{t:Nat}{os:OsState}{K:Frag}{C:Addr}{bm:List Value}{P:XP}
theorem Aec {M:Model}{e:Addr}{oe:Obj}{rest:List Value}{Q:Unit→Shared→Prop}(X:K.In h)(Y:XCls K C bm P)(he:h.get? e=some oe)(hcls:oe.cls=.ref C)(hq:Q () ⟨h,g,d,t,os⟩) :
  wpAny M A (checkBuiltinCall "Exception.__init__" ⟨.ref e::rest,[]⟩) Q E ⟨h,g,d,t,os⟩:=by
 have hC:=X _ _ Y.obj
 have F:=PySem.F.excBase_Exception
 have hcB:=Y.B
 have hshort:=F.noStar
 simp only [checkBuiltinCall,F.initKind,F.initSplit,F.initRow]
 repeat (first|(with_reducible refine wpAny_loadPart_at he ?_;rw [hcls])|with_reducible refine wpAny_loadPart_at hC ?_|(with_reducible refine wpAny_isSubtype_exc hC ?_;rw [hcB])|wp_step)
 refine wpAny_onRaise ?_
 rw [show ∀(a b:String) (n:Nat),Bind.check ⟨.positional, "*", "Exception",.self,[⟨"args",.varPos,false⟩]⟩ a b n (List.map (fun x=>x.fst) ({ pos:=Value.ref e::rest }:Args).kw)=pure () from
  fun a b n=>check_star_args _ _ _ _ _ _]
 exact PySem.wpAny_pure hq
theorem Aoo {e:Addr}{oe:Obj}{t0:Addr}{v1:Value}{Q:Value→Shared→Prop}(X:K.In h)(Y:XCls K C bm P)(he:h.get? e=some oe)(hcls:oe.cls=.ref C)(hdat:oe.data=.fields #[.ref t0,.none,.none,.none,.bool false,.none])
  (hq:∀h',(∀b o,b≠e→h.get? b=some o→h'.get? b=some o)→h'.get? e=some { oe with data:=.fields #[.ref h.objs.size,.none,.none,.none,.bool false,.none] }→Q .none ⟨h',g,d,t,os⟩) :
  wpAny (model prog w) A (call (.builtin "Exception.__init__") [.ref e,v1]) Q E ⟨h,g,d,t,os⟩:=by
 have F:=PySem.F.excBase_Exception
 refine PySem.wpAny_call (codeAny_call_builtin F.init.plain F.initEntry (Aec X Y he hcls ?_))
 obtain ⟨oc,od,odt,osl⟩:=oe
 subst hdat
 subst hcls
 wp_walk
 exact hq _ (fun b o hb hg=>by
   rw [Heap.get?_update_other _ _ (Ne.symm hb)]
   exact Heap.get?_push_of_some _ hg) (by
   rw [Heap.get?_update_self _ (Heap.get?_push_of_some _ he) rfl]
   rfl)
theorem AiD {T:String}{name:Str}{v:Value}{pl:Sem Bool}{s:Shared}{Q:Value×List Value→Shared→Prop}(X:K.In s.heap)(ht:typeOf (.type T)=pure (.type "type"))(hs:Manifest.isStub T=false)
  (e:findCls K (.type T) (.type "type") name=some (.val v)) (hh:handedIn v=true) (h:Q (v,[]) { s with toks:=s.toks+1 }):wpAny (model prog w) A (getMethod (.type T) name pl) Q E s:=by
 have hstub:opaqueClassAbove (.type T)=pure none:=by unfold opaqueClassAbove;dsimp only;rw [hs];rfl
 have L0:Looks (model prog w) s.heap (typeOf (.type T)) (.type "type"):=Looks.of_pure ht
 have hg:findIn K (.type "type") "__getattribute__" = some (some (.builtin "type.__getattribute__")):=type_tga
 unfold getMethod specialOf
 refine PySem.wpAny_bind (PySem.wpAny_bind (L0.here ((looks_findIn X hg).here ?_)))
 dsimp only
 rw [if_pos canon_tga]
 refine PySem.wpAny_bind (PySem.wpAny_mono (Q:=fun v=>Q (v,[])) (E:=E) ?_ (fun _ _ z=>PySem.wpAny_pure z) fun _ _ z=>z)
 have LO:Looks (model prog w) s.heap (opaqueClassAbove (.type T)) none:=Looks.of_pure hstub
 refine cls_open X LO L0 hg (looks_hook X (r:=none) (by rfl)) (by show subIn K _ _=_;rfl) e
  (PySem.wpAny_pure (by show wpAny _ _ (handedOut v) _ _ _;rw [handedOut_of hh];exact PySem.wpAny_pure h))
theorem AcP:findCls K (.type "Exception") (.type "type") "__init__" = some (.val (.builtin "Exception.__init__")):=by
 show findCls [] (.type "Exception") (.type "type") "__init__" = _
 kernel_rfl
theorem AjB:typeOf (.type "Exception")=pure (.type "type"):=by kernel_rfl
theorem AjW:Manifest.isStub "Exception" = false:=by decide +kernel
structure Raw (e C:Addr)(s:Heap)(h:Heap)(mA:Str→Option Value):Prop where
 keep:∀b o,b≠e→s.get? b=some o→h.get? b=some o
 inst:h.Inst e C mA
 obj:∃oe t,h.get? e=some oe∧oe.cls=.ref C∧oe.data=.fields #[.ref t,.none,.none,.none,.bool false,.none]∧∀dx,oe.dict=some dx→s.get? dx=none
theorem AgV {base:Heap}{e:Addr}{sh:Heap}{mA:Str→Option Value}{name:Str}{v:Value}{s:Shared}{Q:Unit→Shared→Prop}{ns:List Str}(X:K.In base)(Y:XCls K C bm P)(hb:base.get? e=none)(st:base.StaysIn sh)(R:Raw e C sh s.heap mA)
  (hsa:findIn K (.ref C) "__setattr__" = some (some (.builtin "object.__setattr__"))) (hna:findIn K (.ref C) name=some none) (hw:Within mA ns) (hsz:ns.length≤sizeLine)
  (hq:∀h' tk',Raw e C sh h' (fun y=>if y=name then some v else mA y)→Q () { s with heap:=h',toks:=tk' }):wpAny (model prog w) A (setAttr (.ref e) name v) Q E s:=by
 obtain ⟨h,g,d,t,os⟩:=s
 obtain ⟨oe,t0,he,hcls,hdat,hdx⟩:=R.obj
 have st':base.StaysIn h:=fun b o q=>R.keep b o (fun z=>two (z▸q) hb) (st b o q)
 refine AmQ (X.keeps st') Y hsa hna R.inst (fun h' tk' I' k hs=>hq h' tk' ⟨fun b o hbe q=>k b o hbe (fun o₀ dx q1 q2 z=>?_) (R.keep b o hbe q),I',?_⟩) hw hsz
 ·cases Option.some.inj (he.symm.trans q1)
  exact two (z▸q) (hdx dx q2)
 ·obtain ⟨o₁,e1,e2,e3,e4,e5,e6⟩:=hs oe he
  refine ⟨o₁,t0,e1,e2.trans hcls,e3.trans hdat,fun dx q=>?_⟩
  cases hd:oe.dict with
  |some dx'=>exact Option.some.inj ((e5 dx' hd).symm.trans q)▸hdx dx' hd
  |none =>
   have:=e6 hd dx q
   cases hz:sh.get? dx with
   |none=>rfl
   |some o=>exact (Classical.em (dx=e)).elim (fun z=>two (z▸he) this) fun z=>two (R.keep dx o z hz) this
noncomputable def Ajs (e:Addr)(v1 v2:Value)(y:Str):Option Value:=if y=("spot" : Str) then some v2 else if y=("message" : Str) then some v1 else if y=("self" : Str) then some (.ref e) else none
theorem AbI {e:Addr}{v1 v2:Value}:Ajs e v1 v2 "self" = some (.ref e):=(if_neg (by decide)).trans ((if_neg (by decide)).trans (if_pos rfl))
theorem Ad4 {e:Addr}{v1 v2:Value}:Ajs e v1 v2 "message" = some v1:=(if_neg (by decide)).trans (if_pos rfl)
theorem AgB {e:Addr}{v1 v2:Value}:Ajs e v1 v2 "spot" = some v2:=if_pos rfl
end
section
variable {Γ:Wo}{A:Around}{E:Value→Shared→Prop}{C:Addr}{bm:List Value}{P:XP}{s:Shared}
theorem AjC {env:PEnv}{sc:PySem.Scope}{x:Str}{f:Value→Bool}{Q:Value→Shared→Prop}(W:Good Γ)(st:Γ.base.StaysIn s.heap)(hk:env.scope.kind=.function)(hgl:env.globals=mainGlobals)(hbl:env.builtins=builtinsNs)(hsc:env.scope=sc)(e:glob Γ.K sc x f=true)(pos:Pos)(h:∀v,f v=true→Q v s):wpAny Γ.M A (eval (.Name x pos) env) Q E s :=
 have hg:s.heap.Ns env.globals Γ.mg:=by rw [hgl];exact Abj W.g fun o e=>st _ o e
 have hb:s.heap.Ns env.builtins Γ.mb:=by rw [hbl];exact Abj W.b fun o e=>st _ o e
 Calls.Name_function_global hk (by show env.scope.names.lookup x=_;rw [hsc];exact bE (aL e)) (oS_e (aR (aR e)) fun o q h0=>@Option.casesOn _ (fun o=>nsIn Γ.K mainGlobals x=some o→@Option.casesOn _ (fun o=>Bool) o (oS (blt x) f) f=true→wpAny Γ.M A (loadGlobal env x) Q E s) o
  (fun q h0=>oS_e h0 fun v e h0=>loadGlobal_builtin hg (mg_none_of W.X W.g q) hb ((W.bb x (AfB e).2).trans (AfB e).1) (h v h0)) (fun v q h0=>loadGlobal_global hg (mg_of W.X W.g q) (h v h0)) q h0) (bE (aL (aR e)))
theorem Aiv {sh:Heap}{env:PEnv}{e:Addr}{v:Value}{mA:Str→Option Value}{m:Str→Option Value}{x:Str}{st:PySem.Stmt}{rest:List PySem.Stmt}{ns:List Str}{Q:Flow→Shared→Prop}(hs:iniA x st=true)(W:Good Γ)(Y:XCls Γ.K C bm P)(hb:Γ.base.get? e=none)(hst:Γ.base.StaysIn sh)(R:Raw e C sh s.heap mA)
  (hnf:env.scope.kind=.function) (kself:env.kindOf "self" = some .local) (kx:env.kindOf x=some .local) (hx:(x==("__debug__" : Str))=false) (hL:env.locals≠e) (hn:sh.Ns env.locals m) (m1:m "self" = some (.ref e)) (m2:m x=some v)
  (hsa:findIn Γ.K (.ref C) "__setattr__" = some (some (.builtin "object.__setattr__"))) (hna:findIn Γ.K (.ref C) x=some none) (hw:Within mA ns) (hsz:ns.length≤sizeLine)
  (k:∀h' tk',Raw e C sh h' (fun y=>if y=x then some v else mA y)→wpAny Γ.M A (execs rest env) Q E { s with heap:=h',toks:=tk' }):wpAny Γ.M A (execs (st::rest) env) Q E s :=
 have nsAt:s.heap.Ns env.locals m:=Abj hn fun o q=>R.keep _ o hL q
 Abr (P:=fun st=>wpAny Γ.M A (execs (st::rest) env) Q E s) hs fun ts y p hs=>lC_i (P:=fun ts=>wpAny Γ.M A (execs (.Assign ts y p::rest) env) Q E s) hs fun g u hs=>lN_i (P:=fun u=>wpAny Γ.M A (execs (.Assign (g::u) y p::rest) env) Q E s) (aL hs)
  (Z3 (P:=fun g=>wpAny Γ.M A (execs (.Assign [g] y p::rest) env) Q E s) (aL (aR hs)) fun o a ap ha=>X3 (P:=fun o=>wpAny Γ.M A (execs (.Assign [.Attribute o a ap] y p::rest) env) Q E s) (aL ha) fun z zp hz=>X3 (P:=fun y=>wpAny Γ.M A (execs (.Assign [.Attribute (.Name z zp) a ap] y p::rest) env) Q E s) (aR (aR hs)) fun q qp hq=>by
   cases bE (aR ha)
   cases bE hz
   cases bE hq
   refine wpAny_execs_cons (plainObj_wpAny_Assign_Attribute (wpAny_Name (wpAny_loadName_local hnf kx nsAt m2 ?_) hx) rfl)
   refine wpAny_Name (wpAny_loadName_local hnf kself nsAt m1 ?_) (by decide)
   exact AgV W.X Y hb hst R hsa hna hw hsz k)
theorem Al5 {e:Addr}{oe:Obj}{t0:Addr}{v1 v2:Value}{Q:Value→Shared→Prop}(W:Good Γ)(st:Γ.base.StaysIn s.heap)(dep:A.depth+3 < recursionLimit)(hi:fdK Γ.K 36 (AhP Γ.K)=true)(hp:fdK Γ.K 36 (chkP Γ.K iniF iniN)=true)(Y:XCls Γ.K C bm P)
  (hsa:findIn Γ.K (.ref C) "__setattr__" = some (some (.builtin "object.__setattr__"))) (hm:findIn Γ.K (.ref C) "message" = some none) (hs:findIn Γ.K (.ref C) "spot" = some none)
  (he:s.heap.get? e=some oe) (hcls:oe.cls=.ref C) (hdat:oe.data=.fields #[.ref t0,.none,.none,.none,.bool false,.none]) (hod:oe.dict=none) (hb:Γ.base.get? e=none)
  (hq:∀h' tk' oe t,(∀b o,b≠e→s.heap.get? b=some o→h'.get? b=some o)→h'.get? e=some oe→oe.cls=.ref C→oe.data=.fields #[.ref t,.none,.none,.none,.bool false,.none]→Q .none { s with heap:=h',toks:=tk' }) :
  codeAny Γ.M A (.call (.ref 36) ⟨[.ref e,v1,v2],[]⟩) (wants Q E) s:=by
 refine An7 hi hp fun o fd hk ed hi hp=>?_
 have F:=AiT hp
 have a13:=bE (aL (aR hi))
 have a14:=bE (aL (aR (aR hi)))
 have a15:=bE (aR (aR (aR hi)))
 refine AfZ (P:=fun b=>fd.body=b→codeAny Γ.M A (.call (.ref 36) ⟨[.ref e,v1,v2],[]⟩) (wants Q E) s) (aL hi) (fun body hb0 hbody=>?_) rfl
 refine lC_i (P:=fun body=>fd.body=.stmts body→codeAny Γ.M A (.call (.ref 36) ⟨[.ref e,v1,v2],[]⟩) (wants Q E) s) hb0 (fun s1 r hb0 hbody=>lC_i (P:=fun r=>fd.body=.stmts (s1::r)→codeAny Γ.M A (.call (.ref 36) ⟨[.ref e,v1,v2],[]⟩) (wants Q E) s) (aR hb0) (fun s2 r hb2 hbody=>lC_i (P:=fun r=>fd.body=.stmts (s1::s2::r)→codeAny Γ.M A (.call (.ref 36) ⟨[.ref e,v1,v2],[]⟩) (wants Q E) s) (aR hb2) (fun s3 r hb3 hbody=>lN_i (P:=fun r=>fd.body=.stmts (s1::s2::s3::r)→codeAny Γ.M A (.call (.ref 36) ⟨[.ref e,v1,v2],[]⟩) (wants Q E) s) (aL hb3) (fun hbody=>?_) hbody) hbody) hbody) hbody
 have hX:=W.In st
 refine ApS F.args fun args kd df hpr hnames hal=>?_
 have hal:args.length=3:=hal
 obtain ⟨dl,odv,hodv,hseq,hdl⟩:∃(dl:List Value) (odv:Option (Array Value)),(odv.getD #[]).toList=dl∧(∀{M:Model} {A:Around} {E:Value→Shared→Prop} {Q':Option (Array Value)→Shared→Prop},Q' odv s→wpAny M A (seqItems? fd.defaults) Q' E s)∧dl.length=1 :=
  (oR F.dv).elim (fun h=>ffE (aR h)) fun h=>Ac2 (P:=fun dv=>∃(dl:List Value) (odv:Option (Array Value)),(odv.getD #[]).toList=dl∧(∀{M:Model} {A:Around} {E:Value→Shared→Prop} {Q':Option (Array Value)→Shared→Prop},Q' odv s→wpAny M A (seqItems? dv) Q' E s)∧dl.length=1) h fun a h=>oS_e h fun o e h=>AgN (P:=fun d=>o.data=d→∃(dl:List Value) (odv:Option (Array Value)),(odv.getD #[]).toList=dl∧(∀{M:Model} {A:Around} {E:Value→Shared→Prop} {Q':Option (Array Value)→Shared→Prop},Q' odv s→wpAny M A (seqItems? (.ref a)) Q' E s)∧dl.length=1) (aR h) (fun xs m h ed =>
   ⟨xs.toList,some xs,rfl,fun {M A E Q'} q=>wpAny_seqItems (hX _ _ e) ed q,lC_i (P:=fun l=>l.length=1) (show AhK Γ.K [.int 0] xs.toList=true from h) fun v us h=>lN_i (P:=fun us=>(v::us).length=1) (aR h) rfl⟩) rfl
 refine codeAny_call_function (Nat.lt_of_le_of_lt (Nat.le_add_right _ _) dep) (hX _ _ hk) ed F.co F.gen hbody (codeRec_of hX F.code) ?_
 refine AiH hpr hseq hodv (by rw [hnames];exact AcC _ F.nd) (by rw [hal];exact Nat.le_refl _) (by rw [hal,hdl];exact Nat.le_succ _) (by rw [hal,hdl];decide) ?_
 rw [F.clos,hnames,hal,hdl,List.drop_eq_nil_of_le (by rw [hdl];exact Nat.le_refl _),List.append_nil]
 have hz:(List.map toS (List.take iniF.np iniN)).zip [Value.ref e,v1,v2]=[(("self" : Str),.ref e),(("message" : Str),v1),(("spot" : Str),v2)]:=rfl
 rw [hz]
 refine wpAny_newFunctionEnv_cells F.kind (fun x hx=>?_) fun env he' s₁ x=>?_
 ·simp only [List.mem_cons,List.not_mem_nil,or_false] at hx
  rcases hx with rfl|rfl|rfl
  ·exact .inl a13
  ·exact .inl a14
  ·exact .inl a15
 ·have k1:X0 s.heap s₁.heap:=x.toInCall.keep
  have hlim:=(W.lim.keeps st).keeps k1
  obtain ⟨h₁,tk₁,hs₁⟩:=x.toInCall.same
  have hnf:env.scope.kind=.function:=by rw [he'];exact F.kind
  have hgl:env.globals=mainGlobals:=by rw [he'];exact F.glob
  have hbl:env.builtins=builtinsNs:=by rw [he'];exact F.blt
  have hsc:env.scope=fd.scope:=by rw [he'];rfl
  have hL:env.locals=s.heap.objs.size:=by rw [he'];rfl
  have hn:=x.toInCall.ns
  have kself:env.kindOf "self" = some .local:=by show env.scope.names.lookup _=_;rw [hsc];exact a13
  have kmsg:env.kindOf "message" = some .local:=by show env.scope.names.lookup _=_;rw [hsc];exact a14
  have kspot:env.kindOf "spot" = some .local:=by show env.scope.names.lookup _=_;rw [hsc];exact a15
  have hm0:bindL env.kindOf [(("self" : Str),.ref e),(("message" : Str),v1),(("spot" : Str),v2)] (fun _=>none)=Ajs e v1 v2:=by
   unfold bindL bindL bindL bindL
   rw [if_pos kself,if_pos kmsg,if_pos kspot]
   rfl
  rw [hm0] at hn
  clear hm0 x he'
  have hLe:env.locals≠e:=by rw [hL];exact (Nat.ne_of_lt (Heap.lt_size he)).symm
  have st₁:Γ.base.StaysIn s₁.heap:=fun b o q=>k1 b o (st b o q)
  have he₁:=k1 e oe he
  refine ⟨hlim,codeAny_func ?_⟩
  refine AgY (P:=fun s1=>wpAny Γ.M (A.deeper env) (execs [s1,s2,s3] env) _ _ s₁) (aL hb0) fun ex pe hce=>W4 (P:=fun ex=>wpAny Γ.M (A.deeper env) (execs [.Expr ex pe,s2,s3] env) _ _ s₁) hce fun gx ag ks cp hce=>lN_i (P:=fun ks=>wpAny Γ.M (A.deeper env) (execs [.Expr (.Call gx ag ks cp) pe,s2,s3] env) _ _ s₁) (aL hce)
   (Z3 (P:=fun gx=>wpAny Γ.M (A.deeper env) (execs [.Expr (.Call gx ag [] cp) pe,s2,s3] env) _ _ s₁) (aL (aR hce)) fun vx an ap ha=>X3 (P:=fun vx=>wpAny Γ.M (A.deeper env) (execs [.Expr (.Call (.Attribute vx an ap) ag [] cp) pe,s2,s3] env) _ _ s₁) (aL ha) fun nx np hnx=>lC_i (P:=fun ag=>wpAny Γ.M (A.deeper env) (execs [.Expr (.Call (.Attribute (.Name nx np) an ap) ag [] cp) pe,s2,s3] env) _ _ s₁) (aR (aR hce)) fun a1 r hc1=>X3 (P:=fun a1=>wpAny Γ.M (A.deeper env) (execs [.Expr (.Call (.Attribute (.Name nx np) an ap) (a1::r) [] cp) pe,s2,s3] env) _ _ s₁) (aL hc1) fun y1 p1 hy1 =>
    lC_i (P:=fun r=>wpAny Γ.M (A.deeper env) (execs [.Expr (.Call (.Attribute (.Name nx np) an ap) (.Name y1 p1::r) [] cp) pe,s2,s3] env) _ _ s₁) (aR hc1) fun a2 r hc2=>lN_i (P:=fun r=>wpAny Γ.M (A.deeper env) (execs [.Expr (.Call (.Attribute (.Name nx np) an ap) (.Name y1 p1::a2::r) [] cp) pe,s2,s3] env) _ _ s₁) (aL hc2) (X3 (P:=fun a2=>wpAny Γ.M (A.deeper env) (execs [.Expr (.Call (.Attribute (.Name nx np) an ap) [.Name y1 p1,a2] [] cp) pe,s2,s3] env) _ _ s₁) (aR hc2) fun y2 p2 hy2=>?_))
  cases bE (aL hnx)
  cases bE (aL (aR ha))
  cases bE hy1
  cases bE hy2
  refine wpAny_execs_cons (wpAny_Expr_any (AcG rfl (AcD (Γ:=Γ) (sc:=fd.scope) (NE:=[]) (.cons .stuck (.cons .stuck .nil)) _ rfl) rfl (aR (aR ha)) ?_) (Aom hnf) rfl)
  refine AjC W st₁ hnf hgl hbl hsc (aR hnx) np fun v hv=>?_
  have ev:v=.type "Exception" := AkW (P:=fun v=>v=.type "Exception") hv rfl
  subst ev
  refine fun pl=>AiD (X:=W.X.keeps st₁) AjB AjW AcP rfl ?_
  refine callWith_of (P:=fun _=>True) rfl (fun h _=>U9 (by intro a q;cases q) h) ?_
  refine evalArgs_plain (spliced_cons (wpAny_Name (wpAny_loadName_local hnf kself hn AbI ?_) (by decide)))
  refine spliced_cons (wpAny_Name (wpAny_loadName_local hnf kmsg hn Ad4 ?_) (by decide))
  refine spliced_nil ⟨trivial,?_⟩
  revert hs₁
  obtain ⟨hp₁,g,dr,tk,os⟩:=s₁
  intro hs₁
  refine Aoo (W.X.keeps st₁) Y he₁ hcls hdat fun h' kp eo=>?_
  have R0:Raw e C hp₁ h' (fun _=>none):=⟨kp,⟨_,eo,hcls,(fun c q=>nomatch q),.inl ⟨hod,fun _=>rfl⟩⟩,_,_,eo,hcls,rfl,fun dx q=>nope (hod.symm.trans q)⟩
  refine Aiv (aL hb2) W Y hb st₁ R0 hnf kself kmsg (by decide) hLe hn AbI Ad4 hsa hm Within.nil (by decide) fun h₂ tk₂ R₂=>?_
  refine Aiv (aR hb3) W Y hb st₁ R₂ hnf kself kspot (by decide) hLe hn AbI AgB hsa hs (Within.cons _ _ Within.nil) (by decide) fun h₃ tk₃ R₃=>?_
  refine wpAny_execs_nil ?_
  obtain ⟨oe',t',q1,q2,q3,_⟩:=R₃.obj
  have:=hq h₃ tk₃ oe' t' (fun b o hbe q=>R₃.keep b o hbe (k1 b o q)) q1 q2 q3
  rw [hs₁]
  exact this
end
end Mine
end
section
namespace Mine
structure XOK (K:Frag)(C:Addr)(bm:List Value)(P:XP):Prop where
 Y:XCls K C bm P
 ini:findIn K (.ref C) "__init__" = some (some (.ref 36))
 fn:typeIn K (.ref 36)=some (.type "function")
 keep:keepIn K (.ref C)=true
 sa:findIn K (.ref C) "__setattr__" = some (some (.builtin "object.__setattr__"))
 msg:findIn K (.ref C) "message" = some none
 spot:findIn K (.ref C) "spot" = some none
theorem bm_i {bm:List Value}{G:Prop}(h:bmOk bm=true)(k1:bm=[.type "Exception",.type "BaseException",.type "object"]→G)(k2:∀x,bm=[.ref x,.type "Exception",.type "BaseException",.type "object"]→G):G :=
 (oR h).elim (fun h=>k1 (bE h)) fun h=>lC_i (P:=fun l=>(∀x,l=[.ref x,.type "Exception",.type "BaseException",.type "object"]→G)→G) h (fun a r h=>Ac2 (P:=fun a=>(∀x,a::r=[.ref x,.type "Exception",.type "BaseException",.type "object"]→G)→G) (aL h) fun x _ k=>k x (congrArg (Value.ref x::·) (bE (aR h)))) k2
theorem AmY {K:Frag}{C:Addr}{bm:List Value}{P:XP}(o:K.lookup C=some (excClassObj P.nm P.q C P.N P.bs bm true P.sn P.sub P.ab P.col P.dd P.k0 P.k1 P.k2 P.k3 P.k5 "Exception.__new__"))(h:bmOk bm=true):XCls K C bm P :=
 bm_i h (fun e=>by subst e;exact ⟨o,rfl,rfl,rfl,rfl,rfl,PySem.F.store_Exception.passes⟩) fun x e=>by subst e;exact ⟨o,rfl,rfl,rfl,rfl,rfl,fun self=>by rw [refuseLoop_ref];exact PySem.F.store_Exception.passes self⟩
theorem Ank {K:Frag}{C:Addr}{G:Prop}(h:chkX K C=true)(k:∀bm P,XOK K C bm P→G):G:=oS_e (aL h) fun o e h1=>a2 (aR h) fun h2 h=>a2 h fun h3 h=>a2 h fun h4 h=>a2 h fun h5 h=>a2 h fun h6 h7=>by
 obtain ⟨cls,dd,dat,sl⟩:=o
 cases bE (aL h1)
 have h1:=aR h1
 refine AnZ (P:=fun dat=>K.lookup C=some ⟨.type "type",dd,dat,sl⟩→G) (aL h1) (fun c hc e=>?_) e
 obtain ⟨nm,bs,mro,N,q,hdct,sn,sub,ab,col,hdel⟩:=c
 cases hc1:hdct with
 |false=>exact bF (aL hc) hc1
 |true =>
  cases hd1:hdel with
  |true=>exact bF hd1 (nT (aL (aR hc)))
  |false =>
   subst hc1 hd1
   refine lC_i (P:=fun mro=>K.lookup C=some ⟨.type "type",dd,.cls ⟨nm,bs,mro,N,q,true,sn,sub,ab,col,false⟩,sl⟩→G) (aR (aR hc)) (fun a bm hb e=>?_) e
   cases bE (aL hb)
   obtain ⟨sl⟩:=sl
   refine lC_i (P:=fun sl=>K.lookup C=some ⟨.type "type",dd,.cls ⟨nm,bs,.ref C::bm,N,q,true,sn,sub,ab,col,false⟩,⟨sl⟩⟩→G) (show (lC sl fun a l=>lC l fun a l=>lC l fun a l=>lC l fun a l=>lC l fun n l=>n==some (.builtin "Exception.__new__")&&lC l fun a l=>lN l)=true from aR h1) (fun k0 r hs e=>lC_i (P:=fun r=>K.lookup C=some ⟨.type "type",dd,.cls ⟨nm,bs,.ref C::bm,N,q,true,sn,sub,ab,col,false⟩,⟨k0::r⟩⟩→G) hs (fun k1 r hs e=>lC_i (P:=fun r=>K.lookup C=some ⟨.type "type",dd,.cls ⟨nm,bs,.ref C::bm,N,q,true,sn,sub,ab,col,false⟩,⟨k0::k1::r⟩⟩→G) hs (fun k2 r hs e=>lC_i (P:=fun r=>K.lookup C=some ⟨.type "type",dd,.cls ⟨nm,bs,.ref C::bm,N,q,true,sn,sub,ab,col,false⟩,⟨k0::k1::k2::r⟩⟩→G) hs (fun k3 r hs e =>
    lC_i (P:=fun r=>K.lookup C=some ⟨.type "type",dd,.cls ⟨nm,bs,.ref C::bm,N,q,true,sn,sub,ab,col,false⟩,⟨k0::k1::k2::k3::r⟩⟩→G) hs (fun k4 r hs e=>lC_i (P:=fun r=>K.lookup C=some ⟨.type "type",dd,.cls ⟨nm,bs,.ref C::bm,N,q,true,sn,sub,ab,col,false⟩,⟨k0::k1::k2::k3::k4::r⟩⟩→G) (aR hs) (fun k5 r hr e=>lN_i (P:=fun r=>K.lookup C=some ⟨.type "type",dd,.cls ⟨nm,bs,.ref C::bm,N,q,true,sn,sub,ab,col,false⟩,⟨k0::k1::k2::k3::k4::k5::r⟩⟩→G) hr (fun e=>by
     cases bE (aL hs)
     exact k bm ⟨nm,q,N,bs,sn,sub,ab,col,dd,k0,k1,k2,k3,k5⟩ ⟨AmY e (aR hb),bE h2,bE h3,h4,bE h5,bE h6,bE h7⟩) e) e) e) e) e) e) e
section
variable {Γ:Wo}{n:Nat}
theorem AiM {Φ:Fx n}{ι:Io}{s:Shared}{vs:List Value}{ds:List D}{P G:Prop}(w:AbX ds P)(r:VRs ι s.heap vs ds)(k:∀v1 v2,vs=[v1,v2]→P→G):G:=by
 cases ds with
 |nil=>exact hiE w
 |cons a ds=>cases ds with
  |nil=>exact hiE w
  |cons b ds=>cases ds with
   |nil=>exact LR.two_i (P:=fun vs=>(∀v1 v2,vs=[v1,v2]→P→G)→G) r (fun x u _ _ k=>k x u rfl w) k
   |cons _ _=>exact hiE w
theorem Afr {c:Nat}{es:Exs}(W:Good Γ)(hini:fdK Γ.K 36 (AhP Γ.K)=true)(hpi:fdK Γ.K 36 (chkP Γ.K iniF iniN)=true)(h2:EvsOK Γ n es):StOK Γ n (.raise c es):=fun Φ x ι s σ ρ Qd Xd Q E hc S w K=>Aj2 (P:=fun x=>wpAny Γ.M Φ.A (exec x Φ.env) Q E s) hc fun ex ca pos hc=>oN_i (P:=fun ca=>wpAny Γ.M Φ.A (exec (.Raise ex ca pos) Φ.env) Q E s) (aL hc)
 (oS_i (P:=fun ex=>wpAny Γ.M Φ.A (exec (.Raise ex none pos) Φ.env) Q E s) (aR hc) fun y hc=>W4 (P:=fun y=>wpAny Γ.M Φ.A (exec (.Raise (some y) none pos) Φ.env) Q E s) hc fun g args ks cp hc=>lN_i (P:=fun ks=>wpAny Γ.M Φ.A (exec (.Raise (some (.Call g args ks cp)) none pos) Φ.env) Q E s) (aL hc)
  (X3 (P:=fun g=>wpAny Γ.M Φ.A (exec (.Raise (some (.Call g args [] cp)) none pos) Φ.env) Q E s) (aL (aR hc)) fun x p hg=>Ank (aL (aR (aR hc))) fun bm P X=>by
   rw [arm_exec_Raise]
   show wpAny _ _ (do standAt pos;raiseStmt Φ.env (some (do let v ←eval (.Call (.Name x p) args [] cp) Φ.env;standAt pos;pure v)) none) _ _ _
   refine PySem.wpAny_bind (wpAny_standAt (AmK X.Y Φ.Rm.hh (PySem.wpAny_bind ?_)))
   refine PySem.wpAny_mono (Call_ (Ab6 W S hg p (Aah (first:=[]) (Ph:=Γ.K.In) (fun h=>keeps_K X.keep h) (fun h=>W.In) h2 (aR (aR (aR hc))) S (Qe:=fun ds h1=>AbX ds (Xd c ρ h1)) (rel:=fun ι h (u v:Unit)=>True) (Qd:=fun u h=>False) (Q:=fun u s=>False) w ⟨fun v ι' h' tk' d σ' e H r q=>q,fun x ι' h' tk' c σ' e H r q=>K.ex x ι' h' tk' c ρ σ' e.wide (S.ext e H) r q⟩ fun vs s₁ ds σ₁ ι₁ S1 e1 r1 w K1=>?_))) (fun v s₂ h=>PySem.wpAny_bind (wpAny_standAt (PySem.wpAny_pure h))) fun _ _ e=>e
   refine AiM (Φ:=Φ) w r1.1 fun v1 v2 ev w=>?_
   subst ev
   obtain ⟨h,g,d,t,os⟩:=s₁
   refine Aox (W.X.keeps S1.hr.stay) X.Y X.ini X.fn (fun h1 e MM=>?_) (show 2≤sizeLine from by decide)
   obtain ⟨k1,fe,t0,he,ft,_⟩:=MM
   have hb:Γ.base.get? e=none:=Adn S1.hr.stay fe
   refine PySem.wpAny_call (Al5 (s:=⟨h1,g,d,t,os⟩) W (fun b o q=>k1 b o (S1.hr.stay b o q)) ?_ hini hpi X.Y X.sa X.msg X.spot he rfl rfl rfl hb fun h' tk' oe t k eo oc od=>?_)
   ·show Φ.A.depth+1+3 < _
    exact Nat.lt_of_le_of_lt (by omega) Φ.Rm.dep
   ·have kk:X0 h h':=fun b o q=>k b o (fun z=>two (z▸q) fe) (k1 b o q)
    exact ⟨rfl,e,oe,t,rfl,W.X.keeps fun b o q=>kk b o (S1.hr.stay b o q),eo,oc,od,K1.ex e ι₁ h' tk' c σ₁ (Ext.more kk) (S1.hr.more kk) (.mk eo oc od fe hb (.inl ⟨rfl,rfl⟩)) w⟩))
end
end Mine
end
section
namespace Mine
noncomputable def Alt (K:Frag):Bool:=clsT.all (AnC K)&&(fnT.all (fun fi=>keepIn K (.ref fi.addr))&&((List.range 85).all (fun i=>oS fnT[i]? fun fi=>oS varN[i]? fun nm=>fdK K fi.addr (chkF K fi nm)&&fdK K fi.addr (chkP K fi nm))&&(fdK K 36 (AhP K)&&fdK K 36 (chkP K iniF iniN))))
section
variable {Γ:Wo}
theorem Ah7 (W:Good Γ)(T:Alt Γ.K=true)(hd:CodeHd Γ.base codA tabA)(hb:Γ.base.BuiltinsAt Γ.mg tabA):∀n,AaJ Γ n:=@Nat.rec _ (fun f fi vs as fl A ι s σ Qd Xd Q E ef hfr Rm H ff r w K=>hiE w) fun n ih =>
 have T2:=aR (aR T)
 AiX W ih hd hb (fun c es=>Afr W (aL (aR T2)) (aR (aR T2)) (Z9 (AhY W ih es))) fun f fi e=>by
  have q:=List.all_eq_true.mp (aL T2) f (List.mem_range.mpr (show f < 85 from Abd e))
  rw [e] at q
  exact oS_e (show oS varN[f]? (fun nm=>fdK Γ.K fi.addr (chkF Γ.K fi nm)&&fdK Γ.K fi.addr (chkP Γ.K fi nm))=true from q) fun nm _ q=>⟨nm,aL q,aR q⟩
theorem Ame {ι:Io}{h:Heap}{vs:List Value}{ns:List Int}(r:IntsAre vs ns):VRs ι h vs (ns.map D.int):=by
 induction r with
 |nil=>exact LR.nil
 |cons n t r ih=>exact LR.cons vInt ih
theorem AhQ {name:Str}{scope:PySem.Scope}{body:List PySem.Stmt}{L fa a:Addr}{cd:Value}{vs:List Value}{ns:List Int}{s:Shared}{m:Str→Option Value}{n:Nat}{sts:Sts}{rest:Nat}{nm:List (List Nat)}{Q:Flow→Shared→Prop}{E:Value→Shared→Prop}
  (X:Γ.K.In Γ.base) (g:Γ.base.Ns mainGlobals Γ.mg) (b:Γ.base.Ns builtinsNs Γ.mb) (lim:Γ.base.NoLimit) (bb:∀x:Str,x ≠ "__name__" → Γ.mb x=bootBuiltins x) (T:Alt Γ.K=true) (hd:CodeHd Γ.base codA tabA) (hb:Γ.base.BuiltinsAt Γ.mg tabA) (B:Below callerA Γ.base [] Γ.base)
  (F:Fr Γ.base L s.heap m) (hm:m ("script" : Str)=some (.ref a)) (hl:Γ.base.IsList a vs.toArray) (hI:IntsAre vs ns) (ht0:Γ.base.get? 151=none) (ht1:s.heap.get? 151=some (tabObj #[])) (hL:151 < L)
  (hk:scope.kind=.function) (hs:scope.names.lookup ("script" : Str)=some NameKind.local) (hp:∀p∈scope.names,p.2≠.cell∧p.2≠.free) (hchk:AkD Γ.K scope ((("script" : Str).cps.toList::nm).zipIdx) sts body=true) (hn:n≤80)
  (hlaw:wSs (J0 n) sts (some (.lst (ns.map D.int))::List.replicate rest none) [.tab] (fun f x h=>f=.rt (.bool true)∧h[0]? = some .tab) (fun x y z=>False))
  (hQ:∀h' tk',(∀b o,Γ.base.get? b=some o→h'.get? b=some o)→(∃ps,h'.get? 151=some (tabObj ps))→Q (.ret (.bool true)) { s with heap:=h',toks:=tk' }) :
  wpAny Γ.M (callerA.deeper (envOf name scope L fa cd)) (execs body (envOf name scope L fa cd)) Q E s:=by
 have W:Good Γ:=⟨X,g,b,lim,bb,aL T,aL (aR T)⟩
 have C:=Ah7 W T hd hb n
 have T2:=aR (aR T)
 have hno:∀y:Str,¬(scope.names.lookup y=some .cell∨scope.names.lookup y=some .free):=fun y q=>q.elim (fun q=>(hp _ (mem_of_lookup q)).1 rfl) fun q=>(hp _ (mem_of_lookup q)).2 rfl
 have hLn:Γ.base.get? L=none:=Heap.get?_none_of_le F.above
 have one:∀{b:Nat},b∈adr (⟨[(151,none)],[]⟩:Io)→b=151:=fun q=>List.mem_singleton.mp q
 have LL:L∉adr (⟨[(151,none)],[]⟩:Io):=fun q=>Nat.lt_irrefl _ (one q▸hL)
 have H:HR Γ ⟨[(151,none)],[]⟩ [.tab] s.heap:=by
  refine ⟨F.keep,rfl,fun l o e=>?_,List.nodup_cons.mpr ⟨(fun q=>nomatch q),List.nodup_nil⟩,fun b hb'=>one hb'▸ht0,fun b hb'=>(nomatch hb'),g.elim fun o y=>y.elim fun _ y=>y.elim fun _ y=>⟨o,y.1⟩,fun b hb'=>(List.mem_singleton.mp hb':b=151)▸(by decide)⟩
  cases l with
  |zero=>cases Option.some.inj e;exact ⟨(151,none),rfl,TabO.mk ht1 trivial⟩
  |succ l=>exact nope e
 have hfr:(callerA.deeper (envOf name scope L fa cd)).frames=some [envOf name scope L fa cd]:=rfl
 have hF:∀b∈fls [envOf name scope L fa cd],b=L:=fun b hb'=>List.mem_singleton.mp hb'
 have dep:(callerA.deeper (envOf name scope L fa cd)).depth+8 * n+4 < recursionLimit:=by
  show 1+claimMargin+1+8 * n+4 < 1000
  have:claimMargin=300:=rfl
  omega
 have uni:(callerA.deeper (envOf name scope L fa cd)).units+64 * n+100 < cLine:=by
  show 4+3+64 * n+100 < cLine
  have:cLine=9900:=rfl
  omega
 have S:SR Γ (⟨[envOf name scope L fa cd],callerA.deeper (envOf name scope L fa cd),envOf name scope L fa cd,(("script" : Str).cps.toList::nm).zipIdx,hfr,⟨rfl,dep,uni⟩⟩:Fx n) ⟨[(151,none)],[]⟩ [.tab] (some (.lst (ns.map D.int))::List.replicate rest none) s.heap:=by
  refine ⟨H,⟨(B.push F hk).frames,fun b hb'=>hF b hb'▸⟨_,F.ns⟩,fun b hb'=>hF b hb'▸LL⟩,⟨hk,rfl,rfl,⟨_,F.ns⟩,fun x c e=>(nomatch e),fun x y c e=>(nomatch e),fun x q=>absurd q (hno x),⟨LL,hLn⟩,fun x c e=>(nomatch e),fun q=>absurd q (hno _)⟩,fun x i d hi hd'=>?_,Exists.intro _ ⟨[],L,rfl,rfl,rfl⟩⟩
  obtain ⟨j,ej,h2⟩:=AdU _ _ _ hi
  cases (show i=j from ej)
  cases i with
  |succ i =>
   rw [List.getElem?_cons_succ,List.getElem?_replicate] at hd'
   split at hd'
   ·cases hd'
   ·exact nope hd'
  |zero =>
   cases Option.some.inj (Option.some.inj hd')
   cases (show x = "script" from (congrArg toS (Option.some.inj h2)).symm)
   refine .loc hs F.ns hm (vLst (vs:=vs) ?_ (fun q=>?_) (Ame hI))
   ·exact hl.elim fun o e=>⟨o,F.keep _ o e.1,e.2⟩
   ·exact hl.elim fun o e=>two (one q▸e.1) ht0
 refine Ahq W C hd hb (fun c es=>Afr W (aL (aR T2)) (aR (aR T2)) (Z9 (AhY W C es))) sts ⟨[envOf name scope L fa cd],callerA.deeper (envOf name scope L fa cd),envOf name scope L fa cd,(("script" : Str).cps.toList::nm).zipIdx,hfr,⟨rfl,dep,uni⟩⟩ body _ s [.tab] _ _ _ Q E hchk S hlaw
  ⟨fun v ι' h' tk' f ρ' σ' e S' r q=>?_,fun x ι' h' tk' c ρ' σ' e S' X q=>q.elim⟩
 obtain ⟨q1,q2⟩:=q
 subst q1
 obtain ⟨u,ev,ru⟩:=r
 subst ev
 cases (show u=.bool true from ru)
 exact AoS (tab0 S'.hr q2).2 fun ps hP _=>hQ h' tk' S'.hr.stay ⟨ps,hP⟩
end
end Mine
end
end
section
set_option maxHeartbeats 8000000
open PySem PySem.W PySem.Spec PySem.Calls PyProof.Rows
namespace Mine
theorem AdP {p:Program}{loose:List Str}{mean:ExcName→Option Value}{mg mb:Str→Option Value}{h:Heap}(T:Top p loose mean mg mb h)(hn:h.get? 151=none):h.BuiltinsAt mg tabA:=by
 obtain ⟨bm,ob,h1,h2,h3,h4,h5,h6⟩:=T.bmain
 refine ⟨bm,ob,h1,h2,fun q=>?_,fun q=>?_,h3,h4,h5,h6⟩
 ·obtain ⟨o,es,ep,e,d,_⟩:=T.g
  rw [q,e] at h3
  cases h3
  rw [h6] at d
  cases d
 ·rw [q] at h3
  have:h.get? 151=some ob:=h3
  rw [hn] at this
  cases this
end Mine
end
section
set_option maxHeartbeats 8000000
open PySem PySem.W PyProof.Rows
namespace Mine.fin
noncomputable def tw9703995961882730528:=()
noncomputable def tw12740692763255036000:=()
noncomputable def tw18105285910621931680:=()
noncomputable def tw5634151482396758240:=()
noncomputable def tw6435670951450185984:=()
noncomputable def tw10599938827571368224:=()
noncomputable def tw2070271336192807200:=()
noncomputable def tw4209717502836232480:=()
noncomputable def tw5959876418071484736:=()
noncomputable def tw1544503264643628384:=()
noncomputable def tw3506512066687448480:=()
noncomputable def tw3767311804947220896:=()
noncomputable def tw828056024939588000:=()
noncomputable def tw4640724917100965312:=()
noncomputable def tw17801579834951734752:=()
noncomputable def tw16722612574783549952:=()
noncomputable def tw14109310954907245088:=()
noncomputable def tw2523478847598653984:=()
noncomputable def tw10728385900330055232:=()
noncomputable def tw13119895379190043232:=()
noncomputable def tw15913912297419572864:=()
noncomputable def tw12534922522094339712:=()
noncomputable def tw3853475060279184000:=()
noncomputable def tw17701328389417463424:=()
noncomputable def tw18203403984663443072:=()
noncomputable def tw6515953530934532768:=()
noncomputable def tw799341379326975648:=()
noncomputable def tw16326573535979396768:=()
noncomputable def tw9757074474933493440:=()
noncomputable def tw2516017022742817472:=()
noncomputable def tw8656503046869711584:=()
noncomputable def tw11923680722139196160:=()
noncomputable def tw17748852888720816928:=()
noncomputable def tw13718649260633737024:=()
noncomputable def tw11325060847842403200:=()
noncomputable def tw8058895272353334144:=()
noncomputable def tw17681516322279627680:=()
noncomputable def tw7558420492911801248:=()
noncomputable def tw11156769864338437024:=()
noncomputable def tw11298980531735778240:=()
noncomputable def tw9883050511414546368:=()
noncomputable def tw11192643925408225281:=()
noncomputable def tw2204852077615127585:=()
noncomputable def tw7522001649326652513:=()
noncomputable def tw174019566453475457:=()
noncomputable def tw6220327705178566785:=()
noncomputable def tw10704335966402640001:=()
noncomputable def tw11293339424137598113:=()
noncomputable def tw11575174756993882273:=()
noncomputable def tw2885147992704089249:=()
noncomputable def tw12487371901255815361:=()
noncomputable def tw15153159077126877473:=()
noncomputable def tw8654399550266618177:=()
noncomputable def tw7249652514872940865:=()
noncomputable def tw6471637959255122241:=()
noncomputable def tw4704930585520482657:=()
noncomputable def tw15566928917628492161:=()
noncomputable def tw8446749797226024353:=()
noncomputable def tw15815952407149668801:=()
noncomputable def tw13582292425324344769:=()
noncomputable def tw4443050520305737185:=()
noncomputable def tw14838103818555229697:=()
noncomputable def tw1545086475593560577:=()
noncomputable def tw452842511749404161:=()
noncomputable def tw9508293364712189505:=()
noncomputable def tw6352828451902743105:=()
noncomputable def tw10850621001676330593:=()
noncomputable def tw945457799607111265:=()
noncomputable def tw9509447333196811905:=()
noncomputable def tw11772964195913830049:=()
noncomputable def tw1519764728837627585:=()
noncomputable def tw1050772042951663329:=()
noncomputable def tw11414119711712004833:=()
noncomputable def tw3794220679723124481:=()
noncomputable def tw9562887932049252097:=()
noncomputable def tw7072277547680571169:=()
noncomputable def tw15205425988870721313:=()
noncomputable def tw8408514402456403777:=()
noncomputable def tw4440197508161821537:=()
noncomputable def tw18105942590061964161:=()
noncomputable def tw4928979718650693569:=()
noncomputable def tw8119881530291889089:=()
noncomputable def tw10478924771774928865:=()
noncomputable def tw5678346346211369953:=()
noncomputable def tw14921402304766138370:=()
noncomputable def tw5486226609284752418:=()
noncomputable def tw17717364068325071970:=()
noncomputable def tw4533668543753331810:=()
noncomputable def tw5106123347721008290:=()
noncomputable def tw8775384921122389154:=()
noncomputable def tw9357874355931990178:=()
noncomputable def tw15675102808854859970:=()
noncomputable def tw12448240930570709186:=()
noncomputable def tw5689665320540551426:=()
noncomputable def tw3373110491918621954:=()
noncomputable def tw8018989035897545986:=()
noncomputable def tw6815667921103612162:=()
noncomputable def tw11067033192786714914:=()
noncomputable def tw17407121136558984578:=()
noncomputable def tw10699407837109476802:=()
noncomputable def tw7995428538843987458:=()
noncomputable def tw12454092890298587682:=()
noncomputable def tw3510506673179690562:=()
noncomputable def tw265940963699897922:=()
noncomputable def tw16503470079419688546:=()
noncomputable def tw2824846461999071874:=()
noncomputable def tw10696652717036330658:=()
noncomputable def tw10194128795564708546:=()
noncomputable def tw3246839028233683650:=()
noncomputable def tw11869342324683393730:=()
noncomputable def tw14721709283769024194:=()
noncomputable def tw4910921440188858082:=()
noncomputable def tw8324475765796731650:=()
noncomputable def tw9038226972742754082:=()
noncomputable def tw9777358683055682370:=()
noncomputable def tw17311274769643918242:=()
noncomputable def tw13469397999491448738:=()
noncomputable def tw4769821431679368130:=()
noncomputable def tw14850281960500911042:=()
noncomputable def tw12962497063298326498:=()
noncomputable def tw11627564742378439650:=()
noncomputable def tw4424551920762525699:=()
noncomputable def tw18082680734076937219:=()
noncomputable def tw13574545013463194659:=()
noncomputable def tw18011332887955570755:=()
noncomputable def tw670465573061467203:=()
noncomputable def tw13467322939085005891:=()
noncomputable def tw8590288500278120515:=()
noncomputable def tw2185935427153128515:=()
noncomputable def tw17314879045244329059:=()
noncomputable def tw17149882997012438147:=()
noncomputable def tw4186671074074167459:=()
noncomputable def tw17881394067367492771:=()
noncomputable def tw18203776172705718467:=()
noncomputable def tw6827196828439936291:=()
noncomputable def tw4992356995671143779:=()
noncomputable def tw17344510285554748771:=()
noncomputable def tw8151358987872166243:=()
noncomputable def tw4170516301191304579:=()
noncomputable def tw4574527179188669827:=()
noncomputable def tw3023385222666876323:=()
noncomputable def tw584112131590315491:=()
noncomputable def tw9113340658982188547:=()
noncomputable def tw17465016565071970851:=()
noncomputable def tw638937937634476611:=()
noncomputable def tw9436355067682764387:=()
noncomputable def tw14939693663707051619:=()
noncomputable def tw13066358836101814915:=()
noncomputable def tw16115155874713506467:=()
noncomputable def tw5402249366112354979:=()
noncomputable def tw11454252539852477091:=()
noncomputable def tw3762306804915933987:=()
noncomputable def tw9246303508379850531:=()
noncomputable def tw4124276233288881987:=()
noncomputable def tw15989303212955285315:=()
noncomputable def tw11147117730913898307:=()
noncomputable def tw2896703901015224195:=()
noncomputable def tw12135189313929291683:=()
noncomputable def tw16892666456041662371:=()
noncomputable def tw1903126291601959907:=()
noncomputable def tw11707752901727499235:=()
noncomputable def tw11151619158091525091:=()
noncomputable def tw15191739723255019524:=()
noncomputable def tw5788617169152180260:=()
noncomputable def tw9073057256386726948:=()
noncomputable def tw16117218838092406820:=()
noncomputable def tw8511326990415419460:=()
noncomputable def tw6667815254911646788:=()
noncomputable def tw15130973080138329188:=()
noncomputable def tw8088732932480780420:=()
noncomputable def tw7786677914034681988:=()
noncomputable def tw5812312609449684100:=()
noncomputable def tw11462241541112437924:=()
noncomputable def tw9825859731914700964:=()
noncomputable def tw17132207802985990308:=()
noncomputable def tw7070076370878917828:=()
noncomputable def tw9428015183855846628:=()
noncomputable def tw14345562132136545540:=()
noncomputable def tw3733651895302910212:=()
noncomputable def tw11900726367713137988:=()
noncomputable def tw6388184931127306564:=()
noncomputable def tw9559820642381380932:=()
noncomputable def tw15846704840505152836:=()
noncomputable def tw17662344363894024548:=()
noncomputable def tw17036620345825979748:=()
noncomputable def tw12979919090201106820:=()
noncomputable def tw8629152706101051812:=()
noncomputable def tw16912196016219973028:=()
noncomputable def tw17670266018552243620:=()
noncomputable def tw6245052726248493572:=()
noncomputable def tw8607229883538334244:=()
noncomputable def tw11355490997034717764:=()
noncomputable def tw10708223146118651492:=()
noncomputable def tw11309971608317499012:=()
noncomputable def tw15367214624046358148:=()
noncomputable def tw18345640342736445060:=()
noncomputable def tw16991462679434999460:=()
noncomputable def tw2775396313129547428:=()
noncomputable def tw2995622967998787300:=()
noncomputable def tw3865292505339112164:=()
noncomputable def tw6620434350048004:=()
noncomputable def tw14819470525377895172:=()
noncomputable def tw15434440284735832900:=()
noncomputable def tw3302319216010004292:=()
noncomputable def tw848606289541702500:=()
noncomputable def tw11395320378806372228:=()
noncomputable def tw7334248845499685764:=()
noncomputable def tw17963964198891936676:=()
noncomputable def tw14257018576560825284:=()
noncomputable def tw18099640592841667524:=()
noncomputable def tw15720169278158731236:=()
noncomputable def tw12389367852926655493:=()
noncomputable def tw9260378047223084069:=()
noncomputable def tw4696956992080197669:=()
noncomputable def tw3717791156732904485:=()
noncomputable def tw1560641971993327685:=()
noncomputable def tw882229546687200357:=()
noncomputable def tw4775051631455894629:=()
noncomputable def tw6202570286863721605:=()
noncomputable def tw5197314502515736709:=()
noncomputable def tw2367325634123391141:=()
noncomputable def tw7163653591271443685:=()
noncomputable def tw11205304004016384229:=()
noncomputable def tw2394721887258651877:=()
noncomputable def tw7929640520542984453:=()
noncomputable def tw15488412567658976549:=()
noncomputable def tw6361463693118634277:=()
noncomputable def tw10818889477481085253:=()
noncomputable def tw5585719645790517573:=()
noncomputable def tw13496708705503635781:=()
noncomputable def tw15476544859757588837:=()
noncomputable def tw8053913732961167717:=()
noncomputable def tw18029292227714294213:=()
noncomputable def tw3523348777828740581:=()
noncomputable def tw8269367382603917829:=()
noncomputable def tw612862322836996645:=()
noncomputable def tw9052857236999984677:=()
noncomputable def tw6956187926921108005:=()
noncomputable def tw14578271805448956485:=()
noncomputable def tw4713690678409872965:=()
noncomputable def tw13501502787908985413:=()
noncomputable def tw14979938633740849765:=()
noncomputable def tw3906754673857718949:=()
noncomputable def tw11497045990708751045:=()
noncomputable def tw6765885160407392965:=()
noncomputable def tw6474043946942992101:=()
noncomputable def tw5102460946473063141:=()
noncomputable def tw10007411396671696613:=()
noncomputable def tw2305881189932309285:=()
noncomputable def tw3410196128995246917:=()
noncomputable def tw8603500279265290053:=()
noncomputable def tw13689246381084688261:=()
noncomputable def tw17610481187121035141:=()
noncomputable def tw13925877587632400325:=()
noncomputable def tw14428884847818488773:=()
noncomputable def tw7613945582906998725:=()
noncomputable def tw13814004702073501669:=()
noncomputable def tw11273041486466551846:=()
noncomputable def tw10901649546591821862:=()
noncomputable def tw6389813905438556230:=()
noncomputable def tw9524105066518557862:=()
noncomputable def tw12071558147654375590:=()
noncomputable def tw12833947400113492166:=()
noncomputable def tw10895054467252067526:=()
noncomputable def tw16275787546110486726:=()
noncomputable def tw819001938494946534:=()
noncomputable def tw14336544582882092262:=()
noncomputable def tw11583151060123660582:=()
noncomputable def tw3788772014149755174:=()
noncomputable def tw8282812270067184934:=()
noncomputable def tw16448914465934546278:=()
noncomputable def tw12669758225909598566:=()
noncomputable def tw10678765320413552006:=()
noncomputable def tw17356987340757268870:=()
noncomputable def tw3863403702602939814:=()
noncomputable def tw1951045429614898598:=()
noncomputable def tw11116067473893591494:=()
noncomputable def tw3936071799763621318:=()
noncomputable def tw7033882931294258662:=()
noncomputable def tw13558135923588603398:=()
noncomputable def tw5991891943723376134:=()
noncomputable def tw2441168790927817222:=()
noncomputable def tw15523922138108190246:=()
noncomputable def tw7717632546995137062:=()
noncomputable def tw3199103547748192838:=()
noncomputable def tw17130245016438642246:=()
noncomputable def tw769983615490850566:=()
noncomputable def tw4924110625330727750:=()
noncomputable def tw5978438607452443526:=()
noncomputable def tw1209720653154232198:=()
noncomputable def tw10807920368746810246:=()
noncomputable def tw15459455144867644326:=()
noncomputable def tw5407232425735434182:=()
noncomputable def tw6872408275531757542:=()
noncomputable def tw13295704053362595847:=()
noncomputable def tw8059700687775931431:=()
noncomputable def tw10888490241844629607:=()
noncomputable def tw4201165798948173927:=()
noncomputable def tw12741526300851653767:=()
noncomputable def tw1736138319177078919:=()
noncomputable def tw15019234207855213703:=()
noncomputable def tw12556456511402129575:=()
noncomputable def tw11338875618241718471:=()
noncomputable def tw7563514974416257223:=()
noncomputable def tw273201369580953799:=()
noncomputable def tw8577089030196625639:=()
noncomputable def tw17303276941060079847:=()
noncomputable def tw5725524221116865799:=()
noncomputable def tw11277597615667878183:=()
noncomputable def tw18176387895596863783:=()
noncomputable def tw12696600883282566439:=()
noncomputable def tw8330952907988395303:=()
noncomputable def tw14458313979923949895:=()
noncomputable def tw12118000046449163591:=()
noncomputable def tw10043950574865488231:=()
noncomputable def tw15243534294739168615:=()
noncomputable def tw2565351972500760935:=()
noncomputable def tw416177051242630535:=()
noncomputable def tw9218923581257491847:=()
noncomputable def tw10770419977021028743:=()
noncomputable def tw15238337123492228519:=()
noncomputable def tw17123178472405020103:=()
noncomputable def tw14297971457927632359:=()
noncomputable def tw12409915417874342407:=()
noncomputable def tw3112429581023547943:=()
noncomputable def tw10383673109516279431:=()
noncomputable def tw2103456241558337223:=()
noncomputable def tw10350682745594973927:=()
noncomputable def tw6921073858925291239:=()
noncomputable def tw12403690455625630471:=()
noncomputable def tw2257193571878035239:=()
noncomputable def tw13360279666012451719:=()
noncomputable def tw2687768774938457991:=()
noncomputable def tw1035503724928835527:=()
noncomputable def tw14856888987745899463:=()
noncomputable def tw1976505206021243879:=()
noncomputable def tw14899709244077398024:=()
noncomputable def tw11851709006616689672:=()
noncomputable def tw8732412218395851816:=()
noncomputable def tw14279960228734115912:=()
noncomputable def tw947276838399291496:=()
noncomputable def tw12586190556516072552:=()
noncomputable def tw7380833856163905736:=()
noncomputable def tw14153841308418656456:=()
noncomputable def tw14679806638718605512:=()
noncomputable def tw12494888245299231016:=()
noncomputable def tw11466478281803324712:=()
noncomputable def tw2086631506510373192:=()
noncomputable def tw8622160174418277736:=()
noncomputable def tw1195193663934043528:=()
noncomputable def tw6380807493870290408:=()
noncomputable def tw4040260094072895976:=()
noncomputable def tw10925335251469727208:=()
noncomputable def tw6485783843944922600:=()
noncomputable def tw7383848191655739912:=()
noncomputable def tw13565238788985558536:=()
noncomputable def tw12757720458447036936:=()
noncomputable def tw5984158551500366440:=()
noncomputable def tw12890721736228548200:=()
noncomputable def tw2976117146107443816:=()
noncomputable def tw17484917917373573768:=()
noncomputable def tw4179367391157097096:=()
noncomputable def tw14431720936831517352:=()
noncomputable def tw819006710299763400:=()
noncomputable def tw1625080806587739848:=()
noncomputable def tw14923884007163036392:=()
noncomputable def tw15225332579556243176:=()
noncomputable def tw6525817661751114472:=()
noncomputable def tw11897717083992391400:=()
noncomputable def tw15149952090015108872:=()
noncomputable def tw17779459042885607208:=()
noncomputable def tw8919302590299486024:=()
noncomputable def tw3974152918291533672:=()
noncomputable def tw428092273266315144:=()
noncomputable def tw3125960719983571848:=()
noncomputable def tw1105837973531982728:=()
noncomputable def tw4124441165874395080:=()
noncomputable def tw16956781808756083688:=()
noncomputable def tw999798209818781672:=()
noncomputable def tw1422313219903470601:=()
noncomputable def tw2824711377971209:=()
noncomputable def tw12946824338688289833:=()
noncomputable def tw9059937348426287209:=()
noncomputable def tw6061592489118403721:=()
noncomputable def tw15938515463387723913:=()
noncomputable def tw3343445320678177929:=()
noncomputable def tw17220895691602665673:=()
noncomputable def tw15533503492667675913:=()
noncomputable def tw5996712805030441225:=()
noncomputable def tw8587099438709951753:=()
noncomputable def tw7021976415091001641:=()
noncomputable def tw1921165311934587177:=()
noncomputable def tw10671828304227620169:=()
noncomputable def tw12612204703400128841:=()
noncomputable def tw14165584387687976329:=()
noncomputable def tw1921391257341544841:=()
noncomputable def tw10372454290965829033:=()
noncomputable def tw9556950149685670313:=()
noncomputable def tw16867096813858660809:=()
noncomputable def tw7636574776371312073:=()
noncomputable def tw10281396178488509929:=()
noncomputable def tw16656299143469825513:=()
noncomputable def tw15234240111613058569:=()
noncomputable def tw11260992270255960585:=()
noncomputable def tw1195334901915552329:=()
noncomputable def tw4684940682943077961:=()
noncomputable def tw9735714214384596553:=()
noncomputable def tw12868640280835112553:=()
noncomputable def tw3004984022683251337:=()
noncomputable def tw17570709534508481193:=()
noncomputable def tw8352470293576582857:=()
noncomputable def tw2046393882495617769:=()
noncomputable def tw9387745189664136937:=()
noncomputable def tw3432132637015033673:=()
noncomputable def tw10504543856557348713:=()
noncomputable def tw7830629276484211593:=()
noncomputable def tw14855157385224911753:=()
noncomputable def tw16269368082590959529:=()
noncomputable def tw4002333041265778665:=()
noncomputable def tw10831918285883469834:=()
noncomputable def tw14996743850099388458:=()
noncomputable def tw8890792774038802474:=()
noncomputable def tw11953781441336167498:=()
noncomputable def tw10852849658779182186:=()
noncomputable def tw4538191230965241994:=()
noncomputable def tw757079261281740938:=()
noncomputable def tw16906536467411238026:=()
noncomputable def tw5713887491374438570:=()
noncomputable def tw2991292073481677994:=()
noncomputable def tw884059145510264010:=()
noncomputable def tw14955290184562816202:=()
noncomputable def tw7468727024169554154:=()
noncomputable def tw16570786720924097770:=()
noncomputable def tw9220288515469044970:=()
noncomputable def tw8559517257967667466:=()
noncomputable def tw17918125715009934602:=()
noncomputable def tw13898374239775968522:=()
noncomputable def tw6081921254191324426:=()
noncomputable def tw14637358334870819178:=()
noncomputable def tw12149302876761508202:=()
noncomputable def tw12821662553749405066:=()
noncomputable def tw8092282109911263626:=()
noncomputable def tw10262537013395359178:=()
noncomputable def tw7098310284689642954:=()
noncomputable def tw2478350994414567946:=()
noncomputable def tw1348009686575996458:=()
noncomputable def tw5920281757701029450:=()
noncomputable def tw4329306826757983850:=()
noncomputable def tw6113989636485653130:=()
noncomputable def tw2556814553914141322:=()
noncomputable def tw4868334931027891882:=()
noncomputable def tw4613182775407389354:=()
noncomputable def tw4337157586716928682:=()
noncomputable def tw2866121171748074186:=()
noncomputable def tw5351017473137806058:=()
noncomputable def tw3976127234124569322:=()
noncomputable def tw10790007923984976650:=()
noncomputable def tw14568449535678555946:=()
noncomputable def tw17186005699333237546:=()
noncomputable def tw14139026862911339306:=()
noncomputable def tw13413733117436355370:=()
noncomputable def tw17461915456910197578:=()
noncomputable def tw4588413851689716618:=()
noncomputable def tw10874316729293906858:=()
noncomputable def tw14560573928864763818:=()
noncomputable def tw17433287530729320394:=()
noncomputable def tw14774052361384061898:=()
noncomputable def tw2320886540369039338:=()
noncomputable def tw721199640417726442:=()
noncomputable def tw13097714293880789003:=()
noncomputable def tw5986742067250831371:=()
noncomputable def tw18067472453656292363:=()
noncomputable def tw14239432107786713131:=()
noncomputable def tw5593514722818144331:=()
noncomputable def tw10242451874928486539:=()
noncomputable def tw13870153662132920491:=()
noncomputable def tw857469055436470443:=()
noncomputable def tw8399098705505230059:=()
noncomputable def tw9713546201632813291:=()
noncomputable def tw5063945577112930571:=()
noncomputable def tw373065315874586923:=()
noncomputable def tw17821466097196317003:=()
noncomputable def tw18143685660980048203:=()
noncomputable def tw14210890002308233579:=()
noncomputable def tw2067723777617599883:=()
noncomputable def tw944567322932927883:=()
noncomputable def tw18164189302063226315:=()
noncomputable def tw11209750170652599755:=()
noncomputable def tw3600006292299410923:=()
noncomputable def tw7661832156752021035:=()
noncomputable def tw1133488854539047467:=()
noncomputable def tw5246096745964282443:=()
noncomputable def tw17567850324905474699:=()
noncomputable def tw16285329926789087883:=()
noncomputable def tw16068754644101465803:=()
noncomputable def tw17535827442545306379:=()
noncomputable def tw146108955859267339:=()
noncomputable def tw15741700470354863883:=()
noncomputable def tw15523924160545744683:=()
noncomputable def tw12809788781938459499:=()
noncomputable def tw17416127249078093707:=()
noncomputable def tw6871721634829395883:=()
noncomputable def tw9161697477995246604:=()
noncomputable def tw6806541166334345260:=()
noncomputable def tw2053592712835629100:=()
noncomputable def tw6838789434069753932:=()
noncomputable def tw6449190631224713292:=()
noncomputable def tw8569027658895312972:=()
noncomputable def tw13566729865485783148:=()
noncomputable def tw4785737784526614668:=()
noncomputable def tw33427290768588972:=()
noncomputable def tw17347454772498655404:=()
noncomputable def tw9524518906428321964:=()
noncomputable def tw16522761824813919436:=()
noncomputable def tw13161798303456468172:=()
noncomputable def tw16186304066995879148:=()
noncomputable def tw17136511569032190220:=()
noncomputable def tw16496857829328116044:=()
noncomputable def tw2797696144272983404:=()
noncomputable def tw8776770756819070316:=()
noncomputable def tw3597285623890379148:=()
noncomputable def tw6207176494656529804:=()
noncomputable def tw4217414874291451276:=()
noncomputable def tw7028063314416541132:=()
noncomputable def tw9631822210178866636:=()
noncomputable def tw15273852366172491244:=()
noncomputable def tw14492276426124471788:=()
noncomputable def tw16145351769185666540:=()
noncomputable def tw16237712226934743532:=()
noncomputable def tw11623398277830307340:=()
noncomputable def tw1206694682578267724:=()
noncomputable def tw1103255985313285740:=()
noncomputable def tw15144710454662140524:=()
noncomputable def tw5734618986648460908:=()
noncomputable def tw11280146832396436108:=()
noncomputable def tw930286699578186380:=()
noncomputable def tw803859442106103436:=()
noncomputable def tw10070804522480449196:=()
noncomputable def tw6846200578177281708:=()
noncomputable def tw6634307039904815820:=()
noncomputable def tw1324748791087667916:=()
noncomputable def tw10091234832980417260:=()
noncomputable def tw10196768644732416780:=()
noncomputable def tw12273546716903637868:=()
noncomputable def tw12356021495744459628:=()
noncomputable def tw18295790063311454060:=()
noncomputable def tw1766193274316824492:=()
noncomputable def tw18404063521330658252:=()
noncomputable def tw266292477781368812:=()
noncomputable def tw13278809456085556237:=()
noncomputable def tw12072802829135307789:=()
noncomputable def tw17108682257543074861:=()
noncomputable def tw12629903358213643309:=()
noncomputable def tw16859985489051350061:=()
noncomputable def tw10776127142208907341:=()
noncomputable def tw12876116671307685997:=()
noncomputable def tw4833179351181384845:=()
noncomputable def tw7518579229450374285:=()
noncomputable def tw8289400949097046189:=()
noncomputable def tw295240868970151085:=()
noncomputable def tw6848912972918003917:=()
noncomputable def tw16109372258727991565:=()
noncomputable def tw16497079637816224013:=()
noncomputable def tw8953957674483744013:=()
noncomputable def tw16530489862217454893:=()
noncomputable def tw9604457797605292365:=()
noncomputable def tw5916107541561443693:=()
noncomputable def tw15932523567376311661:=()
noncomputable def tw14190076187652291949:=()
noncomputable def tw9229436766338760077:=()
noncomputable def tw9231918322118259117:=()
noncomputable def tw13673274986797844941:=()
noncomputable def tw12686965223737687597:=()
noncomputable def tw13093503161671486093:=()
noncomputable def tw13217662176923290317:=()
noncomputable def tw14021872759519490765:=()
noncomputable def tw7845872953664198349:=()
noncomputable def tw8075192146702601997:=()
noncomputable def tw1202912048536075021:=()
noncomputable def tw5011121235533021005:=()
noncomputable def tw5193127060418132845:=()
noncomputable def tw16229209127682248589:=()
noncomputable def tw17698704350827878285:=()
noncomputable def tw6531376189190222733:=()
noncomputable def tw5141113994777284493:=()
noncomputable def tw9001875181463519149:=()
noncomputable def tw12084336645073829805:=()
noncomputable def tw8940416962707143629:=()
noncomputable def tw7933630861670307789:=()
noncomputable def tw3029852977388229646:=()
noncomputable def tw16921374880739206190:=()
noncomputable def tw12292906935544458286:=()
noncomputable def tw10088260576245011566:=()
noncomputable def tw3216615955080020110:=()
noncomputable def tw4950403968356008110:=()
noncomputable def tw12557769604369416430:=()
noncomputable def tw7022806388564383982:=()
noncomputable def tw2304379251839397102:=()
noncomputable def tw9913140749668108558:=()
noncomputable def tw10877920979083283726:=()
noncomputable def tw16593498308125037870:=()
noncomputable def tw8288733244629462318:=()
noncomputable def tw9436597474664901934:=()
noncomputable def tw6381419901266130222:=()
noncomputable def tw3752056022367304142:=()
noncomputable def tw17830361364027725262:=()
noncomputable def tw1213908355484861934:=()
noncomputable def tw8614737586434602478:=()
noncomputable def tw1982079694162106894:=()
noncomputable def tw5071919506433949198:=()
noncomputable def tw17656766251404061198:=()
noncomputable def tw15219631101029703214:=()
noncomputable def tw6566618420281934:=()
noncomputable def tw10939691994893167182:=()
noncomputable def tw2145012663239829070:=()
noncomputable def tw7684487725183542926:=()
noncomputable def tw14166196953294261902:=()
noncomputable def tw3211687289105081006:=()
noncomputable def tw17743408960866722510:=()
noncomputable def tw7319501015663598286:=()
noncomputable def tw1450881378762983150:=()
noncomputable def tw14672911461793829614:=()
noncomputable def tw7675655780812522254:=()
noncomputable def tw17809232949079649038:=()
noncomputable def tw6740323729440402254:=()
noncomputable def tw2512408688544751470:=()
noncomputable def tw5897612983314593646:=()
noncomputable def tw14449560505687523246:=()
noncomputable def tw8651105995357262798:=()
noncomputable def tw5792265106169080782:=()
noncomputable def tw5957180451953820622:=()
noncomputable def tw14728723275428758510:=()
noncomputable def tw18004827428879835118:=()
noncomputable def tw17197158672614542318:=()
noncomputable def tw15083174532876359662:=()
noncomputable def tw5079576279043364846:=()
noncomputable def tw13929302177132474383:=()
noncomputable def tw17571561675222187055:=()
noncomputable def tw10391319463526535247:=()
noncomputable def tw3939050589584296047:=()
noncomputable def tw18045370259859999855:=()
noncomputable def tw18298288384779628655:=()
noncomputable def tw1535588207084551279:=()
noncomputable def tw17495881415371897999:=()
noncomputable def tw1777069842159760527:=()
noncomputable def tw11277574374343807151:=()
noncomputable def tw4716181948101807:=()
noncomputable def tw429763040754596015:=()
noncomputable def tw2415902012162501839:=()
noncomputable def tw11819170096642289871:=()
noncomputable def tw2603282792292808943:=()
noncomputable def tw7000300075881102575:=()
noncomputable def tw10011167713772783887:=()
noncomputable def tw15942684835789789487:=()
noncomputable def tw12423952289234860367:=()
noncomputable def tw16429022384663243119:=()
noncomputable def tw3268265519342814607:=()
noncomputable def tw2277568627679802767:=()
noncomputable def tw6323506392446703087:=()
noncomputable def tw2671655128345628175:=()
noncomputable def tw1562932699786603023:=()
noncomputable def tw17511047464938703439:=()
noncomputable def tw12283613380358538863:=()
noncomputable def tw6091149213335829167:=()
noncomputable def tw10656291684629039791:=()
noncomputable def tw17234587430967350031:=()
noncomputable def tw10469515968555745039:=()
noncomputable def tw14959412447673286447:=()
noncomputable def tw6347882812451238735:=()
noncomputable def tw13021059552284102479:=()
noncomputable def tw4395496475954998127:=()
noncomputable def tw4145619633490157487:=()
noncomputable def tw5139589434142006255:=()
noncomputable def tw14786503066443513839:=()
noncomputable def tw3059278276029138960:=()
noncomputable def tw16010895459844773936:=()
noncomputable def tw2670571373685298256:=()
noncomputable def tw7336344344812659824:=()
noncomputable def tw8696399802814041232:=()
noncomputable def tw6454446336052903152:=()
noncomputable def tw3185298417894076688:=()
noncomputable def tw14909718650217641264:=()
noncomputable def tw16253991525020053840:=()
noncomputable def tw7844069586390513008:=()
noncomputable def tw11989984593139433840:=()
noncomputable def tw2654552327011884432:=()
noncomputable def tw1281744992317467088:=()
noncomputable def tw423345284130997744:=()
noncomputable def tw10235334195030205936:=()
noncomputable def tw13790858721211988464:=()
noncomputable def tw12996517811204074000:=()
noncomputable def tw15120748072543544848:=()
noncomputable def tw3222278782482380304:=()
noncomputable def tw9221430085559818832:=()
noncomputable def tw982560976839675504:=()
noncomputable def tw13815853411582834384:=()
noncomputable def tw17737941679453060848:=()
noncomputable def tw12751662967071866640:=()
noncomputable def tw10998343915150870288:=()
noncomputable def tw2321816554428607280:=()
noncomputable def tw1635022588487117616:=()
noncomputable def tw500868675978126160:=()
noncomputable def tw13383306551100868464:=()
noncomputable def tw3509928780539964272:=()
noncomputable def tw13162651487661262736:=()
noncomputable def tw16958243865122950064:=()
noncomputable def tw5372875611105449904:=()
noncomputable def tw3885313090954376144:=()
noncomputable def tw11336253725339858928:=()
noncomputable def tw5230622158679508976:=()
noncomputable def tw12971124776947463185:=()
noncomputable def tw3541825141892303889:=()
noncomputable def tw12073638493852289073:=()
noncomputable def tw1252854909445205041:=()
noncomputable def tw3173534031939492945:=()
noncomputable def tw4312942655851389009:=()
noncomputable def tw6370398367566163025:=()
noncomputable def tw12856649910388040817:=()
noncomputable def tw15094949803261831281:=()
noncomputable def tw1709551657539720305:=()
noncomputable def tw8660049834305141905:=()
noncomputable def tw9358891041858214033:=()
noncomputable def tw16584127079891442865:=()
noncomputable def tw12458955589063782577:=()
noncomputable def tw124547854259737777:=()
noncomputable def tw6113892759573084369:=()
noncomputable def tw2462912638960843985:=()
noncomputable def tw15396384818603876561:=()
noncomputable def tw12993229153697758449:=()
noncomputable def tw9844327171925773585:=()
noncomputable def tw5098551885099359569:=()
noncomputable def tw18387650150990424433:=()
noncomputable def tw16375469754199864689:=()
noncomputable def tw7363827456180718993:=()
noncomputable def tw17869975865946814897:=()
noncomputable def tw480829909506669009:=()
noncomputable def tw3200212019564660177:=()
noncomputable def tw15832999045522443761:=()
noncomputable def tw16934629359412608497:=()
noncomputable def tw11750646167744613905:=()
noncomputable def tw220677088936066577:=()
noncomputable def tw11414674201277728305:=()
noncomputable def tw16957808320718949937:=()
noncomputable def tw17911201065640838737:=()
noncomputable def tw14667941539000003185:=()
noncomputable def tw3404873503106905745:=()
noncomputable def tw17446947388961346225:=()
noncomputable def tw11346557470443003569:=()
noncomputable def tw5266742908149448401:=()
noncomputable def tw2218633174628956881:=()
noncomputable def tw10393886385942881009:=()
noncomputable def tw14075178694198228753:=()
noncomputable def tw944135987803093777:=()
noncomputable def tw9659392335347125073:=()
noncomputable def tw9508526790633795441:=()
noncomputable def tw10628475034512898961:=()
noncomputable def tw5320702786494000081:=()
noncomputable def tw4652738160404261841:=()
noncomputable def tw2656788454239962097:=()
noncomputable def tw13203597883595413489:=()
noncomputable def tw2666023531980169362:=()
noncomputable def tw13561466723244134546:=()
noncomputable def tw11587955951900863698:=()
noncomputable def tw9722632081671974098:=()
noncomputable def tw5679570950571409650:=()
noncomputable def tw15307359549416329458:=()
noncomputable def tw16464420300316434674:=()
noncomputable def tw743781803092876562:=()
noncomputable def tw10907391636593693970:=()
noncomputable def tw8677802771170823506:=()
noncomputable def tw12105171945263650130:=()
noncomputable def tw1887099378405440850:=()
noncomputable def tw12171577908484138354:=()
noncomputable def tw5073790198343104882:=()
noncomputable def tw1327509311449162130:=()
noncomputable def tw11607805686811502034:=()
noncomputable def tw14468091648759818802:=()
noncomputable def tw8643116662766533202:=()
noncomputable def tw5843104343964092018:=()
noncomputable def tw9437242357050131058:=()
noncomputable def tw13235901397817054834:=()
noncomputable def tw3837020019201816242:=()
noncomputable def tw16798467561266328274:=()
noncomputable def tw12847644182280273618:=()
noncomputable def tw11637346524468614962:=()
noncomputable def tw5576714124690252594:=()
noncomputable def tw9363291351745731410:=()
noncomputable def tw6766580051018981234:=()
noncomputable def tw11179249921394602866:=()
noncomputable def tw14060254640080698258:=()
noncomputable def tw15693171249328670706:=()
noncomputable def tw17344254963278052338:=()
noncomputable def tw2527257450557998099:=()
noncomputable def tw7047351209531925555:=()
noncomputable def tw5354148072674057331:=()
noncomputable def tw17283115642960038067:=()
noncomputable def tw8110510569099292851:=()
noncomputable def tw9487260019516590291:=()
noncomputable def tw2724587677208862931:=()
noncomputable def tw13700621096757390547:=()
noncomputable def tw2595221338624275699:=()
noncomputable def tw16448676403291746579:=()
noncomputable def tw5196160543931855155:=()
noncomputable def tw8185091604740117843:=()
noncomputable def tw5911770217454447987:=()
noncomputable def tw6766378078585498003:=()
noncomputable def tw3018758056844737939:=()
noncomputable def tw14134379338385194387:=()
noncomputable def tw2444273588731816371:=()
noncomputable def tw9381001406090123731:=()
noncomputable def tw16502652511500755:=()
noncomputable def tw11299997306764849619:=()
noncomputable def tw12202137732620339699:=()
noncomputable def tw14558545664804480499:=()
noncomputable def tw13523910257889291827:=()
noncomputable def tw10012918712295848499:=()
noncomputable def tw891787732878383699:=()
noncomputable def tw14503080293383508659:=()
noncomputable def tw17485583185531914963:=()
noncomputable def tw11224825812204259059:=()
noncomputable def tw16644462212089915155:=()
noncomputable def tw17974384156558142227:=()
noncomputable def tw3611084566261647123:=()
noncomputable def tw3399429508193669907:=()
noncomputable def tw15825511895219661619:=()
noncomputable def tw17546527683439953779:=()
noncomputable def tw17933470926392208243:=()
noncomputable def tw12564304381541211027:=()
noncomputable def tw4499257904209204147:=()
noncomputable def tw14574801432027512755:=()
noncomputable def tw7638955922819175379:=()
noncomputable def tw3599858809825778643:=()
noncomputable def tw18274610161616023507:=()
noncomputable def tw7830602891274557492:=()
noncomputable def tw3598329298470268980:=()
noncomputable def tw16478552945605688404:=()
noncomputable def tw7271575661252642932:=()
noncomputable def tw562294597585456244:=()
noncomputable def tw1080700006314346644:=()
noncomputable def tw15344004072050561172:=()
noncomputable def tw7282745182861764756:=()
noncomputable def tw744865244796547220:=()
noncomputable def tw18373065035072037172:=()
noncomputable def tw6582743566554038612:=()
noncomputable def tw138543146574967220:=()
noncomputable def tw6577878126316647860:=()
noncomputable def tw17430205856086898164:=()
noncomputable def tw3236217559460173300:=()
noncomputable def tw6567050819087999508:=()
noncomputable def tw12212933522069011988:=()
noncomputable def tw14814673180317915700:=()
noncomputable def tw3129228512308937268:=()
noncomputable def tw888132650186811988:=()
noncomputable def tw10313180648002132564:=()
noncomputable def tw7008622114716911220:=()
noncomputable def tw9329150127792265844:=()
noncomputable def tw6215407027087421044:=()
noncomputable def tw16622976982446799508:=()
noncomputable def tw5227809002895711924:=()
noncomputable def tw10936777179133785780:=()
noncomputable def tw11079828417688620724:=()
noncomputable def tw12464766053444552404:=()
noncomputable def tw488218634404078324:=()
noncomputable def tw2436393772889279252:=()
noncomputable def tw3261639445485040436:=()
noncomputable def tw16708981103961760564:=()
noncomputable def tw8472697214298850164:=()
noncomputable def tw6620296344095940468:=()
noncomputable def tw9247658263007524724:=()
noncomputable def tw11678130103378247572:=()
noncomputable def tw13158425560686309300:=()
noncomputable def tw3998398428148030388:=()
noncomputable def tw5660257367854189524:=()
noncomputable def tw7321584467024264148:=()
noncomputable def tw6718411051458867188:=()
noncomputable def tw418608610138435605:=()
noncomputable def tw7690983457609660469:=()
noncomputable def tw17719728818120068181:=()
noncomputable def tw216489041496292469:=()
noncomputable def tw11040825799340251285:=()
noncomputable def tw17267618260052754613:=()
noncomputable def tw8025084765662995669:=()
noncomputable def tw17684750252590230805:=()
noncomputable def tw14517287926952318261:=()
noncomputable def tw4374990076676594005:=()
noncomputable def tw1727621133314857333:=()
noncomputable def tw14018533915963200917:=()
noncomputable def tw1580780407708033493:=()
noncomputable def tw380778119907437045:=()
noncomputable def tw11471956102464614933:=()
noncomputable def tw13303660033021381205:=()
noncomputable def tw11609251653779473045:=()
noncomputable def tw2275749259730422485:=()
noncomputable def tw4303106303303389909:=()
noncomputable def tw7650283484787511029:=()
noncomputable def tw16771295499568265973:=()
noncomputable def tw16754643870311390997:=()
noncomputable def tw8658185699838806805:=()
noncomputable def tw6524417157066176309:=()
noncomputable def tw12347537446847802165:=()
noncomputable def tw7856420140689306517:=()
noncomputable def tw13781542876482819989:=()
noncomputable def tw7057970582943232917:=()
noncomputable def tw9578429878718019509:=()
noncomputable def tw4891822661719351221:=()
noncomputable def tw12076048789873493973:=()
noncomputable def tw1128348596072947701:=()
noncomputable def tw6878024787957991413:=()
noncomputable def tw2537931557510868981:=()
noncomputable def tw4759752924163587094:=()
noncomputable def tw6712194924023145494:=()
noncomputable def tw862447977868951606:=()
noncomputable def tw13894747593318719542:=()
noncomputable def tw10411508006071892022:=()
noncomputable def tw1239743038759826550:=()
noncomputable def tw3995266172827902102:=()
noncomputable def tw7665662160710120598:=()
noncomputable def tw8896352889252549814:=()
noncomputable def tw9453873691999584502:=()
noncomputable def tw9806666330580929782:=()
noncomputable def tw4598667867955821814:=()
noncomputable def tw4144819383078699286:=()
noncomputable def tw1044461793932804406:=()
noncomputable def tw17449020081951674710:=()
noncomputable def tw7255982825651180886:=()
noncomputable def tw7439575562449295702:=()
noncomputable def tw15408508732894643574:=()
noncomputable def tw11680795503199820150:=()
noncomputable def tw4162185377826839926:=()
noncomputable def tw783483362715066742:=()
noncomputable def tw824797018042769846:=()
noncomputable def tw9330868436908423606:=()
noncomputable def tw17611727573569791414:=()
noncomputable def tw13183061134860383702:=()
noncomputable def tw6127190174262240918:=()
noncomputable def tw17512474026176034454:=()
noncomputable def tw15399907426655090358:=()
noncomputable def tw7348594602126897846:=()
noncomputable def tw3263211703599914710:=()
noncomputable def tw3810570522144960214:=()
noncomputable def tw2910385600587045654:=()
noncomputable def tw3839206501371402102:=()
noncomputable def tw14895270292469626870:=()
noncomputable def tw9544026089342320630:=()
noncomputable def tw6498334528663615478:=()
noncomputable def tw15698005342984667159:=()
noncomputable def tw187941002565524503:=()
noncomputable def tw8598692823790989367:=()
noncomputable def tw16625790000389398615:=()
noncomputable def tw1397303283331804279:=()
noncomputable def tw1538076008739104887:=()
noncomputable def tw8076651003907644567:=()
noncomputable def tw10416720858127766743:=()
noncomputable def tw2316539691658765527:=()
noncomputable def tw14111491100615862519:=()
noncomputable def tw7267163888087337239:=()
noncomputable def tw14178952322520976695:=()
noncomputable def tw3810338749695602999:=()
noncomputable def tw18195182924450695511:=()
noncomputable def tw6690978737144721751:=()
noncomputable def tw8383268338085895543:=()
noncomputable def tw15619530173980987831:=()
noncomputable def tw8668149382578428375:=()
noncomputable def tw3683778510129048087:=()
noncomputable def tw18087328562809068087:=()
noncomputable def tw5266942916734154295:=()
noncomputable def tw2377308710366028375:=()
noncomputable def tw4306616734650971735:=()
noncomputable def tw11024638832163780183:=()
noncomputable def tw3738894495883498167:=()
noncomputable def tw4302917861877037783:=()
noncomputable def tw13199158710529813207:=()
noncomputable def tw12977279227502587607:=()
noncomputable def tw16192418988078311159:=()
noncomputable def tw10751089155417173751:=()
noncomputable def tw6532753360307331927:=()
noncomputable def tw855585454354188119:=()
noncomputable def tw14658254696389335927:=()
noncomputable def tw331587747771337591:=()
noncomputable def tw5249893051879422871:=()
noncomputable def tw14920341990273354679:=()
noncomputable def tw7445452272831510455:=()
noncomputable def tw11201512880063761335:=()
noncomputable def tw4490852404376165303:=()
noncomputable def tw7708874160547798999:=()
noncomputable def tw2466808103346753527:=()
noncomputable def tw13838681890673545272:=()
noncomputable def tw4898026214463823928:=()
noncomputable def tw16684344177607277624:=()
noncomputable def tw16955142331783759960:=()
noncomputable def tw17067295170570645592:=()
noncomputable def tw491973367168481400:=()
noncomputable def tw9597861255099599992:=()
noncomputable def tw5074779506442595448:=()
noncomputable def tw15590172107835277464:=()
noncomputable def tw2789213428527533208:=()
noncomputable def tw12239064139714945176:=()
noncomputable def tw11821157177794564280:=()
noncomputable def tw3395650296261689528:=()
noncomputable def tw17659792820800573624:=()
noncomputable def tw9917203430921899224:=()
noncomputable def tw8097654560655122648:=()
noncomputable def tw347816163483929816:=()
noncomputable def tw12214134854039867640:=()
noncomputable def tw7525613125554837784:=()
noncomputable def tw2186698500278933816:=()
noncomputable def tw13516622038369049944:=()
noncomputable def tw1104087735260006872:=()
noncomputable def tw10329872625359487480:=()
noncomputable def tw5250828734511838712:=()
noncomputable def tw15279137341521000952:=()
noncomputable def tw13177410634674063896:=()
noncomputable def tw16903924287465469464:=()
noncomputable def tw13509038323834791480:=()
noncomputable def tw4788878847521262168:=()
noncomputable def tw17362494058136835672:=()
noncomputable def tw15621619335703214680:=()
noncomputable def tw5776136370200156792:=()
noncomputable def tw876206183137641144:=()
noncomputable def tw891448327626169016:=()
noncomputable def tw8281523328739849912:=()
noncomputable def tw5285785234609935064:=()
noncomputable def tw1448885039305934584:=()
noncomputable def tw9746214513668125432:=()
noncomputable def tw9026956108355566328:=()
noncomputable def tw4878226113927451544:=()
noncomputable def tw11490603987736509336:=()
noncomputable def tw6335709333293612952:=()
noncomputable def tw12343934877155477432:=()
noncomputable def tw11693106759165616088:=()
noncomputable def tw12932903420030652473:=()
noncomputable def tw16252508478716706905:=()
noncomputable def tw15530281825414154361:=()
noncomputable def tw17802944882907423865:=()
noncomputable def tw8785817190682134681:=()
noncomputable def tw17109930996152030393:=()
noncomputable def tw5741801548637672665:=()
noncomputable def tw2306873549167696089:=()
noncomputable def tw4658327283870856409:=()
noncomputable def tw8272817396058243321:=()
noncomputable def tw17041991840579044601:=()
noncomputable def tw3338164360138783001:=()
noncomputable def tw3335054579961404729:=()
noncomputable def tw2152167444364839225:=()
noncomputable def tw5805905742469029177:=()
noncomputable def tw7116698238491815225:=()
noncomputable def tw6794536074604225881:=()
noncomputable def tw18230178534529381785:=()
noncomputable def tw3028926083550364057:=()
noncomputable def tw17896612028031085017:=()
noncomputable def tw6400248389586479577:=()
noncomputable def tw10279692637995926009:=()
noncomputable def tw12550770813317053977:=()
noncomputable def tw3975253019698251321:=()
noncomputable def tw8731306006301319769:=()
noncomputable def tw1390109508276135513:=()
noncomputable def tw5293390819737331289:=()
noncomputable def tw4879674094562380441:=()
noncomputable def tw6455845175183424153:=()
noncomputable def tw1992996095170833049:=()
noncomputable def tw17502855826952124057:=()
noncomputable def tw11389583511973518041:=()
noncomputable def tw14347400895652799225:=()
noncomputable def tw3277210607324053241:=()
noncomputable def tw8416529770105884409:=()
noncomputable def tw17425937995043322649:=()
noncomputable def tw6557400838089866009:=()
noncomputable def tw13732859552379440985:=()
noncomputable def tw8999559765510592377:=()
noncomputable def tw3269693614287924217:=()
noncomputable def tw13883070154070340634:=()
noncomputable def tw15089571124056680474:=()
noncomputable def tw16205109500356779066:=()
noncomputable def tw4827270371386293306:=()
noncomputable def tw13619204772191458394:=()
noncomputable def tw4043148821406017626:=()
noncomputable def tw18075230132384515194:=()
noncomputable def tw1088692219920020602:=()
noncomputable def tw5029745898896661690:=()
noncomputable def tw4988848703289810138:=()
noncomputable def tw2090205506522743130:=()
noncomputable def tw6214469639950668122:=()
noncomputable def tw9339408515151402362:=()
noncomputable def tw14016782137374729594:=()
noncomputable def tw7803649310394182010:=()
noncomputable def tw12780881840741157306:=()
noncomputable def tw5514125408013525434:=()
noncomputable def tw1412798022092170682:=()
noncomputable def tw12869217540446652890:=()
noncomputable def tw7070210977369740762:=()
noncomputable def tw7605189527823165946:=()
noncomputable def tw12663102006800830970:=()
noncomputable def tw12705944875615423002:=()
noncomputable def tw4026100201820347962:=()
noncomputable def tw7469950542288936506:=()
noncomputable def tw15681417991851648634:=()
noncomputable def tw8331973007464152698:=()
noncomputable def tw13175226182763708026:=()
noncomputable def tw12567809125941998234:=()
noncomputable def tw12876064707754696378:=()
noncomputable def tw16401934584784274106:=()
noncomputable def tw7717670044629686970:=()
noncomputable def tw12738864244801774330:=()
noncomputable def tw9725021084223525626:=()
noncomputable def tw15583698165555649274:=()
noncomputable def tw2660071235253521178:=()
noncomputable def tw12207761013786371866:=()
noncomputable def tw15701818922362908474:=()
noncomputable def tw7245382924358607706:=()
noncomputable def tw14454571958578411450:=()
noncomputable def tw13412572060209156058:=()
noncomputable def tw14491005103267586010:=()
noncomputable def tw17406136962360114138:=()
noncomputable def tw6058378993454661626:=()
noncomputable def tw16103849850496634939:=()
noncomputable def tw8004206274103572539:=()
noncomputable def tw4801982433088742459:=()
noncomputable def tw8614777251421559899:=()
noncomputable def tw5796354222422608987:=()
noncomputable def tw1666694428299288667:=()
noncomputable def tw10511823565363050587:=()
noncomputable def tw6202768586075735195:=()
noncomputable def tw81180840481494171:=()
noncomputable def tw13272504610945704091:=()
noncomputable def tw6341822008880759003:=()
noncomputable def tw8081558906472808667:=()
noncomputable def tw4100293265295638779:=()
noncomputable def tw10684981021144957211:=()
noncomputable def tw10553471711426338075:=()
noncomputable def tw4570111826955561243:=()
noncomputable def tw807531904560671035:=()
noncomputable def tw16554438482525722971:=()
noncomputable def tw4555391131476132251:=()
noncomputable def tw9231107438714462619:=()
noncomputable def tw2021336271155450331:=()
noncomputable def tw8465276812761224699:=()
noncomputable def tw8924392036579600891:=()
noncomputable def tw13724452099449386491:=()
noncomputable def tw3723988518540851739:=()
noncomputable def tw11039862389202566683:=()
noncomputable def tw17164383140453370395:=()
noncomputable def tw15564276425815640635:=()
noncomputable def tw5087414499874199163:=()
noncomputable def tw15201286185872193147:=()
noncomputable def tw9839346839192117915:=()
noncomputable def tw16908780153626456763:=()
noncomputable def tw1340732969908501211:=()
noncomputable def tw7055459427971326715:=()
noncomputable def tw18208264132641360667:=()
noncomputable def tw9712136527352899355:=()
noncomputable def tw3008263204520378139:=()
noncomputable def tw12541770739351648027:=()
noncomputable def tw9445451236469955387:=()
noncomputable def tw14943911441677524827:=()
noncomputable def tw10234915967203826555:=()
noncomputable def tw13728267205206896507:=()
noncomputable def tw9997704412844104603:=()
noncomputable def tw1713156846745171867:=()
noncomputable def tw8947099994592609211:=()
noncomputable def tw5555312102172926907:=()
noncomputable def tw5074984922658293691:=()
noncomputable def tw7130589087949165531:=()
noncomputable def tw6309580289441245147:=()
noncomputable def tw7692301277026442203:=()
noncomputable def tw10875463905939285979:=()
noncomputable def tw13678138593670788059:=()
noncomputable def tw111200028466390044:=()
noncomputable def tw14254621764821748828:=()
noncomputable def tw149832690125348956:=()
noncomputable def tw7890596953891613788:=()
noncomputable def tw10682770612549562524:=()
noncomputable def tw2503846163805864124:=()
noncomputable def tw3721105441807439036:=()
noncomputable def tw12909842661862811868:=()
noncomputable def tw2087981047521295580:=()
noncomputable def tw13423622936843584764:=()
noncomputable def tw5663504974038819100:=()
noncomputable def tw6768527794753136924:=()
noncomputable def tw3812028171767442716:=()
noncomputable def tw2366236672687842684:=()
noncomputable def tw3955986520655104412:=()
noncomputable def tw15309079848183770524:=()
noncomputable def tw3314143786362844604:=()
noncomputable def tw7779959011674639804:=()
noncomputable def tw7177338460636591580:=()
noncomputable def tw7976502392129159676:=()
noncomputable def tw9562769462328344092:=()
noncomputable def tw7163643146796875292:=()
noncomputable def tw6289197191216398940:=()
noncomputable def tw16340655207594038876:=()
noncomputable def tw12757126508119417436:=()
noncomputable def tw17861066769153400444:=()
noncomputable def tw2440955330291467932:=()
noncomputable def tw11432402860279490204:=()
noncomputable def tw8370555248988390076:=()
noncomputable def tw14752907821818930876:=()
noncomputable def tw4723787954990577340:=()
noncomputable def tw16237762584071213788:=()
noncomputable def tw9746901515087519452:=()
noncomputable def tw10782327089294195420:=()
noncomputable def tw6232080684201472732:=()
noncomputable def tw16256441300576474876:=()
noncomputable def tw5901363791540438844:=()
noncomputable def tw9747544060827109212:=()
noncomputable def tw3474304862208310108:=()
noncomputable def tw12291753297600562012:=()
noncomputable def tw6340033436541877084:=()
noncomputable def tw251868834278440796:=()
noncomputable def tw12355744275394475900:=()
noncomputable def tw11936995450923721628:=()
noncomputable def tw6650461044873433052:=()
noncomputable def tw4777830175859659740:=()
noncomputable def tw2487034316364812284:=()
noncomputable def tw6953265346914686045:=()
noncomputable def tw11615019562542576733:=()
noncomputable def tw14793013804824869981:=()
noncomputable def tw16822109747335207037:=()
noncomputable def tw9048390944144121981:=()
noncomputable def tw1469139661183043837:=()
noncomputable def tw544173102793226557:=()
noncomputable def tw11228628497211110749:=()
noncomputable def tw6144012678527597917:=()
noncomputable def tw4803414180949068221:=()
noncomputable def tw3456623496861543869:=()
noncomputable def tw3091651249775218141:=()
noncomputable def tw520194297998822909:=()
noncomputable def tw11061592194353771069:=()
noncomputable def tw3680538572021651005:=()
noncomputable def tw1012361349325877821:=()
noncomputable def tw5115476493328737885:=()
noncomputable def tw872479138520865405:=()
noncomputable def tw4013537778516871869:=()
noncomputable def tw8126443298418566877:=()
noncomputable def tw12649782002744950493:=()
noncomputable def tw17260493314774615805:=()
noncomputable def tw6068950659093879613:=()
noncomputable def tw16307707646766795581:=()
noncomputable def tw8344675336782298973:=()
noncomputable def tw11720030908404834205:=()
noncomputable def tw4719063310657182621:=()
noncomputable def tw11906472874536768445:=()
noncomputable def tw7451905468542833597:=()
noncomputable def tw15688172546075569117:=()
noncomputable def tw3105451386036433885:=()
noncomputable def tw7193555501269276637:=()
noncomputable def tw1346022578215293949:=()
noncomputable def tw12843830743766962206:=()
noncomputable def tw1613116972386908190:=()
noncomputable def tw2962455088084156510:=()
noncomputable def tw13511959964413161566:=()
noncomputable def tw9610726530385051774:=()
noncomputable def tw15373703851562958014:=()
noncomputable def tw1819255440876223710:=()
noncomputable def tw14245171486683049214:=()
noncomputable def tw7773504467932542270:=()
noncomputable def tw17233457631738950974:=()
noncomputable def tw8166985623705000286:=()
noncomputable def tw9916796106900827486:=()
noncomputable def tw14969715616416898430:=()
noncomputable def tw13326868189938593150:=()
noncomputable def tw12221555665107904926:=()
noncomputable def tw5598441983335636414:=()
noncomputable def tw18362098788967529950:=()
noncomputable def tw783796507600188894:=()
noncomputable def tw6385529401280152062:=()
noncomputable def tw10580198807604790814:=()
noncomputable def tw3293696948919318046:=()
noncomputable def tw4326780796455107134:=()
noncomputable def tw17217429795192226366:=()
noncomputable def tw8429034201219468894:=()
noncomputable def tw13294311002278339166:=()
noncomputable def tw10494351445547321982:=()
noncomputable def tw2051409578822353534:=()
noncomputable def tw6447930133964393182:=()
noncomputable def tw1687847423629159134:=()
noncomputable def tw1987541392991941342:=()
noncomputable def tw17570509445847580414:=()
noncomputable def tw3857263333814641470:=()
noncomputable def tw10860463890562471742:=()
noncomputable def tw8239405809661272926:=()
noncomputable def tw2930532333115074398:=()
noncomputable def tw2620492485814837118:=()
noncomputable def tw8049827351057952638:=()
noncomputable def tw7299242150946776990:=()
noncomputable def tw846297522682114974:=()
noncomputable def tw7470013935711676318:=()
noncomputable def tw2523429984870532094:=()
noncomputable def tw8439367832339070974:=()
noncomputable def tw17795422810854671358:=()
noncomputable def tw1014637456484912126:=()
noncomputable def tw5292745204252695550:=()
noncomputable def tw16975150828866795518:=()
noncomputable def tw11227884535216515135:=()
noncomputable def tw8896523894292634687:=()
noncomputable def tw12851234836949525663:=()
noncomputable def tw8207016077016218815:=()
noncomputable def tw13411564433711520991:=()
noncomputable def tw17628183408451194143:=()
noncomputable def tw11177036383054605599:=()
noncomputable def tw10812700024781328671:=()
noncomputable def tw15534823776402612543:=()
noncomputable def tw4547926851270420831:=()
noncomputable def tw7547296005191728479:=()
noncomputable def tw6707113841082798463:=()
noncomputable def tw4785068964239711615:=()
noncomputable def tw17698229166291050911:=()
noncomputable def tw4754365596532378047:=()
noncomputable def tw2608567993692976607:=()
noncomputable def tw14541005305830221311:=()
noncomputable def tw9682595657389325823:=()
noncomputable def tw17784850919643140607:=()
noncomputable def tw5169673773032560159:=()
noncomputable def tw16175276709679454751:=()
noncomputable def tw15530151957754944063:=()
noncomputable def tw3558005061807245919:=()
noncomputable def tw2236755162388048479:=()
noncomputable def tw2711489104339610207:=()
noncomputable def tw4265850918314828415:=()
noncomputable def tw10323461325745473215:=()
noncomputable def tw1547390860169783007:=()
noncomputable def tw12829507556594621215:=()
noncomputable def tw2165888344414945055:=()
noncomputable def tw6951216239237536575:=()
noncomputable def tw3459265974087741279:=()
noncomputable def tw14497727239971306367:=()
noncomputable def tw9711862698833617823:=()
noncomputable def tw2888837374417270719:=()
noncomputable def tw15240623583426463711:=()
noncomputable def tw16510490156224867327:=()
noncomputable def tw8727644632167741943:=()
end Mine.fin
set_option Elab.async true
open Mine in
theorem Mine.fin:PySem.Challenge.rw_np0337_01.Holds:=by
 w_on;o_law;k_head;(case hw=>w_witness2)
 k_go0
 rename_i X' T' K' F' N' l0
 have hn:=(N' (151,tabObj #[]) (by simp)).2.2
 refine AhQ (Γ:=⟨_,_,_,_,_,_⟩) (sts:=f_law.body) (nm:=(varN.getD 84 []).drop 1) (n:=78) (rest:=9) X' T'.g T'.b T'.nolimit T'.builtins (by kernel_rfl) codeHd (AdP T' hn) K' F' (by rfl) lifted (by assumption) hn (N' (151,tabObj #[]) (by simp)).1 l0 rfl (by decide +kernel) (by decide +kernel) (by kernel_rfl) (by decide) (Aj0 (by omega)) ?_
 intro h' tk' hk ⟨ps,hps⟩
 exact ⟨⟨.inl ⟨.bool true,.bool true,[],rfl,fun _=>rfl,.bool true,by kernel_rfl,fun _=>⟨List.nodup_nil,fun _ q=>nomatch q⟩⟩,hk,rfl,by assumption⟩,⟨ps,hps⟩,trivial⟩
end
theorem PySem.Challenge.cw_np0337_01_holds : PySem.Challenge.rw_np0337_01.Holds :=
 Mine.fin
