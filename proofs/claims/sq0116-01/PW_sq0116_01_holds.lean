import PyProof.Rows.All
import Wide.All
import OpenK.AllK
import Wide.FinOn
import Lean
import PySem.Challenge.RW_sq0116_01
set_option genSizeOf false
set_option genInjectivity false
set_option Elab.async false
set_option bootstrap.genMatcherCode false
set_option linter.all false
section
namespace Mine.Internal
inductive Tm where
 |v (i:Nat)|u (i:Nat)|k (n:Nat)|a (x y:Tm)|s (x y:Tm)|m (n:Nat)(x:Tm)|w (x:Tm)(n:Nat)|g (x:Tm)|c (x:Tm)
noncomputable def gt {α:Type}(d:α)(c:List α)(i:Nat):α:=match c,i with
 |[],_=>d
 |x::_,0=>x
 |_::l,i+1=>gt d l i
section
variable (c:List Int)(n:List Nat)
noncomputable def Tm.e:Tm->Nat
 |.u i=>gt 0 n i
 |.k j=>j
 |.a x y=>x.e+y.e
 |.m j x=>j*x.e
 |.w x j=>x.e*j
 |.v _|.s _ _|.g _|.c _=>0
noncomputable def Tm.d:Tm->Int
 |.v i=>gt 0 c i
 |.u i=>(gt 0 n i:Nat)
 |.k j=>Int.ofNat j
 |.a x y=>x.d+y.d
 |.s x y=>x.d - y.d
 |.m j x=>Int.ofNat j*x.d
 |.w x j=>x.d*Int.ofNat j
 |.g x=> - x.d
 |.c x=>(x.e n:Nat)
end
noncomputable def Cy:List Int->List Int->Int
 |x::p,y::c=>x*y+Cy p c
 |_,_=>0
noncomputable def pa:List Int->List Int->List Int
 |x::p,y::q=>(x+y)::pa p q
 |[],q=>q
 |p,[]=>p
noncomputable def ps (k:Int):List Int->List Int
 |[]=>[]
 |x::p=>(k*x)::ps k p
noncomputable def pu:Nat->List Int
 |0=>[1]
 |i+1=>0::pu i
theorem Ol:∀{p q c:List Int},Cy (pa p q) c=Cy p c+Cy q c
 |[],q,c=>(Int.zero_add _).symm
 |x::p,[],c=>(Int.add_zero _).symm
 |x::p,y::q,[]=>rfl
 |x::p,y::q,z::c=>by
  show(x+y)*z+Cy (pa p q) c=x*z+Cy p c+(y*z+Cy q c)
  rw[Ol,Int.add_mul];ac_rfl
theorem Pf {k:Int}:∀{p c:List Int},Cy (ps k p) c=k*Cy p c
 |[],c=>(Int.mul_zero _).symm
 |x::p,[]=>(Int.mul_zero _).symm
 |x::p,z::c=>by
  show k*x*z+Cy (ps k p) c=k*(x*z+Cy p c)
  rw[Pf,Int.mul_add,Int.mul_assoc]
theorem PQ:∀{i:Nat}{c:List Int},Cy (pu i) c=gt 0 c i
 |0,[]=>rfl
 |i+1,[]=>rfl
 |0,x::c=>by show 1*x+0=x;rw[Int.one_mul,Int.add_zero]
 |i+1,x::c=>by show 0*x+Cy (pu i) c=_;rw[Int.zero_mul,Int.zero_add];exact PQ
noncomputable def Tm.l (b s:Bool):Tm->List Int
 |.v i=>bif b&&s then pu (i+1) else[]
 |.u i=>bif s then[] else pu i
 |.k j=>bif s then[Int.ofNat j] else[]
 |.a x y=>pa (x.l b s) (y.l b s)
 |.s x y=>bif b then pa (x.l b s) (ps (-1) (y.l b s)) else[]
 |.m j x=>ps (Int.ofNat j) (x.l b s)
 |.w x j=>ps (Int.ofNat j) (x.l b s)
 |.g x=>bif b then ps (-1) (x.l b s) else[]
 |.c x=>bif b then x.l false s else[]
section
variable {c:List Int}{n:List Nat}
noncomputable abbrev R:=List Int×List Int
noncomputable def vl (c:List Int)(n:List Nat)(r:R):Int:=Cy r.1 (1::c)+Cy r.2 (n.map Int.ofNat)
noncomputable def ra (r q:R):R:=(pa r.1 q.1,pa r.2 q.2)
noncomputable def rs (k:Int)(r:R):R:=(ps k r.1,ps k r.2)
noncomputable def Tm.r (b:Bool)(t:Tm):R:=(t.l b true,t.l b false)
theorem aU {r q:R}:vl c n (ra r q)=vl c n r+vl c n q:=by
 show Cy (pa _ _) _+Cy (pa _ _) _=_+_+(_+_);rw[Ol,Ol];ac_rfl
theorem ZZ {k:Int}{r:R}:vl c n (rs k r)=k*vl c n r:=by
 show Cy (ps _ _) _+Cy (ps _ _) _=_*(_+_);rw[Pf,Pf,Int.mul_add]
theorem Me {x:Int}:vl c n ([x],[])=x:=by show x*1+0+0=x;rw[Int.mul_one,Int.add_zero,Int.add_zero]
theorem au {i:Nat}:vl c n ([],pu i)=(gt 0 n i:Nat):=by
 show(0:Int)+Cy (pu i) _=_;rw[Int.zero_add,PQ]
 exact go i n
where go:∀(i:Nat)(n:List Nat),gt 0 (n.map Int.ofNat) i=(gt 0 n i:Nat)
 |_,[]=>rfl
 |0,_::_=>rfl
 |i+1,_::n=>go i n
theorem g_ {i:Nat}:vl c n (pu (i+1),[])=gt 0 c i:=by
 show Cy (pu (i+1)) _+0=_;rw[Int.add_zero,PQ];rfl
theorem Ee {r q:R}{x y:Int}(h:vl c n r=x)(g:vl c n q=y):vl c n (ra r q)=x+y:=h▸g▸aU
theorem E8 {r:R}{k x:Int}(h:vl c n r=x):vl c n (rs k r)=k*x:=h▸ZZ
theorem Tm.ne:∀{t:Tm},vl c n (t.r false)=(t.e n:Nat)
 |.u i=>au
 |.k j=>Me
 |.a x y=>Ee (r:=x.r false) (q:=y.r false) Tm.ne Tm.ne
 |.m j x=>E8 (r:=x.r false) Tm.ne
 |.w x j=>(E8 (r:=x.r false) Tm.ne).trans (Int.mul_comm _ _)
 |.v _|.s _ _|.g _|.c _=>rfl
theorem Tm.ok:∀{t:Tm},vl c n (t.r true)=t.d c n
 |.u i=>au
 |.k j=>Me
 |.a x y=>Ee (r:=x.r true) (q:=y.r true) Tm.ok Tm.ok
 |.m j x=>E8 (r:=x.r true) Tm.ok
 |.w x j=>(E8 (r:=x.r true) Tm.ok).trans (Int.mul_comm _ _)
 |.v i=>g_
 |.s x y=>(Ee (r:=x.r true) (q:=rs (-1) (y.r true)) Tm.ok (E8 Tm.ok)).trans (by rw[Int.neg_one_mul];exact Int.sub_eq_add_neg.symm)
 |.g x=>(E8 (r:=x.r true) Tm.ok).trans (Int.neg_one_mul _)
 |.c x=>Tm.ne (t:=x)
end
noncomputable def rn:Nat->Nat->Nat×Nat
 |0,p=>(0,p)
 |f+1,p=>match Nat.ble 8 (p%16),rn f (p/16) with
  |true,(n,q)=>(p%8+8*n,q)
  |false,_=>(p%16,p/16)
noncomputable def rt:Nat->Nat->Tm×Nat
 |0,p=>(.k 0,p)
 |f+1,p=>match p%16,rt f (p/16),rn 40 (p/16) with
  |0,_,(n,q)=>(.v n,q)
  |1,_,(n,q)=>(.u n,q)
  |2,_,(n,q)=>(.k n,q)
  |3,(x,q),_=>match rt f q with|(y,q)=>(.a x y,q)
  |4,(x,q),_=>match rt f q with|(y,q)=>(.s x y,q)
  |5,_,(n,q)=>match rt f q with|(x,q)=>(.m n x,q)
  |6,(x,q),_=>match rn 40 q with|(n,q)=>(.w x n,q)
  |7,(x,q),_=>(.g x,q)
  |_,(x,q),_=>(.c x,q)
structure It where
 o:Nat
 x:Tm
 y:Tm
 k:Nat
 q:Nat
noncomputable def ri (p:Nat):It:=match rt 40 (p/16) with
 |(x,q)=>match rt 40 q with
  |(y,q)=>match rn 40 q with
   |(k,q)=>⟨p%16,x,y,k,q⟩
section
variable (c:List Int)(n:List Nat)
noncomputable def gS (K:Nat->Prop):It->Prop
 |⟨o,x,y,_,q⟩=>match o with
  |0=>x.d c n<=y.d c n
  |1=>x.d c n<y.d c n
  |2=>x.e n<=y.e n
  |3=>x.e n<y.e n
  |4=>K q
  |5=>x.d c n<=y.d c n->K q
  |6=>x.d c n<y.d c n->K q
  |7=>x.d c n=y.d c n->K q
  |8=>x.d c n=y.d c n->K q
  |9=>x.e n<=y.e n->K q
  |10=>x.e n<y.e n->K q
  |11=>x.e n=y.e n->K q
  |12=>x.e n=y.e n->K q
  |_=>False
noncomputable def dn:Nat->Nat->Prop
 |0,_=>True
 |f+1,p=>gS c n (dn f) (ri p)
end
noncomputable def pz:List Int->Bool
 |[]=>true
 |x::p=>match x with|.ofNat 0=>pz p|_=>false
noncomputable def neg (r:R):Bool:=match r.1 with
 |.negSucc _::p=>pz p&&pz r.2
 |_=>false
noncomputable def m1:R:=([-1],[])
noncomputable def mi (b:Bool)(x y:Tm):R:=ra (y.r b) (rs (-1) (x.r b))
noncomputable def gw (K:Nat->R->Bool)(r:R):It->Bool
 |⟨o,x,y,k,q⟩=>match o with
  |0=>neg (ra r (rs (Int.ofNat k) (ra (mi true y x) m1)))
  |1=>neg (ra r (rs (Int.ofNat k) (mi true y x)))
  |2=>neg (ra r (rs (Int.ofNat k) (ra (mi false y x) m1)))
  |3=>neg (ra r (rs (Int.ofNat k) (mi false y x)))
  |4=>K q (ra r (rs (Int.ofNat k) (x.r false)))
  |5=>K q (ra r (rs (Int.ofNat k) (mi true x y)))
  |6=>K q (ra r (rs (Int.ofNat k) (ra (mi true x y) m1)))
  |7=>K q (ra r (rs (Int.ofNat k) (mi true x y)))
  |8=>K q (ra r (rs (Int.ofNat k) (mi true y x)))
  |9=>K q (ra r (rs (Int.ofNat k) (mi false x y)))
  |10=>K q (ra r (rs (Int.ofNat k) (ra (mi false x y) m1)))
  |11=>K q (ra r (rs (Int.ofNat k) (mi false x y)))
  |12=>K q (ra r (rs (Int.ofNat k) (mi false y x)))
  |_=>neg r
noncomputable def ck:Nat->Nat->R->Bool
 |0,_,_=>true
 |f+1,p,r=>gw (ck f) r (ri p)
section
variable {c:List Int}{n:List Nat}
theorem RX:∀{p c:List Int},pz p=true->Cy p c=0
 |[],_,_=>rfl
 |x::p,[],_=>rfl
 |.ofNat 0::p,z::c,h=>by show 0*z+Cy p c=0;rw[RX (p:=p) h,Int.zero_mul];rfl
theorem bY:∀{r:R},neg r=true->vl c n r<0
 |(.negSucc i::p,q),h=>by
  have h:=Bool.and_eq_true_iff.mp (show(pz p&&pz q)=true from h)
  show .negSucc i*1+Cy p c+Cy q _<0
  rw[RX h.1,RX h.2,Int.mul_one];exact Int.negSucc_lt_zero i
theorem Mo {x y:Tm}:vl c n (mi true x y)=y.d c n - x.d c n:=(Ee Tm.ok (E8 Tm.ok)).trans (by rw[Int.neg_one_mul];exact Int.sub_eq_add_neg.symm)
theorem LR {x y:Tm}:vl c n (mi false x y)=(y.e n:Int) - (x.e n:Nat):=(Ee Tm.ne (E8 Tm.ne)).trans (by rw[Int.neg_one_mul];exact Int.sub_eq_add_neg.symm)
theorem nx {r t:R}{k:Nat}{x:Int}(z:0<=vl c n r)(e:vl c n t=x)(u:0<=x):0<=vl c n (ra r (rs (Int.ofNat k) t)):=by
 rw[aU,ZZ,e];exact Int.add_nonneg z (Int.mul_nonneg (Int.natCast_nonneg k) u)
theorem no {r:R}(h:neg r=true)(z:0<=vl c n r):False:=Int.not_le.mpr (bY h) z
theorem A1:∀{f p:Nat}{r:R},ck f p r=true->0<=vl c n r->dn c n f p
 |0,_,_,_,_=>trivial
 |f+1,p,r,h,z=>by
  revert h
  show gw (ck f) r (ri p)=true->gS c n (dn c n f) (ri p)
  cases ri p with
  |mk o x y k q=>exact match o with
   |0=>λh=>Int.not_lt.mp λw=>no h (nx z (Ee Mo Me) (by omega))
   |1=>λh=>Int.not_le.mp λw=>no h (nx z Mo (by omega))
   |2=>λh=>Nat.not_lt.mp λw=>no h (nx z (Ee LR Me) (by omega))
   |3=>λh=>Nat.not_le.mp λw=>no h (nx z LR (by omega))
   |4=>λh=>A1 h (nx z Tm.ne (by omega))
   |5=>λh w=>A1 h (nx z Mo (by omega))
   |6=>λh w=>A1 h (nx z (Ee Mo Me) (by omega))
   |7=>λh w=>A1 h (nx z Mo (by omega))
   |8=>λh w=>A1 h (nx z Mo (by omega))
   |9=>λh w=>A1 h (nx z LR (by omega))
   |10=>λh w=>A1 h (nx z (Ee LR Me) (by omega))
   |11=>λh w=>A1 h (nx z LR (by omega))
   |12=>λh w=>A1 h (nx z LR (by omega))
   |o+13=>λh=>no h z
end
section
variable {x y z u v w:Int} {a b d e f g i j l m o q r s t c n k:Nat}
theorem Ao (p:Nat)(h:ck 60 p ([],[])=true:=by kernel_rfl):dn [] [a] 60 p:=A1 h (Int.le_refl 0)
theorem AR (p:Nat)(h:ck 60 p ([],[])=true:=by kernel_rfl):dn [] [a,b] 60 p:=A1 h (Int.le_refl 0)
theorem BM (p:Nat)(h:ck 60 p ([],[])=true:=by kernel_rfl):dn [] [a,b,d] 60 p:=A1 h (Int.le_refl 0)
theorem Ft (p:Nat)(h:ck 60 p ([],[])=true:=by kernel_rfl):dn [] [a,b,d,e] 60 p:=A1 h (Int.le_refl 0)
theorem Ky (p:Nat)(h:ck 60 p ([],[])=true:=by kernel_rfl):dn [] [a,b,d,e,f] 60 p:=A1 h (Int.le_refl 0)
theorem gp (p:Nat)(h:ck 60 p ([],[])=true:=by kernel_rfl):dn [] [a,b,d,e,f,g] 60 p:=A1 h (Int.le_refl 0)
theorem gr (p:Nat)(h:ck 60 p ([],[])=true:=by kernel_rfl):dn [] [a,b,d,e,f,g,i,j,l] 60 p:=A1 h (Int.le_refl 0)
theorem iZ (p:Nat)(h:ck 60 p ([],[])=true:=by kernel_rfl):dn [] [a,b,d,e,f,g,i,j,l,m,o,q,r,s] 60 p:=A1 h (Int.le_refl 0)
theorem cO (p:Nat)(h:ck 60 p ([],[])=true:=by kernel_rfl):dn [] [a,b,d,e,f,g,i,j,l,m,o,q,r,s,t] 60 p:=A1 h (Int.le_refl 0)
theorem Aj (p:Nat)(h:ck 60 p ([],[])=true:=by kernel_rfl):dn [x] [] 60 p:=A1 h (Int.le_refl 0)
theorem E0 (p:Nat)(h:ck 60 p ([],[])=true:=by kernel_rfl):dn [x] [a] 60 p:=A1 h (Int.le_refl 0)
theorem E9 (p:Nat)(h:ck 60 p ([],[])=true:=by kernel_rfl):dn [x] [a,b] 60 p:=A1 h (Int.le_refl 0)
theorem cu (p:Nat)(h:ck 60 p ([],[])=true:=by kernel_rfl):dn [x] [a,b,d] 60 p:=A1 h (Int.le_refl 0)
theorem gC (p:Nat)(h:ck 60 p ([],[])=true:=by kernel_rfl):dn [x] [a,b,d,e] 60 p:=A1 h (Int.le_refl 0)
theorem Fx (p:Nat)(h:ck 60 p ([],[])=true:=by kernel_rfl):dn [x,y] [] 60 p:=A1 h (Int.le_refl 0)
theorem Z4 (p:Nat)(h:ck 60 p ([],[])=true:=by kernel_rfl):dn [x,y] [a] 60 p:=A1 h (Int.le_refl 0)
theorem i9 (p:Nat)(h:ck 60 p ([],[])=true:=by kernel_rfl):dn [x,y] [a,b] 60 p:=A1 h (Int.le_refl 0)
theorem jo (p:Nat)(h:ck 60 p ([],[])=true:=by kernel_rfl):dn [x,y] [a,b,d] 60 p:=A1 h (Int.le_refl 0)
theorem FI (p:Nat)(h:ck 60 p ([],[])=true:=by kernel_rfl):dn [x,y,z] [] 60 p:=A1 h (Int.le_refl 0)
theorem jv (p:Nat)(h:ck 60 p ([],[])=true:=by kernel_rfl):dn [x,y,z] [a] 60 p:=A1 h (Int.le_refl 0)
theorem Ht (p:Nat)(h:ck 60 p ([],[])=true:=by kernel_rfl):dn [x,y,z,u] [] 60 p:=A1 h (Int.le_refl 0)
theorem Xb (p:Nat)(h:ck 60 p ([],[])=true:=by kernel_rfl):dn [x,y,z,u,v] [] 60 p:=A1 h (Int.le_refl 0)
theorem Ws (p:Nat)(h:ck 60 p ([],[])=true:=by kernel_rfl):dn [x,y,z,u,v,w] [] 60 p:=A1 h (Int.le_refl 0)
theorem m0 (k:Nat){x:Int}:0<=x%(k+1:Nat):=Int.emod_nonneg _ (Int.natCast_ne_zero.mpr (Nat.succ_ne_zero k))
theorem mo (k:Nat){x:Int}:x%(k+1:Nat)<(k+1:Nat):=Int.emod_lt_of_pos _ (Int.natCast_pos.mpr (Nat.succ_pos k))
theorem mq (k:Nat){x:Int}:Int.ofNat (k+1)*(x/(k+1:Nat))+x%(k+1:Nat)=x:=Int.mul_ediv_add_emod _ _
theorem ld {α:Type}{l:List α}{k:Nat}(h:k<=l.length):(l.drop k).length+k=l.length:=by rw[List.length_drop];exact Nat.sub_add_cancel h
theorem gb {α:Type}{l:List α}{k:Nat}(h:k<=l.length):(l.take k).length=k:=List.length_take_of_le h
end
end Mine.Internal
end
section
namespace Mine.Internal
inductive V where
 |none
 |bool (b:Bool)
 |int (i:Int)
 |str (s:List Nat)
 |bytes (b:List Nat)
 |tup (l:List V)
 |lst (l:List V)
 |dct (l:List (V×V))
 |obj (c:Nat)(fs:List (Nat×V))
 |ref (n:Nat)
 |rng (lo hi st:Int)
inductive Slot where
 |un
 |val (v:V)
 |ul (l:List V)
 |ud (l:List (V×V))
 |uo (c:Nat)(fs:List (Nat×V))
inductive Cell where
 |lst (l:List V)
 |ins (c:Nat)(fs:List (Nat×V))
noncomputable abbrev Bf:=List Slot
noncomputable abbrev Hp:=List Cell
structure St where
 r:Bf
 h:Hp
inductive Fl where
 |nxt
 |ret (v:V)
structure Den where
 fn:Nat->List V->Hp->Option (V×Hp)
 ini:Nat->List V->Hp->Option (List (Nat×V)×Hp)
inductive Hu|add|sub|mul|fdiv|mod|pow|bor|band
inductive GS|lt|le|gt|ge|eq|ne|isIn|notIn|isNone|isNotNone
inductive BI|len|range|bytes|list|tuple|int|ord|chr|min|max|sum|sorted
inductive Tgt where
 |one (i:Nat)
 |many (l:List Nat)
inductive E where
 |cst (v:V)
 |var (i:Nat)
 |fz (i:Nat)
 |glb (k:Nat)
 |bin (o:Hu)(a b:E)
 |neg (a:E)
 |cmp (o:GS)(a b:E)
 |cmp2 (o p:GS)(a b c:E)
 |and (l:List E)
 |or (l:List E)
 |not (a:E)
 |tst (a:E)
 |ite (t a b:E)
 |tup (l:List E)
 |lst (l:List E)
 |lstH (l:List E)
 |dsp (l:List (E×E))
 |sub (a i:E)
 |slc (a:E)(lo hi st:Option E)
 |att (a:E)(f:Nat)
 |call (f:Nat)(as:List E)
 |new (c:Nat)(as:List E)
 |mth (a:E)(m:Nat)(as:List E)
 |bi (b:BI)(as:List E)
 |join (a b:E)
 |fromB (a:E)
 |comp (elt:E)(t:Tgt)(it:E)(cond:Option E)
 |flat (a:E)
 |pkLen (i:Nat)
 |pkSub (i:Nat)(e:E)
 |pkNe (i:Nat)
 |pkIn (neg:Bool)(e:E)(i:Nat)
 |pkAtt (i:Nat)(f:Nat)
 |bad
inductive UK where
 |val (e:E)
 |ul
 |ud
inductive S where
 |ass (i:Nat)(e:E)
 |assC (i:Nat)(e:E)
 |assU (i:Nat)(l:List E)
 |assUC (i:Nat)(e:E)
 |assUD (i:Nat)(l:List (E×E))
 |assUI (i:Nat)(t:E)
 |unp (ts:List Nat)(e:E)
 |swp (rv:Bool)(ts:List Nat)(es:List UK)
 |sat (i:Nat)(f:Nat)(e:E)
 |hat (a:E)(f:Nat)(e:E)
 |hit (a ix e:E)
 |uit (i:Nat)(ix e:E)
 |udt (i:Nat)(k e:E)
 |app (i:Nat)(e:E)
 |ext (i:Nat)(e:E)
 |upd (i:Nat)(e:E)
 |exp (e:E)
 |iff (t:E)(a b:List S)
 |forr (t:Tgt)(e:E)(b:List S)
 |whl (t:E)(b:List S)
 |ret (e:E)
 |rse
noncomputable def Ek:Int:=9223372036854775808
noncomputable def line:Nat:=16777216
noncomputable def CI (f:V->V->Option Bool):List V->List V->Option Bool
 |[],[]=>some true
 |[],_::_=>some false
 |_::_,[]=>some false
 |a::x,b::y=>match f a b with
  |some c=>match CI f x y with
   |some d=>some (c&&d)
   |Option.none=>Option.none
  |Option.none=>Option.none
noncomputable def V.eqb:Nat->V->V->Option Bool
 |0,_,_=>Option.none
 |n+1,u,v=>match u with
  |.none=>(match v with|.none=>some true|_=>Option.none)
  |.bool a=>(match v with|.bool b=>some (a==b)|_=>Option.none)
  |.int a=>(match v with|.int b=>some (decide (a=b))|_=>Option.none)
  |.str a=>(match v with|.str b=>some (decide (a=b))|_=>Option.none)
  |.bytes a=>(match v with|.bytes b=>some (decide (a=b))|_=>Option.none)
  |.tup a=>(match v with|.tup b=>CI (V.eqb n) a b|_=>Option.none)
  |.lst a=>(match v with|.lst b=>CI (V.eqb n) a b|_=>Option.none)
  |_=>Option.none
noncomputable def AO (n:Nat):Bool:=Nat.ble n line
noncomputable def Fy (l:List Nat):Option V:=match AO l.length with|true=>some (.bytes l)|false=>Option.none
noncomputable def DJ (l:List V):Option V:=match AO l.length with|true=>some (.lst l)|false=>Option.none
noncomputable def aN (l:List Nat):Option V:=match AO l.length with|true=>some (.str l)|false=>Option.none
noncomputable def small (i:Int):Bool:=decide (-Ek<i)&&decide (i<Ek)
noncomputable def rep {α:Type}(l:List α):Nat->List α
 |0=>[]
 |n+1=>l++rep l n
noncomputable def VV:V->V->Option V
 |.int a,.int b=>some (.int (a+b))
 |.bytes a,.bytes b=>Fy (a++b)
 |.str a,.str b=>aN (a++b)
 |.lst a,.lst b=>DJ (a++b)
 |.tup a,.tup b=>match AO (a++b).length with|true=>some (.tup (a++b))|false=>Option.none
 |_,_=>Option.none
noncomputable def V6:V->V->Option V
 |.int a,.int b=>match small a with|true=>some (.int (a*b))|false=>Option.none
 |.lst a,.int b=>match decide (0<=b)&&decide (b<64) with|true=>DJ (rep a b.toNat)|false=>Option.none
 |.bytes a,.int b=>match decide (0<=b)&&decide (b<64)&&Nat.blt 0 a.length&&Nat.ble a.length 16 with|true=>Fy (rep a b.toNat)|false=>Option.none
 |_,_=>Option.none
noncomputable def KI:Hu->Int->Int->Option Int
 |.sub,a,b=>some (a - b)
 |.fdiv,a,b=>match decide (0<b)&&decide (b<Ek) with|true=>some (a/b)|false=>Option.none
 |.mod,a,b=>match decide (0<b) with|true=>some (a%b)|false=>Option.none
 |.pow,a,b=>match decide (0<=a)&&decide (a<16)&&decide (0<=b)&&decide (b<64) with|true=>some (a ^ b.toNat)|false=>Option.none
 |.bor,a,b=>match decide (0<=a)&&decide (0<=b)&&decide (a<65536)&&decide (b<65536) with|true=>some ((a.toNat|||b.toNat:Nat):Int)|false=>Option.none
 |.band,a,b=>match decide (0<=a)&&decide (0<=b)&&decide (a<65536)&&decide (b<65536) with|true=>some ((a.toNat &&& b.toNat:Nat):Int)|false=>Option.none
 |_,_,_=>Option.none
noncomputable def Hk (o:Hu):V->V->Option V
 |.int a,.int b=>(KI o a b).map V.int
 |_,_=>Option.none
noncomputable def AY (o:Hu)(u v:V):Option V:=match o with
 |.add=>VV u v
 |.mul=>V6 u v
 |o=>Hk o u v
noncomputable def Hf (x:V):List V->Option Bool
 |[]=>some false
 |y::r=>match V.eqb 8 y x,Hf x r with
  |some a,some b=>some (a||b)
  |_,_=>Option.none
noncomputable def keyOf (k:V):List (V×V)->Option (Option V)
 |[]=>some Option.none
 |p::r=>match V.eqb 8 p.1 k with
  |some true=>some (some p.2)
  |some false=>keyOf k r
  |Option.none=>Option.none
noncomputable def Cj (k v:V):List (V×V)->Option (List (V×V))
 |[]=>some [(k,v)]
 |p::r=>match V.eqb 8 p.1 k with
  |some true=>some ((p.1,v)::r)
  |some false=>(Cj k v r).map (p::·)
  |Option.none=>Option.none
noncomputable def isStr:V->Bool
 |.str _=>true
 |_=>false
noncomputable def isInt:V->Bool
 |.int _=>true
 |_=>false
noncomputable def D0 (v:V):Bool:=isStr v||isInt v
noncomputable def BD:List (V×V)->List (V×V)->Option (List (V×V))
 |[],d=>some d
 |p::r,d=>match D0 p.1 with
  |true=>(Cj p.1 p.2 d).bind (BD r)
  |false=>Option.none
noncomputable def Oq (f:Int->Int->Bool)(u v:V):Option Bool:=match u with
 |.int a=>(match v with|.int b=>some (f a b)|_=>Option.none)
 |_=>Option.none
noncomputable def SD (a:V):V->Option Bool
 |.lst l=>Hf a l
 |.tup l=>Hf a l
 |.dct l=>match D0 a with|true=>(keyOf a l).map (·.isSome)|false=>Option.none
 |_=>Option.none
noncomputable def ag:V->Bool
 |.none=>true
 |_=>false
noncomputable def KJ (a:V):V->Option Bool
 |.none=>some (ag a)
 |_=>Option.none
noncomputable def C3 (l:List (V×V)):Bool:=l.all λp=>isStr p.1
noncomputable def DT (l:List (V×V)):Bool:=l.all (λp=>isStr p.1)||l.all (λp=>isInt p.1)
noncomputable def Av (o:GS)(a b:V):Option Bool:=match o with
 |.lt=>Oq (λa b=>decide (a<b)) a b
 |.le=>Oq (λa b=>decide (a<=b)) a b
 |.gt=>Oq (λa b=>decide (b<a)) a b
 |.ge=>Oq (λa b=>decide (b<=a)) a b
 |.eq=>V.eqb 8 a b
 |.ne=>(V.eqb 8 a b).map (!·)
 |.isIn=>SD a b
 |.notIn=>(SD a b).map (!·)
 |.isNone=>KJ a b
 |.isNotNone=>(KJ a b).map (!·)
noncomputable def place (i:Int)(n:Nat):Option Nat:=
 match decide (0<=i) with
 |true=>match Nat.blt i.toNat n with|true=>some i.toNat|false=>Option.none
 |false=>match decide (-(n:Int)<=i) with|true=>some ((n:Int)+i).toNat|false=>Option.none
noncomputable def nth {α:Type}:List α->Nat->Option α
 |[],_=>Option.none
 |a::_,0=>some a
 |_::r,n+1=>nth r n
noncomputable def put {α:Type}:List α->Nat->α->List α
 |[],_,_=>[]
 |_::r,0,x=>x::r
 |a::r,n+1,x=>a::put r n x
noncomputable def OO (u v:V):Option V:=match u with
 |.lst l=>(match v with|.int i=>(place i l.length).bind (nth l)|_=>Option.none)
 |.tup l=>(match v with|.int i=>(place i l.length).bind (nth l)|_=>Option.none)
 |.bytes l=>(match v with
  |.int i=>(match decide (0<=i) with|true=>(nth l i.toNat).map λ(b:Nat)=>V.int (b:Int)|false=>Option.none)
  |_=>Option.none)
 |.dct l=>(match D0 v with
  |true=>(keyOf v l).bind λx=>x
  |false=>Option.none)
 |_=>Option.none
noncomputable def Dy (i:Int)(n:Nat):Nat:=match decide (0<=i) with
 |true=>match Nat.blt i.toNat n with|true=>i.toNat|false=>n
 |false=>((n:Int)+i).toNat
noncomputable def cut {α:Type}(l:List α)(lo hi:Option Int):List α:=
 let a:=match lo with|some i=>Dy i l.length|Option.none=>0
 let b:=match hi with|some i=>Dy i l.length|Option.none=>l.length
 (l.drop a).take (b - a)
noncomputable def Fv:Option Int->Bool
 |Option.none=>true
 |some i=>small i
noncomputable def FT (u:V)(lo hi st:Option Int):Option V:=match u with
 |.bytes l=>(match st with
  |Option.none=>(match Fv lo&&Fv hi with|true=>some (.bytes (cut l lo hi))|false=>Option.none)
  |some _=>Option.none)
 |.lst l=>(match st with
  |Option.none=>(match Fv lo&&Fv hi with|true=>some (.lst (cut l lo hi))|false=>Option.none)
  |some k=>(match lo with
   |Option.none=>(match hi with
    |Option.none=>(match decide (k=1) with
     |true=>some (.lst l)
     |false=>match decide (k= -1) with|true=>some (.lst l.reverse)|false=>Option.none)
    |some _=>Option.none)
   |some _=>Option.none))
 |_=>Option.none
noncomputable def BG (f:Nat):List (Nat×V)->Option V
 |[]=>Option.none
 |p::r=>match Nat.beq p.1 f with|true=>some p.2|false=>BG f r
noncomputable def Cm (f:Nat)(v:V):List (Nat×V)->List (Nat×V)
 |[]=>[(f,v)]
 |p::r=>match Nat.beq p.1 f with|true=>(f,v)::r|false=>p::Cm f v r
noncomputable def D5:List V->Option (List Int)
 |[]=>some []
 |v::r=>match v with|.int i=>(D5 r).map (i::·)|_=>Option.none
noncomputable def FV:List V->Option (List Nat)
 |[]=>some []
 |v::r=>match v with|.int i=>(match decide (0<=i)&&decide (i<256) with|true=>(FV r).map (i.toNat::·)|false=>Option.none)|_=>Option.none
noncomputable def II:Int->List Int->Int
 |a,[]=>a
 |a,b::r=>II (if b<a then b else a) r
noncomputable def Jr:Int->List Int->Int
 |a,[]=>a
 |a,b::r=>Jr (if a<b then b else a) r
noncomputable def PK:List Int->Int
 |[]=>0
 |a::r=>a+PK r
noncomputable def CF (lo st:Int):Nat->List V
 |0=>[]
 |n+1=>.int lo::CF (lo+st) st n
noncomputable def CC (lo hi st:Int):Nat:=match decide (lo<hi) with|true=>((hi - lo - 1)/st+1).toNat|false=>0
noncomputable def LW (i:Int):Bool:=decide (-2305843009213693952<i)&&decide (i<2305843009213693952)
noncomputable def Eg (lo hi st:Int):Bool:=LW lo&&LW hi&&decide (0<st)&&LW st
noncomputable def CT (lo hi st:Int):List V:=CF lo st (CC lo hi st)
noncomputable def Ud:List Nat->List Nat->Bool
 |[],[]=>false
 |[],_::_=>true
 |_::_,[]=>false
 |a::x,b::y=>match Nat.blt a b with|true=>true|false=>match Nat.beq a b with|true=>Ud x y|false=>false
noncomputable def Mj (a:List Nat):List (List Nat)->List (List Nat)
 |[]=>[a]
 |b::r=>match Ud a b with|true=>a::b::r|false=>b::Mj a r
noncomputable def Sd:List (List Nat)->List (List Nat)
 |[]=>[]
 |a::r=>Mj a (Sd r)
noncomputable def NK:List V->Option (List (List Nat))
 |[]=>some []
 |.str s::r=>(NK r).map (s::·)
 |_::_=>Option.none
noncomputable def NH:List V->Option (List (List Nat))
 |[]=>some []
 |.bytes s::r=>(NH r).map (s::·)
 |_::_=>Option.none
noncomputable def Tf:List (List Nat)->Bool
 |[]=>true
 |[_]=>true
 |a::b::r=>Ud a b&&Tf (b::r)
noncomputable def RM:List Int->Bool
 |[]=>true
 |[_]=>true
 |a::b::r=>decide (a<b)&&RM (b::r)
noncomputable def NM (l:List V):Option V:=
 match Nat.blt l.length 64 with
 |false=>Option.none
 |true=>match l with
  |[]=>some (.lst [])
  |[x]=>some (.lst [x])
  |_=>match D5 l with
   |some is=>match RM is with|true=>some (.lst l)|false=>Option.none
   |Option.none=>match NK l with
    |some ss=>some (.lst ((Sd ss).map V.str))
    |Option.none=>match NH l with
     |some bs=>match Tf bs with|true=>some (.lst l)|false=>Option.none
     |Option.none=>Option.none
noncomputable def A4:V->Option (List V)
 |.lst l=>some l
 |.tup l=>some l
 |.rng lo hi st=>match AO (CC lo hi st) with|true=>some (CT lo hi st)|false=>Option.none
 |.bytes l=>some (l.map λ(b:Nat)=>V.int (b:Int))
 |.str l=>some (l.map λc=>.str [c])
 |.dct l=>match AO l.length with|true=>some (l.map (·.1))|false=>Option.none
 |_=>Option.none
noncomputable def Iu (f:V->Option V):List V->Option V
 |[]=>Option.none
 |v::r=>match r with|[]=>f v|_::_=>Option.none
noncomputable def aA (f:V->Option V)(h:Int->Int->Option V):List V->Option V
 |[]=>Option.none
 |v::r=>match r with
  |[]=>f v
  |w::t=>match t with
   |[]=>(match v with
    |.int a=>(match w with|.int b=>h a b|_=>Option.none)
    |_=>Option.none)
   |_::_=>Option.none
noncomputable def ZC (f:Int->Option V)(v:V):Option V:=match v with|.int i=>f i|_=>Option.none
noncomputable def TA (f:List V->Option V)(v:V):Option V:=match v with|.lst l=>f l|_=>Option.none
noncomputable def Zr:List V->Option V:=Iu λv=>match v with
 |.lst l=>some (.int l.length)
 |.tup l=>some (.int l.length)
 |.bytes l=>some (.int l.length)
 |.str l=>some (.int l.length)
 |_=>Option.none
noncomputable def Sw (a b c:Int):Option V:=match Eg a b c with|true=>some (.rng a b c)|false=>Option.none
noncomputable def UB (l:List V):Option V:=match l with
 |[]=>Option.none
 |u::l=>match u with
  |.int a=>(match l with
   |[]=>Sw 0 a 1
   |v::l=>match v with
    |.int b=>(match l with
     |[]=>Sw a b 1
     |w::l=>match w with
      |.int c=>(match l with|[]=>Sw a b c|_::_=>Option.none)
      |_=>Option.none)
    |_=>Option.none)
  |_=>Option.none
noncomputable def TK:List V->Option V:=Iu λv=>match v with
 |.int n=>(match decide (0<=n)&&decide (n<64) with|true=>Fy (List.replicate n.toNat 0)|false=>Option.none)
 |.lst l=>(FV l).bind Fy
 |.bytes l=>some (.bytes l)
 |_=>Option.none
noncomputable def WU:List V->Option V:=Iu λv=>match v with
 |.lst l=>some (.lst l)
 |.tup l=>some (.lst l)
 |_=>Option.none
noncomputable def Ue:List V->Option V:=Iu (TA λl=>some (.tup l))
noncomputable def cg:List V->Option V:=Iu (ZC λi=>some (.int i))
noncomputable def WR:List V->Option V:=Iu λv=>match v with
 |.str l=>(match l with|[]=>Option.none|c::r=>match r with|[]=>some (.int c)|_::_=>Option.none)
 |_=>Option.none
noncomputable def cc:List V->Option V:=Iu (ZC λi=>match decide (0<=i)&&decide (i<128) with|true=>some (.str [i.toNat])|false=>Option.none)
noncomputable def ZA (f:Int->List Int->Int)(o:Option (List Int)):Option V:=match o with
 |some l=>(match l with|[]=>Option.none|a::r=>some (.int (f a r)))
 |Option.none=>Option.none
noncomputable def cI:List V->Option V:=aA (TA λl=>ZA II (D5 l)) λa b=>some (.int (if b<a then b else a))
noncomputable def cN:List V->Option V:=aA (TA λl=>ZA Jr (D5 l)) λa b=>some (.int (if a<b then b else a))
noncomputable def ax:List V->Option V:=Iu (TA λl=>(D5 l).map λis=>.int (PK is))
noncomputable def LX:List V->Option V:=Iu λv=>match v with
 |.lst l=>NM l
 |.dct l=>NM (l.map (·.1))
 |_=>Option.none
noncomputable def Be (b:BI)(l:List V):Option V:=match b with
 |.len=>Zr l
 |.range=>UB l
 |.bytes=>TK l
 |.list=>WU l
 |.tuple=>Ue l
 |.int=>cg l
 |.ord=>WR l
 |.chr=>cc l
 |.min=>cI l
 |.max=>cN l
 |.sum=>ax l
 |.sorted=>LX l
noncomputable def JA:List V->Option (List Nat)
 |[]=>some []
 |.bytes b::r=>(JA r).map (b++·)
 |_::_=>Option.none
noncomputable def DQ (l:List Nat):Nat:=l.foldl (λa b=>a*256+b) 0
noncomputable def Di:List Nat->List Slot->Bf->Option Bf
 |[],vs,r=>(match vs with|[]=>some r|_::_=>Option.none)
 |i::ts,vs,r=>(match vs with
  |[]=>Option.none
  |v::vs=>match Nat.blt i r.length with|true=>Di ts vs (put r i v)|false=>Option.none)
noncomputable def Gn (ts:List Nat)(vs:List V)(r:Bf):Option Bf:=Di ts (vs.map Slot.val) r
noncomputable def DR:V->Option (List V)
 |.tup l=>some l
 |.lst l=>some l
 |_=>Option.none
noncomputable def DD (t:Tgt)(v:V)(r:Bf):Option Bf:=match t with
 |.one i=>match Nat.blt i r.length with|true=>some (put r i (.val v))|false=>Option.none
 |.many ts=>(DR v).bind λvs=>Gn ts vs r
noncomputable def BW (f:V->St->Option (Option V×St)):List V->St->Option (List V×St)
 |[],s=>some ([],s)
 |x::r,s=>(f x s).bind λp=>(BW f r p.2).bind λq=>some ((match p.1 with|some y=>y::q.1|Option.none=>q.1),q.2)
noncomputable def E_:List V->Option (List V)
 |[]=>some []
 |v::r=>match v with
  |.lst l=>(E_ r).map (l++·)
  |_=>Option.none
noncomputable def Ct (f:V->St->Option (Fl×St)):List V->St->Option (Fl×St)
 |[],s=>some (.nxt,s)
 |x::r,s=>(f x s).bind λp=>match p.1 with
  |.nxt=>Ct f r p.2
  |.ret v=>some (.ret v,p.2)
noncomputable def Pu (t:St->Option (Bool×St))(f:St->Option (Fl×St)):Nat->St->Option (Fl×St)
 |0,_=>Option.none
 |n+1,s=>(t s).bind λb=>match b.1 with
  |false=>some (.nxt,b.2)
  |true=>(f b.2).bind λp=>match p.1 with
   |.nxt=>Pu t f n p.2
   |.ret v=>some (.ret v,p.2)
noncomputable def HZ:V->Option Bool
 |.bool b=>some b
 |_=>Option.none
structure Tab where
 glb:Nat->Option V
 fok:Nat->Nat->Bool
 frz:Nat->Option Bool
 mth:Nat->Nat->Option Nat
noncomputable def Es (r:Bf)(i:Nat):Option V:=match nth r i with|some (.val v)=>some v|_=>Option.none
noncomputable def C2 (r:Bf)(i:Nat):Bool:=match nth r i with
 |some (.ul _)=>true
 |_=>false
noncomputable def I7 (r:Bf)(i:Nat):Bool:=match nth r i with
 |some (.ud _)=>true
 |_=>false
noncomputable def CX (T:Tab)(x:V)(m:Nat)(h:Hp):Option Nat:=match x with
 |.obj c _=>T.mth c m
 |.ref n=>match nth h n with
  |some (.ins c _)=>T.mth c m
  |_=>Option.none
 |_=>Option.none
section
variable (T:Tab)(D:Den)
mutual
noncomputable def ev:E->St->Option (V×St)
 |.cst v,s=>some (v,s)
 |.var i,s=>(Es s.r i).map (·,s)
 |.fz i,s=>match nth s.r i with
  |some (.val v)=>some (v,s)
  |some (.ul l)=>some (.lst l,⟨put s.r i (.val (.lst l)),s.h⟩)
  |some (.ud l)=>some (.dct l,⟨put s.r i (.val (.dct l)),s.h⟩)
  |_=>Option.none
 |.glb k,s=>(T.glb k).map (·,s)
 |.bin o a b,s=>(ev a s).bind λx=>(ev b x.2).bind λy=>(AY o x.1 y.1).map (·,y.2)
 |.neg a,s=>(ev a s).bind λx=>match x.1 with|.int i=>some (.int (-i),x.2)|_=>Option.none
 |.cmp o a b,s=>(ev a s).bind λx=>(ev b x.2).bind λy=>(Av o x.1 y.1).map λc=>(.bool c,y.2)
 |.cmp2 o p a b c,s=>(ev a s).bind λx=>(ev b x.2).bind λy=>(Av o x.1 y.1).bind λc1=>match c1 with
  |false=>some (.bool false,y.2)
  |true=>(ev c y.2).bind λz=>(Av p y.1 z.1).map λc2=>(.bool c2,z.2)
 |.and l,s=>Kp l s
 |.or l,s=>Pb l s
 |.not a,s=>(Cd a s).map λx=>(.bool (!x.1),x.2)
 |.ite t a b,s=>(Cd t s).bind λx=>match x.1 with|true=>ev a x.2|false=>ev b x.2
 |.tup l,s=>(CU l s).bind λx=>match AO x.1.length with|true=>some (.tup x.1,x.2)|false=>Option.none
 |.lst l,s=>(CU l s).bind λx=>(DJ x.1).map (·,x.2)
 |.lstH l,s=>(CU l s).bind λx=>match AO x.1.length with|true=>some (.ref x.2.h.length,⟨x.2.r,x.2.h++[.lst x.1]⟩)|false=>Option.none
 |.dsp l,s=>(Hy l s).bind λx=>match DT x.1 with|true=>(BD x.1 []).map λd=>(.dct d,x.2)|false=>Option.none
 |.sub a i,s=>(ev a s).bind λx=>(ev i x.2).bind λy=>match x.1,y.1 with
  |.ref n,.int j=>match nth y.2.h n with
   |some (.lst l)=>((place j l.length).bind (nth l)).map (·,y.2)
   |_=>Option.none
  |u,v=>(OO u v).map (·,y.2)
 |.slc a lo hi st,s=>(ev a s).bind λx=>(US lo x.2).bind λy=>(US hi y.2).bind λz=>(US st z.2).bind λu=>(FT x.1 y.1 z.1 u.1).map (·,u.2)
 |.att a f,s=>(ev a s).bind λx=>match x.1 with
  |.obj c fs=>match T.fok c f with|true=>(BG f fs).map (·,x.2)|false=>Option.none
  |.ref n=>match nth x.2.h n with
   |some (.ins c fs)=>match T.fok c f with|true=>(BG f fs).map (·,x.2)|false=>Option.none
   |_=>Option.none
  |_=>Option.none
 |.call f as,s=>(CU as s).bind λx=>(D.fn f x.1 x.2.h).map λy=>(y.1,⟨x.2.r,y.2⟩)
 |.new c as,s=>(CU as s).bind λx=>(T.frz c).bind λz=>(D.ini c x.1 x.2.h).map λy=>match z with
  |true=>(.obj c y.1,⟨x.2.r,y.2⟩)
  |false=>(.ref y.2.length,⟨x.2.r,y.2++[.ins c y.1]⟩)
 |.mth a m as,s=>(ev a s).bind λx=>(CX T x.1 m x.2.h).bind λf=>(CU as x.2).bind λy=>(D.fn f (x.1::y.1) y.2.h).map λ(z:V×Hp)=>(z.1,⟨y.2.r,z.2⟩)
 |.bi b as,s=>(CU as s).bind λx=>(Be b x.1).map (·,x.2)
 |.join a b,s=>(ev a s).bind λx=>(ev b x.2).bind λy=>match x.1,y.1 with
  |.bytes [],.lst l=>((JA l).bind Fy).map (·,y.2)
  |_,_=>Option.none
 |.fromB a,s=>(ev a s).bind λx=>match x.1 with
  |.bytes l=>match Nat.ble l.length 8 with|true=>some (.int (DQ l),x.2)|false=>Option.none
  |_=>Option.none
 |.comp elt t it cond,s=>(ev it s).bind λx=>(A4 x.1).bind λl=>(BW (λv s'=>(DD t v s'.r).bind λr=>(OY cond ⟨r,s'.h⟩).bind λb=>match b.1 with
   |true=>(ev elt b.2).map λy=>(some y.1,y.2)
   |false=>some (Option.none,b.2)) l x.2).bind λq=>(DJ q.1).map (·,q.2)
 |.flat a,s=>(ev a s).bind λx=>(A4 x.1).bind λl=>(E_ l).bind λq=>(DJ q).map (·,x.2)
 |.pkLen i,s=>match nth s.r i with
  |some (.ul l)=>some (.int l.length,s)
  |_=>Option.none
 |.pkSub i e,s=>match C2 s.r i with
  |false=>Option.none
  |true=>(ev e s).bind λx=>match nth x.2.r i,x.1 with
   |some (.ul l),.int j=>((place j l.length).bind (nth l)).map (·,x.2)
   |_,_=>Option.none
 |.pkNe i,s=>match nth s.r i with
  |some (.ul [])=>some (.bool false,s)
  |some (.ul (_::_))=>some (.bool true,s)
  |_=>Option.none
 |.pkIn neg e i,s=>(ev e s).bind λx=>match nth x.2.r i with
  |some (.ud l)=>match D0 x.1 with
   |true=>(keyOf x.1 l).map λb=>(.bool (if neg then !b.isSome else b.isSome),x.2)
   |false=>Option.none
  |_=>Option.none
 |.pkAtt i f,s=>match nth s.r i with
  |some (.uo c fs)=>match T.fok c f with|true=>(BG f fs).map (·,s)|false=>Option.none
  |_=>Option.none
 |.tst _,_=>Option.none
 |.bad,_=>Option.none
termination_by structural x=>x
noncomputable def CU:List E->St->Option (List V×St)
 |[],s=>some ([],s)
 |e::r,s=>(ev e s).bind λx=>(CU r x.2).map λy=>(x.1::y.1,y.2)
termination_by structural x=>x
noncomputable def Hy:List (E×E)->St->Option (List (V×V)×St)
 |[],s=>some ([],s)
 |(k,e)::r,s=>(ev k s).bind λx=>(ev e x.2).bind λy=>(Hy r y.2).map λz=>((x.1,y.1)::z.1,z.2)
termination_by structural x=>x
noncomputable def US:Option E->St->Option (Option Int×St)
 |Option.none,s=>some (Option.none,s)
 |some e,s=>(ev e s).bind λx=>match x.1 with|.int i=>some (some i,x.2)|_=>Option.none
termination_by structural x=>x
noncomputable def OY:Option E->St->Option (Bool×St)
 |Option.none,s=>some (true,s)
 |some e,s=>Cd e s
termination_by structural x=>x
noncomputable def Cd:E->St->Option (Bool×St)
 |.and l,s=>FJ l s
 |.or l,s=>HG l s
 |.not a,s=>(Cd a s).map λx=>(!x.1,x.2)
 |.tst e,s=>(ev e s).bind λx=>(HZ x.1).map (·,x.2)
 |_,_=>Option.none
termination_by structural x=>x
noncomputable def FJ:List E->St->Option (Bool×St)
 |[],s=>some (true,s)
 |e::r,s=>(Cd e s).bind λx=>match x.1 with|true=>FJ r x.2|false=>some (false,x.2)
termination_by structural x=>x
noncomputable def HG:List E->St->Option (Bool×St)
 |[],s=>some (false,s)
 |e::r,s=>(Cd e s).bind λx=>match x.1 with|true=>some (true,x.2)|false=>HG r x.2
termination_by structural x=>x
noncomputable def Kp:List E->St->Option (V×St)
 |[],_=>Option.none
 |[e],s=>ev e s
 |e::r,s=>(ev e s).bind λx=>(HZ x.1).bind λb=>match b with|true=>Kp r x.2|false=>some (x.1,x.2)
termination_by structural x=>x
noncomputable def Pb:List E->St->Option (V×St)
 |[],_=>Option.none
 |[e],s=>ev e s
 |e::r,s=>(ev e s).bind λx=>(HZ x.1).bind λb=>match b with|true=>some (x.1,x.2)|false=>Pb r x.2
termination_by structural x=>x
end
noncomputable def Ec:List UK->St->Option (List Slot×St)
 |[],s=>some ([],s)
 |.val e::r,s=>(ev T D e s).bind λx=>(Ec r x.2).map λy=>(.val x.1::y.1,y.2)
 |.ul::r,s=>(Ec r s).map λy=>(.ul []::y.1,y.2)
 |.ud::r,s=>(Ec r s).map λy=>(.ud []::y.1,y.2)
noncomputable def BL (i:Nat)(x:Slot)(s:St):Option (Fl×St):=match Nat.blt i s.r.length with|true=>some (.nxt,⟨put s.r i x,s.h⟩)|false=>Option.none
mutual
noncomputable def ex:S->St->Option (Fl×St)
 |.ass i e,s=>(ev T D e s).bind λx=>BL i (.val x.1) x.2
 |.assC i e,s=>(ev T D e s).bind λx=>BL i (.val x.1) x.2
 |.assU i l,s=>(CU T D l s).bind λx=>match AO x.1.length with|true=>BL i (.ul x.1) x.2|false=>Option.none
 |.assUC i e,s=>(ev T D e s).bind λx=>match x.1 with|.lst l=>BL i (.ul l) x.2|_=>Option.none
 |.assUD i l,s=>(Hy T D l s).bind λx=>match DT x.1 with|true=>(BD x.1 []).bind λd=>BL i (.ud d) x.2|false=>Option.none
 |.assUI i t,s=>(Cd T D t s).bind λx=>match x.1 with|true=>BL i (.ud []) x.2|false=>Option.none
 |.unp ts e,s=>(ev T D e s).bind λx=>(DR x.1).bind λvs=>(Gn ts vs x.2.r).map λr=>(.nxt,⟨r,x.2.h⟩)
 |.swp rv ts es,s=>(Ec T D es s).bind λx=>(match rv with|true=>Di ts.reverse x.1.reverse x.2.r|false=>Di ts x.1 x.2.r).map λr=>(.nxt,⟨r,x.2.h⟩)
 |.sat i f e,s=>(ev T D e s).bind λx=>match nth x.2.r i with
  |some (.uo c fs)=>match T.fok c f&&Nat.blt fs.length 64 with|true=>BL i (.uo c (Cm f x.1 fs)) x.2|false=>Option.none
  |_=>Option.none
 |.hat a f e,s=>(ev T D e s).bind λx=>(ev T D a x.2).bind λy=>match y.1 with
  |.ref n=>match nth y.2.h n with
   |some (.ins c fs)=>match T.fok c f&&Nat.blt fs.length 64 with|true=>some (.nxt,⟨y.2.r,put y.2.h n (.ins c (Cm f x.1 fs))⟩)|false=>Option.none
   |_=>Option.none
  |_=>Option.none
 |.hit a ix e,s=>(ev T D e s).bind λx=>(ev T D a x.2).bind λy=>(ev T D ix y.2).bind λz=>match y.1,z.1 with
  |.ref n,.int j=>match nth z.2.h n with
   |some (.lst l)=>(place j l.length).map λk=>(.nxt,⟨z.2.r,put z.2.h n (.lst (put l k x.1))⟩)
   |_=>Option.none
  |_,_=>Option.none
 |.uit i ix e,s=>(ev T D e s).bind λx=>match C2 x.2.r i with
  |false=>Option.none
  |true=>(ev T D ix x.2).bind λz=>match nth z.2.r i,z.1 with
   |some (.ul l),.int j=>(place j l.length).bind λk=>BL i (.ul (put l k x.1)) z.2
   |_,_=>Option.none
 |.udt i k e,s=>(ev T D e s).bind λx=>match I7 x.2.r i with
  |false=>Option.none
  |true=>(ev T D k x.2).bind λz=>match nth z.2.r i with
   |some (.ud l)=>match isStr z.1&&C3 l&&Nat.blt l.length 64 with
    |true=>(Cj z.1 x.1 l).bind λd=>BL i (.ud d) z.2
    |false=>Option.none
   |_=>Option.none
 |.app i e,s=>match C2 s.r i with
  |false=>Option.none
  |true=>(ev T D e s).bind λx=>match nth x.2.r i with
   |some (.ul l)=>match AO (l.length+1) with|true=>BL i (.ul (l++[x.1])) x.2|false=>Option.none
   |_=>Option.none
 |.ext i e,s=>match C2 s.r i with
  |false=>Option.none
  |true=>(ev T D e s).bind λx=>match nth x.2.r i,x.1 with
   |some (.ul l),.lst l'=>match AO (l.length+l'.length) with|true=>BL i (.ul (l++l')) x.2|false=>Option.none
   |_,_=>Option.none
 |.upd i e,s=>match I7 s.r i with
  |false=>Option.none
  |true=>(ev T D e s).bind λx=>match nth x.2.r i,x.1 with
   |some (.ud l),.dct d=>match C3 d&&C3 l&&Nat.blt (d.length+l.length) 64 with|true=>(BD d l).bind λd'=>BL i (.ud d') x.2|false=>Option.none
   |_,_=>Option.none
 |.exp e,s=>(ev T D e s).map λx=>(.nxt,x.2)
 |.iff t a b,s=>(Cd T D t s).bind λx=>match x.1 with|true=>Bd a x.2|false=>Bd b x.2
 |.forr t e b,s=>(ev T D e s).bind λx=>(A4 x.1).bind λl=>Ct (λv s'=>(DD t v s'.r).bind λr=>Bd b ⟨r,s'.h⟩) l x.2
 |.whl t b,s=>Pu (Cd T D t) (Bd b) 64 s
 |.ret e,s=>(ev T D e s).map λx=>(.ret x.1,x.2)
 |.rse,_=>Option.none
termination_by structural x=>x
noncomputable def Bd:List S->St->Option (Fl×St)
 |[],s=>some (.nxt,s)
 |a::r,s=>(ex a s).bind λx=>match x.1 with|.nxt=>Bd r x.2|.ret v=>some (.ret v,x.2)
termination_by structural x=>x
end
end
structure Fn where
 np:Nat
 nv:Nat
 dfl:List V
 body:List S
noncomputable def D9 (f:Fn)(as:List V):Option (List V):=
 match Nat.ble as.length f.np&&Nat.ble (f.np - as.length) f.dfl.length with
 |true=>some (as++f.dfl.drop (f.dfl.length - (f.np - as.length)))
 |false=>Option.none
noncomputable def SE (T:Tab)(D:Den)(f:Fn)(as:List V)(h:Hp):Option (V×Hp):=
 (D9 f as).bind λvs=>(Bd T D f.body ⟨vs.map Slot.val++List.replicate (f.nv - f.np) .un,h⟩).map λp=>match p.1 with
  |.ret v=>(v,p.2.h)
  |.nxt=>(.none,p.2.h)
noncomputable def O7 (T:Tab)(D:Den)(c:Nat)(f:Fn)(as:List V)(h:Hp):Option (List (Nat×V)×Hp):=
 (D9 {f with np:=f.np - 1} as).bind λvs=>(Bd T D f.body ⟨.uo c []::vs.map Slot.val++List.replicate (f.nv - f.np) .un,h⟩).bind λp=>match p.1,nth p.2.r 0 with
  |.nxt,some (.uo c' fs)=>match Nat.beq c' c with|true=>some (fs,p.2.h)|false=>Option.none
  |_,_=>Option.none
section
universe u v
theorem s1 {α:Type u}{a b:α}(h:some a=some b):a=b:=Option.some.inj h
theorem p2 {α:Type u}{β:Type v}{a c:α}{b d:β}(h:some (a,b)=some (c,d)):a=c/\b=d:=Prod.mk.inj (Option.some.inj h)
theorem ns {α:Type u}{a:α}(h:none=some a):False:=nomatch h
theorem sn {α:Type u}{a:α}(h:some a=none):False:=nomatch h
theorem tf (h:true=false):False:=nomatch h
theorem ft (h:false=true):False:=nomatch h
theorem Ai {α:Type u}{β:Type v}{o:Option α}{f:α->Option β}{y:β}{M:Prop}(h:o.bind f=some y)(k:∀x,o=some x->f x=some y->M):M:=by
 obtain⟨x,h1,h2⟩:=Option.bind_eq_some_iff.1 h
 exact k x h1 h2
theorem Ap {α β:Type u}{γ:Type v}{o:Option (α×β)}{f:α×β->Option γ}{y:γ}{M:Prop}(h:o.bind f=some y)(k:∀a b,o=some (a,b)->f (a,b)=some y->M):M:=
 Ai h λx h1 h2=>k x.1 x.2 h1 h2
@[elab_as_elim] theorem AS {α β γ:Type u}{o:Option α}{f:α->β×γ}{M:β->γ->Prop}{y:β}{s:γ}(h:o.map f=some (y,s))(k:∀x,o=some x->M (f x).1 (f x).2):M y s:=by
 obtain⟨x,h1,h2⟩:=Option.map_eq_some_iff.1 h
 have:=k x h1
 rw[h2] at this
 exact this
@[elab_as_elim] theorem AZ {α:Type u}{a:α}{M:α->Prop}{b:α}(h:some a=some b)(k:M a):M b:=s1 h▸k
@[elab_as_elim] theorem BU {α:Type u}{β:Type v}{a:α}{b:β}{M:α->β->Prop}{c:α}{d:β}(h:some (a,b)=some (c,d))(k:M a b):M c d:=by
 obtain⟨h1,h2⟩:=p2 h
 subst h1 h2
 exact k
end
end Mine.Internal
end
section
namespace Mine.Internal
section
universe u v w
theorem AU {p0 p1:Prop}{M:Prop}(h:p0/\p1)(k:p0->p1->M):M:=let ⟨h0,h1⟩:=h;k h0 h1
theorem BH {p0 p1 p2:Prop}{M:Prop}(h:p0/\p1/\p2)(k:p0->p1->p2->M):M:=let ⟨h0,h1,h2⟩:=h;k h0 h1 h2
theorem Cz {p0 p1 p2 p3:Prop}{M:Prop}(h:p0/\p1/\p2/\p3)(k:p0->p1->p2->p3->M):M:=let ⟨h0,h1,h2,h3⟩:=h;k h0 h1 h2 h3
theorem Wz {p0 p1 p2 p3 p4:Prop}{M:Prop}(h:p0/\p1/\p2/\p3/\p4)(k:p0->p1->p2->p3->p4->M):M:=let ⟨h0,h1,h2,h3,h4⟩:=h;k h0 h1 h2 h3 h4
theorem WV {p0 p1 p2 p3 p4 p5:Prop}{M:Prop}(h:p0/\p1/\p2/\p3/\p4/\p5)(k:p0->p1->p2->p3->p4->p5->M):M:=let ⟨h0,h1,h2,h3,h4,h5⟩:=h;k h0 h1 h2 h3 h4 h5
theorem AA {jQ:Sort u}{p0:jQ->Prop}{M:Prop}(h:∃x0,p0 x0)(k:∀x0,p0 x0->M):M:=let ⟨x0,h0⟩:=h;k x0 h0
theorem Ac {jQ:Sort u}{p0 p1:jQ->Prop}{M:Prop}(h:∃x0,p0 x0/\p1 x0)(k:∀x0,p0 x0->p1 x0->M):M:=let ⟨x0,h0,h1⟩:=h;k x0 h0 h1
theorem CP {jQ:Sort u}{p0 p1 p2:jQ->Prop}{M:Prop}(h:∃x0,p0 x0/\p1 x0/\p2 x0)(k:∀x0,p0 x0->p1 x0->p2 x0->M):M:=let ⟨x0,h0,h1,h2⟩:=h;k x0 h0 h1 h2
theorem Q2 {jQ:Sort u}{p0 p1 p2 p3:jQ->Prop}{M:Prop}(h:∃x0,p0 x0/\p1 x0/\p2 x0/\p3 x0)(k:∀x0,p0 x0->p1 x0->p2 x0->p3 x0->M):M:=let ⟨x0,h0,h1,h2,h3⟩:=h;k x0 h0 h1 h2 h3
theorem cM {jQ:Sort u}{p0 p1 p2 p3 p4 p5:jQ->Prop}{M:Prop}(h:∃x0,p0 x0/\p1 x0/\p2 x0/\p3 x0/\p4 x0/\p5 x0)(k:∀x0,p0 x0->p1 x0->p2 x0->p3 x0->p4 x0->p5 x0->M):M:=let ⟨x0,h0,h1,h2,h3,h4,h5⟩:=h;k x0 h0 h1 h2 h3 h4 h5
theorem Ez {jQ:Sort u}{jT:Sort u}{p0:jQ->jT->Prop}{M:Prop}(h:∃x0 x1,p0 x0 x1)(k:∀x0 x1,p0 x0 x1->M):M:=let ⟨x0,x1,h0⟩:=h;k x0 x1 h0
theorem Hl {jQ:Sort u}{jT:Sort u}{p0 p1:jQ->jT->Prop}{M:Prop}(h:∃x0 x1,p0 x0 x1/\p1 x0 x1)(k:∀x0 x1,p0 x0 x1->p1 x0 x1->M):M:=let ⟨x0,x1,h0,h1⟩:=h;k x0 x1 h0 h1
theorem Co {jQ:Sort u}{jT:Sort u}{p0 p1 p2:jQ->jT->Prop}{M:Prop}(h:∃x0 x1,p0 x0 x1/\p1 x0 x1/\p2 x0 x1)(k:∀x0 x1,p0 x0 x1->p1 x0 x1->p2 x0 x1->M):M:=let ⟨x0,x1,h0,h1,h2⟩:=h;k x0 x1 h0 h1 h2
theorem D8 {jQ:Sort u}{jT:Sort u}{p0 p1 p2 p3:jQ->jT->Prop}{M:Prop}(h:∃x0 x1,p0 x0 x1/\p1 x0 x1/\p2 x0 x1/\p3 x0 x1)(k:∀x0 x1,p0 x0 x1->p1 x0 x1->p2 x0 x1->p3 x0 x1->M):M:=let ⟨x0,x1,h0,h1,h2,h3⟩:=h;k x0 x1 h0 h1 h2 h3
theorem IC {jQ:Sort u}{jT:Sort u}{p0 p1 p2 p3 p4:jQ->jT->Prop}{M:Prop}(h:∃x0 x1,p0 x0 x1/\p1 x0 x1/\p2 x0 x1/\p3 x0 x1/\p4 x0 x1)(k:∀x0 x1,p0 x0 x1->p1 x0 x1->p2 x0 x1->p3 x0 x1->p4 x0 x1->M):M:=let ⟨x0,x1,h0,h1,h2,h3,h4⟩:=h;k x0 x1 h0 h1 h2 h3 h4
theorem ju {jQ:Sort u}{jT:Sort u}{jV:Sort u}{p0:jQ->jT->jV->Prop}{M:Prop}(h:∃x0 x1 x2,p0 x0 x1 x2)(k:∀x0 x1 x2,p0 x0 x1 x2->M):M:=let ⟨x0,x1,x2,h0⟩:=h;k x0 x1 x2 h0
theorem WB {jQ:Sort u}{jT:Sort u}{jV:Sort u}{p0 p1:jQ->jT->jV->Prop}{M:Prop}(h:∃x0 x1 x2,p0 x0 x1 x2/\p1 x0 x1 x2)(k:∀x0 x1 x2,p0 x0 x1 x2->p1 x0 x1 x2->M):M:=let ⟨x0,x1,x2,h0,h1⟩:=h;k x0 x1 x2 h0 h1
theorem jA {jQ:Sort u}{jT:Sort u}{jV:Sort u}{p0 p1 p2:jQ->jT->jV->Prop}{M:Prop}(h:∃x0 x1 x2,p0 x0 x1 x2/\p1 x0 x1 x2/\p2 x0 x1 x2)(k:∀x0 x1 x2,p0 x0 x1 x2->p1 x0 x1 x2->p2 x0 x1 x2->M):M:=let ⟨x0,x1,x2,h0,h1,h2⟩:=h;k x0 x1 x2 h0 h1 h2
theorem MC {jQ:Sort u}{jT:Sort u}{jV:Sort u}{p0 p1 p2 p3:jQ->jT->jV->Prop}{M:Prop}(h:∃x0 x1 x2,p0 x0 x1 x2/\p1 x0 x1 x2/\p2 x0 x1 x2/\p3 x0 x1 x2)(k:∀x0 x1 x2,p0 x0 x1 x2->p1 x0 x1 x2->p2 x0 x1 x2->p3 x0 x1 x2->M):M:=let ⟨x0,x1,x2,h0,h1,h2,h3⟩:=h;k x0 x1 x2 h0 h1 h2 h3
theorem Q9 {jQ:Sort u}{jT:Sort u}{jV:Sort u}{p0 p1 p2 p3 p4 p5:jQ->jT->jV->Prop}{M:Prop}(h:∃x0 x1 x2,p0 x0 x1 x2/\p1 x0 x1 x2/\p2 x0 x1 x2/\p3 x0 x1 x2/\p4 x0 x1 x2/\p5 x0 x1 x2)(k:∀x0 x1 x2,p0 x0 x1 x2->p1 x0 x1 x2->p2 x0 x1 x2->p3 x0 x1 x2->p4 x0 x1 x2->p5 x0 x1 x2->M):M:=let ⟨x0,x1,x2,h0,h1,h2,h3,h4,h5⟩:=h;k x0 x1 x2 h0 h1 h2 h3 h4 h5
theorem i8 {jQ:Sort u}{jT:Sort u}{jV:Sort u}{j6:Sort u}{p0:jQ->jT->jV->j6->Prop}{M:Prop}(h:∃x0 x1 x2 x3,p0 x0 x1 x2 x3)(k:∀x0 x1 x2 x3,p0 x0 x1 x2 x3->M):M:=let ⟨x0,x1,x2,x3,h0⟩:=h;k x0 x1 x2 x3 h0
theorem Xn {jQ:Sort u}{jT:Sort u}{jV:Sort u}{j6:Sort u}{p0 p1:jQ->jT->jV->j6->Prop}{M:Prop}(h:∃x0 x1 x2 x3,p0 x0 x1 x2 x3/\p1 x0 x1 x2 x3)(k:∀x0 x1 x2 x3,p0 x0 x1 x2 x3->p1 x0 x1 x2 x3->M):M:=let ⟨x0,x1,x2,x3,h0,h1⟩:=h;k x0 x1 x2 x3 h0 h1
theorem gW {jQ:Sort u}{jT:Sort u}{jV:Sort u}{j6:Sort u}{p0 p1 p2:jQ->jT->jV->j6->Prop}{M:Prop}(h:∃x0 x1 x2 x3,p0 x0 x1 x2 x3/\p1 x0 x1 x2 x3/\p2 x0 x1 x2 x3)(k:∀x0 x1 x2 x3,p0 x0 x1 x2 x3->p1 x0 x1 x2 x3->p2 x0 x1 x2 x3->M):M:=let ⟨x0,x1,x2,x3,h0,h1,h2⟩:=h;k x0 x1 x2 x3 h0 h1 h2
theorem Xe {jQ:Sort u}{jT:Sort u}{jV:Sort u}{j6:Sort u}{p0 p1 p2 p3:jQ->jT->jV->j6->Prop}{M:Prop}(h:∃x0 x1 x2 x3,p0 x0 x1 x2 x3/\p1 x0 x1 x2 x3/\p2 x0 x1 x2 x3/\p3 x0 x1 x2 x3)(k:∀x0 x1 x2 x3,p0 x0 x1 x2 x3->p1 x0 x1 x2 x3->p2 x0 x1 x2 x3->p3 x0 x1 x2 x3->M):M:=let ⟨x0,x1,x2,x3,h0,h1,h2,h3⟩:=h;k x0 x1 x2 x3 h0 h1 h2 h3
@[elab_as_elim] theorem iN {jQ:Sort u}{jT:Sort u}{jV:Sort u}{β:Sort v}{f:jQ->jT->jV->β}{p0 p1 p2:jQ->jT->jV->Prop}{M:β->Prop}{y:β}(h:∃x0 x1 x2,y=f x0 x1 x2/\p0 x0 x1 x2/\p1 x0 x1 x2/\p2 x0 x1 x2)(k:∀x0 x1 x2,p0 x0 x1 x2->p1 x0 x1 x2->p2 x0 x1 x2->M (f x0 x1 x2)):M y:=by
 obtain⟨x0,x1,x2,rfl,h0,h1,h2⟩:=h
 exact k x0 x1 x2 h0 h1 h2
theorem AJ {α:Type}{b:Bool}{o:Option α}{y:α}{M:Prop}(h:(match b with|true=>o|false=>none)=some y)(k:b=true->o=some y->M):M:=by
 cases b
 ·exact(ns h).elim
 ·exact k rfl h
end
theorem A8 {a b:Bool}(h:(a&&b)=true):a=true/\b=true:=Bool.and_eq_true_iff.mp h
theorem Ab {a b:Bool}{M:Prop}(h:(a&&b)=true)(k:a=true->b=true->M):M:=k (A8 h).1 (A8 h).2
theorem B_ {b:Bool}(h:(!b)=true):b=false:=by cases b<;>first|rfl|exact(ft h).elim
@[elab_as_elim] theorem CG {α β:Type}{o:Option α}{f:α->β}{M:β->Prop}{y:β}(h:o.map f=some y)(k:∀x,o=some x->M (f x)):M y:=
 Ac (Option.map_eq_some_iff.1 h) λx h1 h2=>h2▸k x h1
end Mine.Internal
end
section
namespace Mine.Internal
namespace A
noncomputable def I3:List S:=[.sat 0 0 (.var 1),
 .sat 0 1 (.var 2)]
noncomputable def LG:Fn:=⟨3,3,[(.bytes [])],I3⟩
noncomputable def GU:List S:=[.ass 1 (.lst []),
 .forr (.one 2) (.att (.var 0) 0) [.ass 1 (.bin .add (.var 1) (.bi .list [(.var 2)]))],
 .ret (.var 1)]
noncomputable def Jk:Fn:=⟨1,3,[],GU⟩
noncomputable def IS:List S:=[.assU 1 [],
 .ass 2 (.neg (.cst (.int 1))),
 .forr (.one 3) (.att (.var 0) 0) [.ass 2 (.bin .add (.var 2) (.bi .len [(.var 3)])),
 .app 1 (.var 2)],
 .ret (.fz 1)]
noncomputable def Lw:Fn:=⟨1,4,[],IS⟩
noncomputable def Kk:List S:=[.ass 1 (.mth (.var 0) 0 []),
 .iff (.tst (.cmp .eq (.var 1) (.lst []))) [.ret (.tup [(.cst (.int 0)),(.cst (.int 0)),(.cst (.int 0)),(.cst (.int 0))])] [],
 .assC 2 (.comp (.bi .int [(.var 4)]) (.many [4,5,6]) (.var 1) none),
 .assC 3 (.comp (.bi .int [(.var 8)]) (.many [7,8,9]) (.var 1) none),
 .ret (.tup [(.bi .min [(.var 2)]),(.bi .min [(.var 3)]),(.bi .max [(.var 2)]),(.bi .max [(.var 3)])])]
noncomputable def Nx:Fn:=⟨1,10,[],Kk⟩
noncomputable def Kg:List S:=[.assU 2 [],
 .ass 3 (.cst (.int 0)),
 .forr (.one 4) (.var 1) [.app 2 (.bi .list [(.slc (.var 0) (some (.var 3)) (some (.bin .add (.var 4) (.cst (.int 1)))) none)]),
 .ass 3 (.bin .add (.var 4) (.cst (.int 1)))],
 .ret (.fz 2)]
noncomputable def Ny:Fn:=⟨2,5,[],Kg⟩
noncomputable def Uw:List S:=[.ret (.comp (.comp (.tup [(.bin .add (.var 4) (.var 1)),(.bin .add (.var 5) (.var 2)),(.var 6)]) (.many [4,5,6]) (.var 3) none) (.one 3) (.var 0) none)]
noncomputable def Y2:Fn:=⟨3,7,[],Uw⟩
noncomputable def H6:List S:=[.ret (.bin .fdiv (.bin .add (.var 0) (.cst (.int 8192))) (.cst (.int 16384)))]
noncomputable def JS:Fn:=⟨1,1,[],H6⟩
noncomputable def RQ:List S:=[.unp [2,3,4,5] (.var 1),
 .assU 6 [],
 .forr (.one 7) (.var 0) [.app 6 (.comp (.tup [(.call 6 [(.bin .add (.bin .mul (.var 2) (.var 8)) (.bin .mul (.var 4) (.var 9)))]),(.call 6 [(.bin .add (.bin .mul (.var 3) (.var 8)) (.bin .mul (.var 5) (.var 9)))]),(.var 10)]) (.many [8,9,10]) (.var 7) none)],
 .ret (.fz 6)]
noncomputable def VO:Fn:=⟨2,11,[],RQ⟩
noncomputable def Yd:List S:=[.iff (.or [(.tst (.cmp .lt (.var 1) (.cst (.int 0)))),(.tst (.cmp .gt (.bin .add (.var 1) (.cst (.int 2))) (.bi .len [(.var 0)])))]) [.rse] [],
 .ret (.bin .add (.bin .mul (.sub (.var 0) (.var 1)) (.cst (.int 256))) (.sub (.var 0) (.bin .add (.var 1) (.cst (.int 1)))))]
noncomputable def eQ:Fn:=⟨2,2,[],Yd⟩
noncomputable def YM:List S:=[.ass 2 (.call 8 [(.var 0),(.var 1)]),
 .ret (.ite (.tst (.cmp .ge (.var 2) (.cst (.int 32768)))) (.bin .sub (.var 2) (.cst (.int 65536))) (.var 2))]
noncomputable def fy:Fn:=⟨2,3,[],YM⟩
noncomputable def Xx:List S:=[.ret (.bin .add (.bin .mul (.call 8 [(.var 0),(.var 1)]) (.cst (.int 65536))) (.call 8 [(.var 0),(.bin .add (.var 1) (.cst (.int 2)))]))]
noncomputable def d0:Fn:=⟨2,2,[],Xx⟩
noncomputable def TJ:List S:=[.ret (.bi .bytes [(.lst [(.bin .mod (.bin .fdiv (.var 0) (.cst (.int 256))) (.cst (.int 256))),(.bin .mod (.var 0) (.cst (.int 256)))])])]
noncomputable def Ye:Fn:=⟨1,1,[],TJ⟩
noncomputable def Ii:List S:=[.iff (.or [(.tst (.cmp .lt (.var 0) (.neg (.cst (.int 32768))))),(.tst (.cmp .gt (.var 0) (.cst (.int 32767))))]) [.rse] [],
 .ret (.call 11 [(.var 0)])]
noncomputable def Ju:Fn:=⟨1,1,[],Ii⟩
noncomputable def Hg:List S:=[.iff (.or [(.tst (.cmp .lt (.var 0) (.cst (.int 0)))),(.tst (.cmp .gt (.var 0) (.cst (.int 65535))))]) [.rse] [],
 .ret (.call 11 [(.var 0)])]
noncomputable def IP:Fn:=⟨1,1,[],Hg⟩
noncomputable def UU:List S:=[.ret (.bin .add (.call 11 [(.bin .fdiv (.var 0) (.cst (.int 65536)))]) (.call 11 [(.var 0)]))]
noncomputable def Yz:Fn:=⟨1,1,[],UU⟩
noncomputable def Qc:List S:=[.iff (.or [(.tst (.cmp .lt (.var 1) (.cst (.int 0)))),(.tst (.cmp .lt (.var 2) (.cst (.int 0)))),(.tst (.cmp .gt (.bin .add (.var 1) (.var 2)) (.bi .len [(.var 0)])))]) [.rse] [],
 .ret (.bi .bytes [(.slc (.var 0) (some (.var 1)) (some (.bin .add (.var 1) (.var 2))) none)])]
noncomputable def Ux:Fn:=⟨3,3,[],Qc⟩
noncomputable def Ry:List S:=[.ret (.bin .add (.var 0) (.bi .bytes [(.bin .mod (.bin .sub (.cst (.int 4)) (.bin .mod (.bi .len [(.var 0)]) (.cst (.int 4)))) (.cst (.int 4)))]))]
noncomputable def Vd:Fn:=⟨1,1,[],Ry⟩
noncomputable def S4:List S:=[.ass 1 (.cst (.int 0)),
 .ass 2 (.call 16 [(.var 0)]),
 .forr (.one 3) (.bi .range [(.cst (.int 0)),(.bi .len [(.var 2)]),(.cst (.int 4))]) [.ass 1 (.bin .add (.var 1) (.fromB (.slc (.var 2) (some (.var 3)) (some (.bin .add (.var 3) (.cst (.int 4)))) none)))],
 .ret (.bin .mod (.var 1) (.glb 0))]
noncomputable def Wh:Fn:=⟨1,4,[],S4⟩
noncomputable def S0:List S:=[.ass 2 (.cst (.str [])),
 .forr (.one 3) (.call 15 [(.var 0),(.var 1),(.cst (.int 4))]) [.iff (.or [(.tst (.cmp .lt (.var 3) (.cst (.int 32)))),(.tst (.cmp .gt (.var 3) (.cst (.int 126))))]) [.rse] [],
 .ass 2 (.bin .add (.var 2) (.bi .chr [(.var 3)]))],
 .ret (.var 2)]
noncomputable def We:Fn:=⟨2,4,[],S0⟩
noncomputable def Lp:List S:=[.assC 1 (.comp (.bi .ord [(.var 2)]) (.one 2) (.var 0) none),
 .iff (.or [(.tst (.cmp .gt (.bi .len [(.var 0)]) (.cst (.int 4)))),(.tst (.cmp .eq (.var 0) (.cst (.str [])))),(.tst (.cmp .lt (.bi .min [(.var 1)]) (.cst (.int 32)))),(.tst (.cmp .gt (.bi .max [(.var 1)]) (.cst (.int 126))))]) [.rse] [],
 .ret (.bi .bytes [(.bin .add (.var 1) (.bin .mul (.lst [(.cst (.int 32))]) (.bin .sub (.cst (.int 4)) (.bi .len [(.var 0)]))))])]
noncomputable def N6:Fn:=⟨1,3,[],Lp⟩
noncomputable def JM:List S:=[.sat 0 2 (.var 1)]
noncomputable def Nw:Fn:=⟨2,2,[],JM⟩
noncomputable def Kd:List S:=[.ret (.bi .sorted [(.att (.var 0) 2)])]
noncomputable def NF:Fn:=⟨1,1,[],Kd⟩
noncomputable def L1:List S:=[.ret (.cmp .isIn (.var 1) (.att (.var 0) 2))]
noncomputable def O3:Fn:=⟨2,2,[],L1⟩
noncomputable def IK:List S:=[.iff (.tst (.cmp .notIn (.var 1) (.att (.var 0) 2))) [.rse] [],
 .ret (.sub (.att (.var 0) 2) (.var 1))]
noncomputable def Md:Fn:=⟨2,2,[],IK⟩
noncomputable def FL:List S:=[.sat 0 3 (.var 1),
 .sat 0 4 (.var 2),
 .sat 0 5 (.var 3),
 .sat 0 6 (.var 4)]
noncomputable def GR:Fn:=⟨5,5,[],FL⟩
noncomputable def f_read_directory_b:List S:=[.iff (.tst (.cmp .notIn (.call 10 [(.var 0),(.cst (.int 0))]) (.tup [(.glb 1),(.cst (.int 1953658213))]))) [.rse] [],
 .assU 1 [],
 .forr (.one 2) (.bi .range [(.call 8 [(.var 0),(.cst (.int 4))])]) [.ass 3 (.bin .add (.glb 2) (.bin .mul (.glb 3) (.var 2))),
 .ass 4 (.new 2 [(.call 18 [(.var 0),(.var 3)]),(.call 10 [(.var 0),(.bin .add (.var 3) (.cst (.int 4)))]),(.call 10 [(.var 0),(.bin .add (.var 3) (.cst (.int 8)))]),(.call 10 [(.var 0),(.bin .add (.var 3) (.cst (.int 12)))])]),
 .iff (.tst (.cmp .gt (.bin .add (.att (.var 4) 5) (.att (.var 4) 6)) (.bi .len [(.var 0)]))) [.rse] [],
 .app 1 (.var 4)],
 .ret (.fz 1)]
noncomputable def Jl:Fn:=⟨1,5,[],f_read_directory_b⟩
noncomputable def Kb:List S:=[.swp true [1,2] [.ud,.val (.call 25 [(.var 0)])],
 .iff (.tst (.cmp .gt (.bi .sum [(.comp (.att (.var 4) 6) (.one 4) (.var 2) none)]) (.bi .len [(.var 0)]))) [.rse] [],
 .forr (.one 3) (.var 2) [.iff (.tst (.pkIn false (.att (.var 3) 3) 1)) [.rse] [],
 .udt 1 (.att (.var 3) 3) (.call 15 [(.var 0),(.att (.var 3) 5),(.att (.var 3) 6)])],
 .ret (.new 1 [(.fz 1)])]
noncomputable def Nk:Fn:=⟨1,5,[],Kb⟩
noncomputable def LL:List S:=[.ret (.bin .add (.bin .add (.slc (.var 0) none (some (.glb 4)) none) (.bi .bytes [(.cst (.int 4))])) (.slc (.var 0) (some (.bin .add (.glb 4) (.cst (.int 4)))) none none))]
noncomputable def OU:Fn:=⟨1,1,[],LL⟩
noncomputable def Jd:List S:=[.ret (.call 17 [(.ite (.tst (.cmp .eq (.var 0) (.cst (.str [104,101,97,100])))) (.call 27 [(.var 1)]) (.var 1))])]
noncomputable def Lv:Fn:=⟨2,2,[],Jd⟩
noncomputable def Oc:List S:=[.ass 1 (.cst (.int 1)),
 .ass 2 (.cst (.int 0)),
 .whl (.tst (.cmp .le (.bin .mul (.var 1) (.cst (.int 2))) (.var 0))) [.ass 1 (.bin .mul (.var 1) (.cst (.int 2))),
 .ass 2 (.bin .add (.var 2) (.cst (.int 1)))],
 .ret (.tup [(.var 1),(.var 2)])]
noncomputable def RC:Fn:=⟨1,3,[],Oc⟩
noncomputable def Ge:List S:=[.ass 2 (.bi .len [(.mth (.var 0) 1 [])]),
 .unp [3,4] (.call 29 [(.bi .max [(.cst (.int 1)),(.var 2)])]),
 .ass 5 (.bin .add (.bin .add (.bin .add (.bin .add (.call 14 [(.glb 1)]) (.call 11 [(.var 2)])) (.call 11 [(.bin .mul (.var 3) (.cst (.int 16)))])) (.call 11 [(.var 4)])) (.call 11 [(.bin .mul (.bin .sub (.var 2) (.var 3)) (.cst (.int 16)))])),
 .forr (.one 6) (.mth (.var 0) 1 []) [.ass 7 (.mth (.var 0) 2 [(.var 6)]),
 .ass 5 (.bin .add (.bin .add (.bin .add (.bin .add (.var 5) (.call 19 [(.var 6)])) (.call 14 [(.call 28 [(.var 6),(.var 7)])])) (.call 14 [(.sub (.var 1) (.var 6))])) (.call 14 [(.bi .len [(.var 7)])]))],
 .ret (.var 5)]
noncomputable def HE:Fn:=⟨2,8,[],Ge⟩
noncomputable def I_:List S:=[.ass 1 (.bi .sorted [(.comp (.call 19 [(.var 9)]) (.one 9) (.mth (.var 0) 1 []) none)]),
 .iff (.tst (.cmp .ne (.comp (.var 10) (.one 10) (.bi .range [(.cst (.int 1)),(.bi .len [(.var 1)])]) (some (.tst (.cmp .eq (.sub (.var 1) (.var 10)) (.sub (.var 1) (.bin .sub (.var 10) (.cst (.int 1)))))))) (.lst []))) [.rse] [],
 .iff (.and [(.tst (.mth (.var 0) 3 [(.cst (.str [104,101,97,100]))])),(.tst (.cmp .lt (.bi .len [(.mth (.var 0) 2 [(.cst (.str [104,101,97,100]))])]) (.bin .add (.glb 4) (.cst (.int 4)))))]) [.rse] [],
 .assUD 2 [],
 .ass 3 (.bin .add (.glb 2) (.bin .mul (.glb 3) (.bi .len [(.mth (.var 0) 1 [])]))),
 .forr (.one 4) (.mth (.var 0) 1 []) [.udt 2 (.var 4) (.var 3),
 .ass 3 (.bin .add (.var 3) (.bi .len [(.call 16 [(.mth (.var 0) 2 [(.var 4)])])]))],
 .ass 5 (.call 30 [(.var 0),(.fz 2)]),
 .forr (.one 4) (.mth (.var 0) 1 []) [.ass 6 (.mth (.var 0) 2 [(.var 4)]),
 .ass 5 (.bin .add (.var 5) (.call 16 [(.ite (.tst (.cmp .eq (.var 4) (.cst (.str [104,101,97,100])))) (.call 27 [(.var 6)]) (.var 6))]))],
 .iff (.not (.tst (.mth (.var 0) 3 [(.cst (.str [104,101,97,100]))]))) [.ret (.var 5)] [],
 .ass 7 (.bin .mod (.bin .sub (.glb 5) (.call 17 [(.var 5)])) (.glb 0)),
 .ass 8 (.bin .add (.sub (.fz 2) (.cst (.str [104,101,97,100]))) (.glb 4)),
 .ret (.bin .add (.bin .add (.slc (.var 5) none (some (.var 8)) none) (.call 14 [(.var 7)])) (.slc (.var 5) (some (.bin .add (.var 8) (.cst (.int 4)))) none none))]
noncomputable def Lf:Fn:=⟨1,11,[],I_⟩
noncomputable def M5:List S:=[.ass 3 (.ite (.tst (.var 1)) (.cst (.int 4)) (.cst (.int 2))),
 .assU 4 [],
 .forr (.one 5) (.bi .range [(.bin .add (.var 2) (.cst (.int 1)))]) [.ass 6 (.ite (.tst (.var 1)) (.call 10 [(.var 0),(.bin .mul (.cst (.int 4)) (.var 5))]) (.bin .mul (.cst (.int 2)) (.call 8 [(.var 0),(.bin .mul (.cst (.int 2)) (.var 5))]))),
 .iff (.and [(.tst (.pkNe 4)),(.tst (.cmp .lt (.var 6) (.pkSub 4 (.neg (.cst (.int 1))))))]) [.rse] [],
 .app 4 (.var 6)],
 .iff (.tst (.cmp .lt (.bi .len [(.var 0)]) (.bin .mul (.var 3) (.bin .add (.var 2) (.cst (.int 1)))))) [.rse] [],
 .ret (.fz 4)]
noncomputable def P9:Fn:=⟨3,7,[],M5⟩
noncomputable def J3:List S:=[.sat 0 7 (.var 1),
 .sat 0 8 (.cst (.int 0))]
noncomputable def Nl:Fn:=⟨2,2,[],J3⟩
noncomputable def KX:List S:=[.hat (.var 0) 8 (.bin .add (.att (.var 0) 8) (.cst (.int 1))),
 .ret (.sub (.call 15 [(.att (.var 0) 7),(.bin .sub (.att (.var 0) 8) (.cst (.int 1))),(.cst (.int 1))]) (.cst (.int 0)))]
noncomputable def Nt:Fn:=⟨1,1,[],KX⟩
noncomputable def JO:List S:=[.hat (.var 0) 8 (.bin .add (.att (.var 0) 8) (.cst (.int 2))),
 .ret (.call 8 [(.att (.var 0) 7),(.bin .sub (.att (.var 0) 8) (.cst (.int 2)))])]
noncomputable def Nj:Fn:=⟨1,1,[],JO⟩
noncomputable def Ia:List S:=[.hat (.var 0) 8 (.bin .add (.att (.var 0) 8) (.cst (.int 2))),
 .ret (.call 9 [(.att (.var 0) 7),(.bin .sub (.att (.var 0) 8) (.cst (.int 2)))])]
noncomputable def JV:Fn:=⟨1,1,[],Ia⟩
noncomputable def KP:List S:=[.hat (.var 0) 8 (.bin .add (.att (.var 0) 8) (.var 1)),
 .ret (.call 15 [(.att (.var 0) 7),(.bin .sub (.att (.var 0) 8) (.var 1)),(.var 1)])]
noncomputable def Nz:Fn:=⟨2,2,[],KP⟩
noncomputable def Li:List S:=[.assU 2 [],
 .whl (.tst (.cmp .lt (.pkLen 2) (.var 1))) [.ass 3 (.mth (.var 0) 4 []),
 .ass 4 (.cst (.int 1)),
 .iff (.tst (.cmp .ne (.bin .band (.var 3) (.glb 6)) (.cst (.int 0)))) [.ass 4 (.bin .add (.cst (.int 1)) (.mth (.var 0) 4 []))] [],
 .ext 2 (.bin .mul (.lst [(.var 3)]) (.var 4))],
 .iff (.tst (.cmp .gt (.pkLen 2) (.var 1))) [.rse] [],
 .ret (.fz 2)]
noncomputable def PD:Fn:=⟨2,5,[],Li⟩
noncomputable def f_read_deltas_b:List S:=[.assU 4 [],
 .ass 5 (.cst (.int 0)),
 .forr (.one 6) (.var 1) [.iff (.tst (.cmp .ne (.bin .band (.var 6) (.var 2)) (.cst (.int 0)))) [.ass 7 (.mth (.var 0) 4 []),
 .ass 5 (.ite (.tst (.cmp .ne (.bin .band (.var 6) (.var 3)) (.cst (.int 0)))) (.bin .add (.var 5) (.var 7)) (.bin .sub (.var 5) (.var 7)))] [.iff (.tst (.cmp .eq (.bin .band (.var 6) (.var 3)) (.cst (.int 0)))) [.ass 5 (.bin .add (.var 5) (.mth (.var 0) 5 []))] []],
 .app 4 (.var 5)],
 .ret (.fz 4)]
noncomputable def Nd:Fn:=⟨4,8,[],f_read_deltas_b⟩
noncomputable def M7:List S:=[.assU 2 [],
 .forr (.one 3) (.bi .range [(.var 1)]) [.ass 4 (.mth (.var 0) 6 []),
 .iff (.tst (.cmp .le (.var 4) (.ite (.tst (.pkNe 2)) (.pkSub 2 (.neg (.cst (.int 1)))) (.neg (.cst (.int 1)))))) [.rse] [],
 .app 2 (.var 4)],
 .ret (.fz 2)]
noncomputable def Qd:Fn:=⟨2,5,[],M7⟩
noncomputable def La:List S:=[.iff (.and [(.tst (.cmp .eq (.var 1) (.cst (.int 0)))),(.tst (.cmp .eq (.att (.var 0) 8) (.bi .len [(.att (.var 0) 7)])))]) [.ret (.new 0 [(.lst [])])] [],
 .ass 2 (.call 40 [(.var 0),(.var 1)]),
 .ass 3 (.mth (.var 0) 7 [(.mth (.var 0) 6 [])]),
 .ass 4 (.ite (.tst (.cmp .ne (.var 2) (.lst []))) (.bin .add (.sub (.var 2) (.neg (.cst (.int 1)))) (.cst (.int 1))) (.cst (.int 0))),
 .ass 5 (.call 38 [(.var 0),(.var 4)]),
 .ass 6 (.call 39 [(.var 0),(.var 5),(.glb 7),(.glb 8)]),
 .ass 7 (.call 39 [(.var 0),(.var 5),(.glb 9),(.glb 10)]),
 .assC 8 (.comp (.tup [(.sub (.var 6) (.var 9)),(.sub (.var 7) (.var 9)),(.cmp .ne (.bin .band (.sub (.var 5) (.var 9)) (.glb 11)) (.cst (.int 0)))]) (.one 9) (.bi .range [(.var 4)]) none),
 .ret (.new 0 [(.call 4 [(.var 8),(.var 2)]),(.var 3)])]
noncomputable def Nb:Fn:=⟨2,10,[],La⟩
noncomputable def Nq:List S:=[.sat 0 9 (.var 1),
 .sat 0 10 (.var 2),
 .sat 0 11 (.var 3),
 .sat 0 12 (.var 4),
 .sat 0 13 (.var 5)]
noncomputable def P4:Fn:=⟨6,6,[(.bool true),(.tup [(.int 16384),(.int 0),(.int 0),(.int 16384)])],Nq⟩
noncomputable def Mp:List S:=[.iff (.tst (.cmp .ne (.bin .band (.var 1) (.glb 12)) (.cst (.int 0)))) [.ass 2 (.mth (.var 0) 5 []),
 .ret (.tup [(.var 2),(.cst (.int 0)),(.cst (.int 0)),(.var 2)])] [],
 .iff (.tst (.cmp .ne (.bin .band (.var 1) (.glb 13)) (.cst (.int 0)))) [.ass 2 (.mth (.var 0) 5 []),
 .ret (.tup [(.var 2),(.cst (.int 0)),(.cst (.int 0)),(.mth (.var 0) 5 [])])] [],
 .iff (.tst (.cmp .ne (.bin .band (.var 1) (.glb 14)) (.cst (.int 0)))) [.swp true [2,3,4] [.val (.mth (.var 0) 5 []),.val (.mth (.var 0) 5 []),.val (.mth (.var 0) 5 [])],
 .ret (.tup [(.var 2),(.var 3),(.var 4),(.mth (.var 0) 5 [])])] [],
 .ret (.tup [(.glb 15),(.cst (.int 0)),(.cst (.int 0)),(.glb 15)])]
noncomputable def Oy:Fn:=⟨2,5,[],Mp⟩
noncomputable def KR:List S:=[.ret (.ite (.tst (.cmp .ge (.var 0) (.cst (.int 128)))) (.bin .sub (.var 0) (.cst (.int 256))) (.var 0))]
noncomputable def NB:Fn:=⟨1,1,[],KR⟩
noncomputable def Hq:List S:=[.ass 2 (.cmp .ne (.bin .band (.var 1) (.glb 16)) (.cst (.int 0))),
 .iff (.tst (.cmp .ne (.bin .band (.var 1) (.glb 17)) (.cst (.int 0)))) [.iff (.tst (.var 2)) [.ass 3 (.mth (.var 0) 5 []),
 .ret (.tup [(.var 3),(.mth (.var 0) 5 [])])] [],
 .ass 3 (.mth (.var 0) 6 []),
 .ret (.tup [(.var 3),(.mth (.var 0) 6 [])])] [],
 .swp true [3,4] [.val (.mth (.var 0) 4 []),.val (.mth (.var 0) 4 [])],
 .iff (.tst (.var 2)) [.ret (.tup [(.call 44 [(.var 3)]),(.call 44 [(.var 4)])])] [],
 .ret (.tup [(.var 3),(.var 4)])]
noncomputable def Jb:Fn:=⟨2,5,[],Hq⟩
noncomputable def LM:List S:=[.assU 1 [],
 .ass 2 (.glb 18),
 .whl (.tst (.cmp .ne (.bin .band (.var 2) (.glb 18)) (.cst (.int 0)))) [.ass 2 (.mth (.var 0) 6 []),
 .ass 3 (.mth (.var 0) 6 []),
 .unp [4,5] (.call 45 [(.var 0),(.var 2)]),
 .app 1 (.new 4 [(.var 3),(.var 4),(.var 5),(.cmp .ne (.bin .band (.var 2) (.glb 16)) (.cst (.int 0))),(.call 43 [(.var 0),(.var 2)])])],
 .ass 6 (.cst (.bytes [])),
 .iff (.tst (.cmp .ne (.bin .band (.var 2) (.glb 19)) (.cst (.int 0)))) [.ass 6 (.mth (.var 0) 7 [(.mth (.var 0) 6 [])])] [],
 .ret (.tup [(.fz 1),(.var 6)])]
noncomputable def Pd:Fn:=⟨1,7,[],LM⟩
noncomputable def GQ:List S:=[.sat 0 7 (.var 1),
 .sat 0 14 (.var 2),
 .sat 0 15 (.lst [(.cst (.int 0)),(.cst (.int 0))])]
noncomputable def H_:Fn:=⟨3,3,[],GQ⟩
noncomputable def Gm:List S:=[.ret (.bin .sub (.bi .len [(.att (.var 0) 14)]) (.cst (.int 1)))]
noncomputable def GZ:Fn:=⟨1,1,[],Gm⟩
noncomputable def Ea:List S:=[.iff (.or [(.tst (.cmp .lt (.var 1) (.cst (.int 0)))),(.tst (.cmp .ge (.var 1) (.mth (.var 0) 8 [])))]) [.rse] [],
 .ret (.call 15 [(.att (.var 0) 7),(.sub (.att (.var 0) 14) (.var 1)),(.bin .sub (.sub (.att (.var 0) 14) (.bin .add (.var 1) (.cst (.int 1)))) (.sub (.att (.var 0) 14) (.var 1)))])]
noncomputable def Ed:Fn:=⟨2,2,[],Ea⟩
noncomputable def f_GlyphTable_outline_b:List S:=[.iff (.tst (.cmp .eq (.var 2) (.tup []))) [.hat (.var 0) 15 (.lst [(.cst (.int 0)),(.cst (.int 0))])] [],
 .ass 3 (.new 3 [(.mth (.var 0) 9 [(.var 1)])]),
 .iff (.tst (.cmp .eq (.att (.var 3) 7) (.cst (.bytes [])))) [.ret (.new 0 [(.lst [])])] [],
 .iff (.tst (.cmp .isIn (.var 1) (.var 2))) [.rse] [],
 .iff (.tst (.cmp .ge (.bi .len [(.var 2)]) (.glb 20))) [.rse] [],
 .ass 4 (.mth (.var 3) 5 []),
 .exp (.mth (.var 3) 7 [(.cst (.int 8))]),
 .iff (.tst (.cmp .ge (.var 4) (.cst (.int 0)))) [.ass 5 (.call 41 [(.var 3),(.var 4)]),
 .exp (.mth (.var 0) 10 [(.cst (.int 0)),(.bi .len [(.mth (.var 5) 0 [])])]),
 .ret (.var 5)] [],
 .unp [6,7] (.call 46 [(.var 3)]),
 .ass 8 (.lst []),
 .forr (.one 9) (.var 6) [.exp (.mth (.var 0) 10 [(.cst (.int 1)),(.cst (.int 0))]),
 .ass 10 (.mth (.var 0) 11 [(.att (.var 9) 9),(.bin .add (.var 2) (.tup [(.var 1)]))]),
 .ass 8 (.bin .add (.var 8) (.call 52 [(.var 9),(.att (.var 10) 0),(.var 8)]))],
 .ret (.new 0 [(.var 8),(.var 7)])]
noncomputable def f_GlyphTable_outline:Fn:=⟨3,11,[(.tup [])],f_GlyphTable_outline_b⟩
noncomputable def EK:List S:=[.hat (.var 0) 15 (.lst [(.bin .add (.sub (.att (.var 0) 15) (.cst (.int 0))) (.var 1)),(.bin .add (.sub (.att (.var 0) 15) (.cst (.int 1))) (.var 2))]),
 .iff (.or [(.tst (.cmp .gt (.sub (.att (.var 0) 15) (.cst (.int 0))) (.glb 21))),(.tst (.cmp .gt (.sub (.att (.var 0) 15) (.cst (.int 1))) (.glb 22)))]) [.rse] []]
noncomputable def Fp:Fn:=⟨3,3,[],EK⟩
noncomputable def Sg:List S:=[.ass 3 (.ite (.tst (.cmp .ne (.att (.var 0) 13) (.tup [(.glb 15),(.cst (.int 0)),(.cst (.int 0)),(.glb 15)]))) (.call 7 [(.var 1),(.att (.var 0) 13)]) (.var 1)),
 .iff (.tst (.att (.var 0) 12)) [.ret (.call 5 [(.var 3),(.att (.var 0) 10),(.att (.var 0) 11)])] [],
 .swp true [4,5] [.val (.mth (.new 0 [(.var 2)]) 0 []),.val (.mth (.new 0 [(.var 3)]) 0 [])],
 .iff (.or [(.tst (.cmp .ge (.att (.var 0) 10) (.bi .len [(.var 4)]))),(.tst (.cmp .ge (.att (.var 0) 11) (.bi .len [(.var 5)])))]) [.rse] [],
 .swp true [6,7] [.val (.sub (.var 4) (.att (.var 0) 10)),.val (.sub (.var 5) (.att (.var 0) 11))],
 .ret (.call 5 [(.var 3),(.bin .sub (.sub (.var 6) (.cst (.int 0))) (.sub (.var 7) (.cst (.int 0)))),(.bin .sub (.sub (.var 6) (.cst (.int 1))) (.sub (.var 7) (.cst (.int 1))))])]
noncomputable def VJ:Fn:=⟨3,8,[],Sg⟩
noncomputable def LZ:List S:=[.ass 2 (.cst (.int 0)),
 .ass 3 (.bi .len [(.var 0)]),
 .whl (.tst (.cmp .lt (.var 2) (.var 3))) [.ass 4 (.bin .fdiv (.bin .add (.var 2) (.var 3)) (.cst (.int 2))),
 .iff (.tst (.cmp .lt (.sub (.var 0) (.var 4)) (.var 1))) [.ass 2 (.bin .add (.var 4) (.cst (.int 1)))] [.ass 3 (.var 4)]],
 .ret (.var 2)]
noncomputable def Oh:Fn:=⟨2,5,[],LZ⟩
noncomputable def GL:List S:=[.sat 0 7 (.var 1),
 .ass 2 (.bin .fdiv (.call 8 [(.var 1),(.cst (.int 6))]) (.cst (.int 2))),
 .sat 0 16 (.comp (.call 8 [(.var 1),(.bin .add (.cst (.int 14)) (.bin .mul (.cst (.int 2)) (.var 5)))]) (.one 5) (.bi .range [(.var 2)]) none),
 .ass 3 (.bin .add (.cst (.int 16)) (.bin .mul (.cst (.int 2)) (.var 2))),
 .sat 0 17 (.comp (.call 8 [(.var 1),(.bin .add (.var 3) (.bin .mul (.cst (.int 2)) (.var 6)))]) (.one 6) (.bi .range [(.var 2)]) none),
 .sat 0 18 (.comp (.call 8 [(.var 1),(.bin .add (.var 3) (.bin .mul (.cst (.int 2)) (.bin .add (.var 2) (.var 7))))]) (.one 7) (.bi .range [(.var 2)]) none),
 .sat 0 19 (.bin .add (.var 3) (.bin .mul (.cst (.int 4)) (.var 2))),
 .sat 0 20 (.comp (.call 8 [(.var 1),(.bin .add (.pkAtt 0 19) (.bin .mul (.cst (.int 2)) (.var 8)))]) (.one 8) (.bi .range [(.var 2)]) none),
 .forr (.one 4) (.bi .range [(.cst (.int 1)),(.var 2)]) [.iff (.tst (.cmp .le (.sub (.pkAtt 0 16) (.var 4)) (.sub (.pkAtt 0 16) (.bin .sub (.var 4) (.cst (.int 1)))))) [.rse] []]]
noncomputable def H7:Fn:=⟨2,9,[],GL⟩
noncomputable def GN:List S:=[.ass 2 (.call 53 [(.att (.var 0) 16),(.var 1)]),
 .iff (.or [(.tst (.cmp .eq (.var 2) (.bi .len [(.att (.var 0) 16)]))),(.tst (.cmp .lt (.var 1) (.sub (.att (.var 0) 17) (.var 2))))]) [.ret (.cst (.int 0))] [],
 .iff (.tst (.cmp .eq (.sub (.att (.var 0) 20) (.var 2)) (.cst (.int 0)))) [.ret (.bin .mod (.bin .add (.var 1) (.sub (.att (.var 0) 18) (.var 2))) (.cst (.int 65536)))] [],
 .ass 3 (.call 8 [(.att (.var 0) 7),(.bin .add (.bin .add (.bin .add (.att (.var 0) 19) (.bin .mul (.cst (.int 2)) (.var 2))) (.sub (.att (.var 0) 20) (.var 2))) (.bin .mul (.cst (.int 2)) (.bin .sub (.var 1) (.sub (.att (.var 0) 17) (.var 2)))))]),
 .ret (.ite (.tst (.cmp .ne (.var 3) (.cst (.int 0)))) (.bin .mod (.bin .add (.var 3) (.sub (.att (.var 0) 18) (.var 2))) (.cst (.int 65536))) (.cst (.int 0)))]
noncomputable def Ie:Fn:=⟨2,4,[],GN⟩
noncomputable def N8:List S:=[.ass 1 (.call 8 [(.var 0),(.cst (.int 0))]),
 .iff (.tst (.cmp .eq (.var 1) (.cst (.int 0)))) [.rse] [],
 .iff (.tst (.cmp .eq (.var 1) (.cst (.int 4)))) [.ret (.new 6 [(.var 0)])] [],
 .iff (.tst (.cmp .eq (.var 1) (.cst (.int 6)))) [.rse] [],
 .iff (.tst (.cmp .eq (.var 1) (.cst (.int 12)))) [.rse] [],
 .rse]
noncomputable def S3:Fn:=⟨1,2,[],N8⟩
noncomputable def M8:List S:=[.ret (.comp (.tup [(.call 8 [(.var 0),(.bin .add (.cst (.int 4)) (.bin .mul (.cst (.int 8)) (.var 1)))]),(.call 8 [(.var 0),(.bin .add (.cst (.int 6)) (.bin .mul (.cst (.int 8)) (.var 1)))]),(.call 10 [(.var 0),(.bin .add (.cst (.int 8)) (.bin .mul (.cst (.int 8)) (.var 1)))])]) (.one 1) (.bi .range [(.call 8 [(.var 0),(.cst (.int 2))])]) none)]
noncomputable def Qi:Fn:=⟨1,2,[],M8⟩
noncomputable def M3:List S:=[.ass 1 (.call 57 [(.var 0)]),
 .iff (.tst (.cmp .eq (.var 1) (.lst []))) [.rse] [],
 .forr (.one 2) (.glb 23) [.forr (.many [3,4,5]) (.var 1) [.iff (.tst (.cmp .eq (.tup [(.var 3),(.var 4)]) (.var 2))) [.ret (.call 56 [(.call 15 [(.var 0),(.var 5),(.bin .sub (.bi .len [(.var 0)]) (.var 5))])])] []]],
 .ret (.call 56 [(.call 15 [(.var 0),(.sub (.sub (.var 1) (.cst (.int 0))) (.cst (.int 2))),(.bin .sub (.bi .len [(.var 0)]) (.sub (.sub (.var 1) (.cst (.int 0))) (.cst (.int 2))))])])]
noncomputable def Qa:Fn:=⟨1,6,[],M3⟩
noncomputable def P6:List S:=[.assU 1 [],
 .forr (.one 2) (.bi .sorted [(.var 0)]) [.iff (.and [(.tst (.pkNe 1)),(.tst (.cmp .eq (.sub (.pkSub 1 (.neg (.cst (.int 1)))) (.cst (.int 1))) (.bin .sub (.var 2) (.cst (.int 1)))))]) [.uit 1 (.neg (.cst (.int 1))) (.tup [(.sub (.pkSub 1 (.neg (.cst (.int 1)))) (.cst (.int 0))),(.var 2)])] [.app 1 (.tup [(.var 2),(.var 2)])]],
 .ret (.fz 1)]
noncomputable def Ur:Fn:=⟨1,3,[],P6⟩
noncomputable def Kq:List S:=[.forr (.one 3) (.bi .range [(.var 1),(.bin .add (.var 2) (.cst (.int 1)))]) [.iff (.tst (.cmp .ne (.bin .sub (.sub (.var 0) (.var 3)) (.var 3)) (.bin .sub (.sub (.var 0) (.var 1)) (.var 1)))) [.ret (.cst (.bool false))] []],
 .ret (.cst (.bool true))]
noncomputable def Ni:Fn:=⟨3,4,[],Kq⟩
noncomputable def Hc:List S:=[.ass 1 (.bin .add (.call 59 [(.comp (.var 15) (.one 15) (.var 0) (some (.tst (.cmp .lt (.var 15) (.glb 24)))))]) (.lst [(.tup [(.glb 24),(.glb 24)])])),
 .ass 2 (.bi .len [(.var 1)]),
 .swp false [3,4,5] [.val (.cst (.bytes [])),.val (.cst (.bytes [])),.val (.cst (.bytes []))],
 .forr (.one 6) (.bi .range [(.var 2)]) [.unp [7,8] (.sub (.var 1) (.var 6)),
 .iff (.tst (.cmp .eq (.var 6) (.bin .sub (.var 2) (.cst (.int 1))))) [.swp true [3,4] [.val (.bin .add (.var 3) (.call 11 [(.cst (.int 1))])),.val (.bin .add (.var 4) (.call 11 [(.cst (.int 0))]))]] [.iff (.tst (.call 60 [(.var 0),(.var 7),(.var 8)])) [.swp true [3,4] [.val (.bin .add (.var 3) (.call 11 [(.bin .sub (.sub (.var 0) (.var 7)) (.var 7))])),.val (.bin .add (.var 4) (.call 11 [(.cst (.int 0))]))]] [.swp true [3,4] [.val (.bin .add (.var 3) (.call 11 [(.cst (.int 0))])),.val (.bin .add (.var 4) (.call 11 [(.bin .add (.bin .mul (.cst (.int 2)) (.bin .sub (.var 2) (.var 6))) (.bi .len [(.var 5)]))]))],
 .forr (.one 9) (.bi .range [(.var 7),(.bin .add (.var 8) (.cst (.int 1)))]) [.ass 5 (.bin .add (.var 5) (.call 11 [(.sub (.var 0) (.var 9))]))]]]],
 .ass 10 (.join (.cst (.bytes [])) (.comp (.call 11 [(.var 17)]) (.many [16,17]) (.var 1) none)),
 .ass 11 (.join (.cst (.bytes [])) (.comp (.call 11 [(.var 18)]) (.many [18,19]) (.var 1) none)),
 .ass 12 (.cst (.int 1)),
 .whl (.tst (.cmp .le (.bin .mul (.var 12) (.cst (.int 2))) (.var 2))) [.ass 12 (.bin .mul (.var 12) (.cst (.int 2)))],
 .ass 13 (.bin .add (.bin .add (.bin .add (.call 11 [(.bin .mul (.cst (.int 2)) (.var 2))]) (.call 11 [(.bin .mul (.cst (.int 2)) (.var 12))])) (.call 11 [(.call 62 [(.var 12)])])) (.call 11 [(.bin .mul (.cst (.int 2)) (.bin .sub (.var 2) (.var 12)))])),
 .ass 14 (.bin .add (.bin .add (.bin .add (.bin .add (.bin .add (.bin .add (.var 13) (.var 10)) (.call 11 [(.cst (.int 0))])) (.var 11)) (.var 3)) (.var 4)) (.var 5)),
 .iff (.tst (.cmp .gt (.bin .add (.cst (.int 6)) (.bi .len [(.var 14)])) (.glb 25))) [.rse] [],
 .ret (.bin .add (.bin .add (.bin .add (.call 11 [(.cst (.int 4))]) (.call 11 [(.bin .add (.cst (.int 6)) (.bi .len [(.var 14)]))])) (.call 11 [(.cst (.int 0))])) (.var 14))]
noncomputable def Jg:Fn:=⟨1,20,[],Hc⟩
noncomputable def JG:List S:=[.ass 1 (.cst (.int 0)),
 .whl (.tst (.cmp .gt (.var 0) (.cst (.int 1)))) [.ass 0 (.bin .fdiv (.var 0) (.cst (.int 2))),
 .ass 1 (.bin .add (.var 1) (.cst (.int 1)))],
 .ret (.var 1)]
noncomputable def Nn:Fn:=⟨1,2,[],JG⟩
noncomputable def M6:List S:=[.forr (.one 2) (.var 1) [.iff (.or [(.not (.tst (.cmp2 .le .lt (.cst (.int 0)) (.var 2) (.bin .pow (.cst (.int 2)) (.cst (.int 32)))))),(.not (.tst (.cmp2 .le .lt (.cst (.int 0)) (.sub (.var 1) (.var 2)) (.cst (.int 65536)))))]) [.rse] []],
 .iff (.tst (.cmp .eq (.var 0) (.cst (.int 0)))) [.rse] [],
 .iff (.tst (.cmp .eq (.var 0) (.cst (.int 4)))) [.ret (.call 61 [(.var 1)])] [],
 .iff (.tst (.cmp .eq (.var 0) (.cst (.int 6)))) [.rse] [],
 .iff (.tst (.cmp .eq (.var 0) (.cst (.int 12)))) [.rse] [],
 .rse]
noncomputable def Qg:Fn:=⟨2,3,[],M6⟩
noncomputable def Ln:List S:=[.ass 1 (.bin .add (.call 11 [(.cst (.int 0))]) (.call 11 [(.bi .len [(.var 0)])])),
 .ass 2 (.bin .add (.cst (.int 4)) (.bin .mul (.cst (.int 8)) (.bi .len [(.var 0)]))),
 .ass 3 (.cst (.bytes [])),
 .forr (.many [4,5,6]) (.bi .sorted [(.var 0)]) [.ass 1 (.bin .add (.bin .add (.bin .add (.var 1) (.call 13 [(.var 4)])) (.call 13 [(.var 5)])) (.call 14 [(.bin .add (.var 2) (.bi .len [(.var 3)]))])),
 .ass 3 (.bin .add (.var 3) (.var 6))],
 .ret (.bin .add (.var 1) (.var 3))]
noncomputable def Pn:Fn:=⟨1,7,[],Ln⟩
noncomputable def Nv:List S:=[.sat 0 21 (.var 1),
 .sat 0 22 (.var 2),
 .sat 0 23 (.var 3),
 .sat 0 24 (.var 4),
 .sat 0 25 (.var 5)]
noncomputable def P8:Fn:=⟨6,6,[(.int 0),(.int 0)],Nv⟩
noncomputable def Nf:List S:=[.iff (.or [(.tst (.cmp .lt (.bi .len [(.var 0)]) (.glb 26))),(.tst (.cmp .ne (.call 10 [(.var 0),(.cst (.int 12))]) (.glb 27)))]) [.rse] [],
 .ass 1 (.call 8 [(.var 0),(.cst (.int 18))]),
 .iff (.or [(.tst (.cmp .lt (.var 1) (.glb 28))),(.tst (.cmp .gt (.var 1) (.glb 29)))]) [.rse] [],
 .ass 2 (.tup [(.call 9 [(.var 0),(.cst (.int 36))]),(.call 9 [(.var 0),(.cst (.int 38))]),(.call 9 [(.var 0),(.cst (.int 40))]),(.call 9 [(.var 0),(.cst (.int 42))])]),
 .ass 3 (.call 8 [(.var 0),(.cst (.int 50))]),
 .iff (.tst (.cmp .gt (.var 3) (.cst (.int 1)))) [.rse] [],
 .ret (.new 7 [(.var 1),(.var 2),(.cmp .eq (.var 3) (.cst (.int 1))),(.call 8 [(.var 0),(.cst (.int 16))]),(.call 8 [(.var 0),(.cst (.int 44))])])]
noncomputable def PZ:Fn:=⟨1,4,[],Nf⟩
noncomputable def Lu:List S:=[.iff (.or [(.tst (.cmp .lt (.att (.var 0) 21) (.glb 28))),(.tst (.cmp .gt (.att (.var 0) 21) (.glb 29)))]) [.rse] [],
 .ass 1 (.bin .add (.bin .add (.bin .add (.bin .add (.call 14 [(.cst (.int 65536))]) (.call 14 [(.cst (.int 65536))])) (.call 14 [(.cst (.int 0))])) (.call 14 [(.glb 27)])) (.call 13 [(.att (.var 0) 24)])),
 .ass 1 (.bin .add (.bin .add (.var 1) (.call 13 [(.att (.var 0) 21)])) (.bi .bytes [(.cst (.int 16))])),
 .forr (.one 2) (.att (.var 0) 22) [.ass 1 (.bin .add (.var 1) (.call 12 [(.var 2)]))],
 .ret (.bin .add (.bin .add (.bin .add (.bin .add (.bin .add (.var 1) (.call 13 [(.att (.var 0) 25)])) (.call 11 [(.cst (.int 8))])) (.call 11 [(.cst (.int 2))])) (.call 11 [(.ite (.tst (.att (.var 0) 23)) (.cst (.int 1)) (.cst (.int 0)))])) (.call 11 [(.cst (.int 0))]))]
noncomputable def OF:Fn:=⟨1,3,[],Lu⟩
noncomputable def L7:List S:=[.iff (.tst (.cmp .lt (.bi .len [(.var 0)]) (.cst (.int 6)))) [.rse] [],
 .ret (.call 8 [(.var 0),(.cst (.int 4))])]
noncomputable def PT:Fn:=⟨1,1,[],L7⟩
noncomputable def Mr:List S:=[.ass 4 (.lst [(.var 0),(.var 1),(.var 2),(.var 1),(.var 2),(.cst (.int 2)),(.cst (.int 16)),(.cst (.int 64)),(.cst (.int 64)),(.cst (.int 0)),(.cst (.int 256)),(.cst (.int 0)),(.cst (.int 16)),(.var 3)]),
 .ass 5 (.call 14 [(.cst (.int 65536))]),
 .forr (.one 6) (.var 4) [.ass 5 (.bin .add (.var 5) (.call 13 [(.var 6)]))],
 .ret (.var 5)]
noncomputable def OK:Fn:=⟨4,7,[],Mr⟩
noncomputable def Lh:List S:=[.sat 0 26 (.var 1),
 .sat 0 27 (.var 2),
 .sat 0 28 (.var 3),
 .sat 0 29 (.var 4)]
noncomputable def Of:Fn:=⟨5,5,[],Lh⟩
noncomputable def LP:List S:=[.iff (.tst (.cmp .lt (.bi .len [(.var 0)]) (.cst (.int 36)))) [.rse] [],
 .ret (.new 8 [(.call 9 [(.var 0),(.cst (.int 4))]),(.call 9 [(.var 0),(.cst (.int 6))]),(.call 9 [(.var 0),(.cst (.int 8))]),(.call 8 [(.var 0),(.cst (.int 34))])])]
noncomputable def PJ:Fn:=⟨1,1,[],LP⟩
noncomputable def KV:List S:=[.ass 2 (.bin .add (.bin .add (.bin .add (.call 14 [(.cst (.int 65536))]) (.call 12 [(.att (.var 0) 26)])) (.call 12 [(.att (.var 0) 27)])) (.call 12 [(.att (.var 0) 28)])),
 .ret (.bin .add (.bin .add (.bin .add (.bin .add (.bin .add (.bin .add (.var 2) (.call 13 [(.var 1)])) (.bi .bytes [(.cst (.int 6))])) (.call 11 [(.cst (.int 1))])) (.call 11 [(.cst (.int 0))])) (.bi .bytes [(.cst (.int 12))])) (.call 13 [(.att (.var 0) 29)]))]
noncomputable def Nu:Fn:=⟨2,3,[],KV⟩
noncomputable def Je:List S:=[.sat 0 30 (.var 1),
 .sat 0 31 (.var 2)]
noncomputable def Mf:Fn:=⟨3,3,[],Je⟩
noncomputable def Jh:List S:=[.iff (.or [(.tst (.cmp .lt (.var 1) (.cst (.int 1)))),(.tst (.cmp .gt (.var 1) (.var 2)))]) [.rse] [],
 .assC 3 (.comp (.call 8 [(.var 0),(.bin .mul (.cst (.int 4)) (.var 6))]) (.one 6) (.bi .range [(.var 1)]) none),
 .assUC 4 (.comp (.call 9 [(.var 0),(.bin .add (.bin .mul (.cst (.int 4)) (.var 7)) (.cst (.int 2)))]) (.one 7) (.bi .range [(.var 1)]) none),
 .forr (.one 5) (.bi .range [(.bin .sub (.var 2) (.var 1))]) [.app 4 (.call 9 [(.var 0),(.bin .add (.bin .mul (.cst (.int 4)) (.var 1)) (.bin .mul (.cst (.int 2)) (.var 5)))])],
 .ret (.new 9 [(.var 3),(.fz 4)])]
noncomputable def Lm:Fn:=⟨3,8,[],Jh⟩
noncomputable def H9:List S:=[.ass 1 (.bi .len [(.var 0)]),
 .whl (.and [(.tst (.cmp .gt (.var 1) (.cst (.int 1)))),(.tst (.cmp .eq (.sub (.var 0) (.bin .sub (.var 1) (.cst (.int 1)))) (.sub (.var 0) (.bin .sub (.var 1) (.cst (.int 2))))))]) [.ass 1 (.bin .sub (.var 1) (.cst (.int 1)))],
 .ret (.var 1)]
noncomputable def KQ:Fn:=⟨1,2,[],H9⟩
noncomputable def Ih:List S:=[.ass 1 (.call 75 [(.comp (.var 6) (.many [6,7]) (.var 0) none)]),
 .ass 2 (.cst (.bytes [])),
 .forr (.one 3) (.bi .range [(.bi .len [(.var 0)])]) [.unp [4,5] (.sub (.var 0) (.var 3)),
 .ass 2 (.bin .add (.bin .add (.var 2) (.ite (.tst (.cmp .lt (.var 3) (.var 1))) (.call 13 [(.var 4)]) (.cst (.bytes [])))) (.call 12 [(.var 5)]))],
 .ret (.tup [(.var 2),(.var 1)])]
noncomputable def Jz:Fn:=⟨1,8,[],Ih⟩
noncomputable def M_:List S:=[.sat 0 2 (.var 1)]
noncomputable def P7:Fn:=⟨2,2,[],M_⟩
noncomputable def Na:List S:=[.sat 0 32 (.call 26 [(.var 1)]),
 .sat 0 33 (.call 66 [(.mth (.pkAtt 0 32) 2 [(.cst (.str [104,101,97,100]))])]),
 .sat 0 34 (.call 71 [(.mth (.pkAtt 0 32) 2 [(.cst (.str [104,104,101,97]))])]),
 .ass 2 (.call 68 [(.mth (.pkAtt 0 32) 2 [(.cst (.str [109,97,120,112]))])]),
 .ass 3 (.call 32 [(.mth (.pkAtt 0 32) 2 [(.cst (.str [108,111,99,97]))]),(.att (.pkAtt 0 33) 23),(.var 2)]),
 .sat 0 35 (.new 5 [(.mth (.pkAtt 0 32) 2 [(.cst (.str [103,108,121,102]))]),(.var 3)]),
 .sat 0 36 (.call 58 [(.mth (.pkAtt 0 32) 2 [(.cst (.str [99,109,97,112]))])]),
 .sat 0 37 (.call 74 [(.mth (.pkAtt 0 32) 2 [(.cst (.str [104,109,116,120]))]),(.att (.pkAtt 0 34) 29),(.var 2)]),
 .sat 0 38 (.ite (.tst (.mth (.pkAtt 0 32) 3 [(.cst (.str [107,101,114,110]))])) .bad (.new 10 [(.lst [])]))]
noncomputable def P_:Fn:=⟨2,4,[],Na⟩
noncomputable def Ml:List S:=[.ret (.mth (.att (.var 0) 35) 8 [])]
noncomputable def PG:Fn:=⟨1,1,[],Ml⟩
noncomputable def Mq:List S:=[.ass 2 (.mth (.att (.var 0) 36) 12 [(.var 1)]),
 .ret (.ite (.tst (.cmp .lt (.var 2) (.mth (.var 0) 8 []))) (.var 2) (.cst (.int 0)))]
noncomputable def O2:Fn:=⟨2,3,[],Mq⟩
noncomputable def Ji:List S:=[.ret (.mth (.att (.var 0) 35) 11 [(.var 1)])]
noncomputable def Lk:Fn:=⟨2,2,[],Ji⟩
noncomputable def NA:List S:=[.iff (.tst (.cmp .eq (.var 0) (.cst (.int 0)))) [.ret (.tup [(.var 2),(.cst (.bytes []))])] [],
 .iff (.tst (.cmp2 .lt .lt (.cst (.int 0)) (.var 0) (.cst (.int 256)))) [.ret (.tup [(.bin .bor (.var 1) (.var 2)),(.bi .bytes [(.lst [(.var 0)])])])] [],
 .iff (.tst (.cmp2 .lt .lt (.neg (.cst (.int 256))) (.var 0) (.cst (.int 0)))) [.ret (.tup [(.var 1),(.bi .bytes [(.lst [(.bin .sub (.cst (.int 0)) (.var 0))])])])] [],
 .iff (.or [(.tst (.cmp .lt (.var 0) (.neg (.cst (.int 32768))))),(.tst (.cmp .gt (.var 0) (.cst (.int 32767))))]) [.rse] [],
 .ret (.tup [(.cst (.int 0)),(.call 11 [(.var 0)])])]
noncomputable def Qf:Fn:=⟨3,3,[],NA⟩
noncomputable def JK:List S:=[.ass 1 (.cst (.bytes [])),
 .ass 2 (.cst (.int 0)),
 .whl (.tst (.cmp .lt (.var 2) (.bi .len [(.var 0)]))) [.ass 3 (.cst (.int 1)),
 .whl (.and [(.tst (.cmp .lt (.bin .add (.var 2) (.var 3)) (.bi .len [(.var 0)]))),(.tst (.cmp .eq (.sub (.var 0) (.bin .add (.var 2) (.var 3))) (.sub (.var 0) (.var 2)))),(.tst (.cmp .le (.var 3) (.glb 30)))]) [.ass 3 (.bin .add (.var 3) (.cst (.int 1)))],
 .iff (.tst (.cmp .gt (.var 3) (.cst (.int 2)))) [.ass 1 (.bin .add (.var 1) (.bi .bytes [(.lst [(.bin .bor (.sub (.var 0) (.var 2)) (.glb 6)),(.bin .sub (.var 3) (.cst (.int 1)))])]))] [.ass 1 (.bin .add (.var 1) (.bin .mul (.bi .bytes [(.lst [(.sub (.var 0) (.var 2))])]) (.var 3)))],
 .ass 2 (.bin .add (.var 2) (.var 3))],
 .ret (.var 1)]
noncomputable def Nh:Fn:=⟨1,4,[],JK⟩
noncomputable def LB:List S:=[.ret (.join (.cst (.bytes [])) (.comp (.call 12 [(.var 1)]) (.one 1) (.var 0) none))]
noncomputable def Oz:Fn:=⟨1,2,[],LB⟩
noncomputable def Ic:List S:=[.iff (.tst (.cmp .eq (.att (.var 0) 0) (.lst []))) [.ret (.cst (.bytes []))] [],
 .iff (.tst (.cmp .isIn (.lst []) (.comp (.bi .list [(.var 16)]) (.one 16) (.att (.var 0) 0) none))) [.rse] [],
 .swp true [1,2,3] [.ul,.val (.cst (.bytes [])),.val (.cst (.bytes []))],
 .swp false [4,5] [.val (.cst (.int 0)),.val (.cst (.int 0))],
 .forr (.many [6,7,8]) (.mth (.var 0) 0 []) [.unp [9,10] (.call 82 [(.bin .sub (.var 6) (.var 4)),(.glb 7),(.glb 8)]),
 .unp [11,12] (.call 82 [(.bin .sub (.var 7) (.var 5)),(.glb 9),(.glb 10)]),
 .app 1 (.bin .bor (.bin .bor (.var 9) (.var 11)) (.ite (.tst (.var 8)) (.glb 11) (.cst (.int 0)))),
 .swp true [2,3] [.val (.bin .add (.var 2) (.var 10)),.val (.bin .add (.var 3) (.var 12))],
 .swp true [4,5] [.val (.var 6),.val (.var 7)]],
 .ass 13 (.join (.cst (.bytes [])) (.comp (.call 13 [(.var 17)]) (.one 17) (.mth (.var 0) 13 []) none)),
 .ass 14 (.bin .add (.call 13 [(.bi .len [(.att (.var 0) 1)])]) (.att (.var 0) 1)),
 .ass 15 (.bin .add (.call 12 [(.bi .len [(.att (.var 0) 0)])]) (.call 84 [(.mth (.var 0) 14 [])])),
 .ret (.bin .add (.bin .add (.bin .add (.bin .add (.bin .add (.var 15) (.var 13)) (.var 14)) (.call 83 [(.fz 1)])) (.var 2)) (.var 3))]
noncomputable def J6:Fn:=⟨1,18,[],Ic⟩
noncomputable def Jo:List S:=[.unp [1,2,3,4] (.var 0),
 .iff (.tst (.cmp .eq (.var 0) (.tup [(.glb 15),(.cst (.int 0)),(.cst (.int 0)),(.glb 15)]))) [.ret (.tup [(.cst (.int 0)),(.cst (.bytes []))])] [],
 .iff (.and [(.tst (.cmp .eq (.tup [(.var 2),(.var 3)]) (.tup [(.cst (.int 0)),(.cst (.int 0))]))),(.tst (.cmp .eq (.var 1) (.var 4)))]) [.ret (.tup [(.glb 12),(.call 12 [(.var 1)])])] [],
 .iff (.tst (.cmp .eq (.tup [(.var 2),(.var 3)]) (.tup [(.cst (.int 0)),(.cst (.int 0))]))) [.ret (.tup [(.glb 13),(.bin .add (.call 12 [(.var 1)]) (.call 12 [(.var 4)]))])] [],
 .ret (.tup [(.glb 14),(.join (.cst (.bytes [])) (.comp (.call 12 [(.var 5)]) (.one 5) (.var 0) none))])]
noncomputable def LQ:Fn:=⟨1,6,[],Jo⟩
noncomputable def GP:List S:=[.swp true [1,2] [.val (.att (.var 0) 10),.val (.att (.var 0) 11)],
 .iff (.tst (.att (.var 0) 12)) [.iff (.and [(.tst (.cmp2 .le .lt (.neg (.cst (.int 128))) (.var 1) (.cst (.int 128)))),(.tst (.cmp2 .le .lt (.neg (.cst (.int 128))) (.var 2) (.cst (.int 128))))]) [.ret (.tup [(.glb 16),(.bi .bytes [(.lst [(.bin .mod (.var 1) (.cst (.int 256))),(.bin .mod (.var 2) (.cst (.int 256)))])])])] [],
 .ret (.tup [(.bin .bor (.glb 16) (.glb 17)),(.bin .add (.call 12 [(.var 1)]) (.call 12 [(.var 2)]))])] [],
 .iff (.and [(.tst (.cmp2 .le .lt (.cst (.int 0)) (.var 1) (.cst (.int 256)))),(.tst (.cmp2 .le .lt (.cst (.int 0)) (.var 2) (.cst (.int 256))))]) [.ret (.tup [(.cst (.int 0)),(.bi .bytes [(.lst [(.var 1),(.var 2)])])])] [],
 .ret (.tup [(.glb 17),(.bin .add (.call 13 [(.var 1)]) (.call 13 [(.var 2)]))])]
noncomputable def Ig:Fn:=⟨1,3,[],GP⟩
noncomputable def Gi:List S:=[.iff (.tst (.cmp .eq (.bi .len [(.var 0)]) (.cst (.int 0)))) [.rse] [],
 .ass 3 (.bin .add (.call 11 [(.neg (.cst (.int 1)))]) (.call 84 [(.var 1)])),
 .forr (.one 4) (.bi .range [(.bi .len [(.var 0)])]) [.unp [5,6] (.call 87 [(.sub (.var 0) (.var 4))]),
 .unp [7,8] (.call 86 [(.att (.sub (.var 0) (.var 4)) 13)]),
 .ass 9 (.bin .bor (.var 5) (.var 7)),
 .iff (.tst (.cmp .lt (.bin .add (.var 4) (.cst (.int 1))) (.bi .len [(.var 0)]))) [.ass 9 (.bin .bor (.var 9) (.glb 18))] [.iff (.tst (.cmp .ne (.var 2) (.cst (.bytes [])))) [.ass 9 (.bin .bor (.var 9) (.glb 19))] []],
 .ass 3 (.bin .add (.bin .add (.bin .add (.bin .add (.var 3) (.call 11 [(.var 9)])) (.call 13 [(.att (.sub (.var 0) (.var 4)) 9)])) (.var 6)) (.var 8))],
 .iff (.tst (.cmp .ne (.var 2) (.cst (.bytes [])))) [.ass 3 (.bin .add (.bin .add (.var 3) (.call 13 [(.bi .len [(.var 2)])])) (.var 2))] [],
 .ret (.var 3)]
noncomputable def Hi:Fn:=⟨3,10,[(.bytes [])],Gi⟩
noncomputable def I8:List S:=[.ass 2 (.cst (.bytes [])),
 .assU 3 [(.cst (.int 0))],
 .forr (.one 4) (.var 0) [.ass 2 (.bin .add (.var 2) (.call 16 [(.var 4)])),
 .app 3 (.bi .len [(.var 2)])],
 .iff (.and [(.not (.tst (.var 1))),(.tst (.cmp .ge (.pkSub 3 (.neg (.cst (.int 1)))) (.cst (.int 131072))))]) [.rse] [],
 .ass 5 (.cst (.bytes [])),
 .forr (.one 6) (.fz 3) [.ass 5 (.bin .add (.var 5) (.ite (.tst (.var 1)) (.call 14 [(.var 6)]) (.call 11 [(.bin .fdiv (.var 6) (.cst (.int 2)))])))],
 .ret (.tup [(.var 2),(.var 5)])]
noncomputable def Lc:Fn:=⟨2,7,[],I8⟩
noncomputable def J4:List S:=[.sat 0 39 (.var 1),
 .sat 0 40 (.var 2),
 .sat 0 41 (.var 3),
 .sat 0 42 (.var 4),
 .sat 0 22 (.var 5)]
noncomputable def M9:Fn:=⟨6,6,[.none,.none,(.tup [(.int 0),(.int 0),(.int 0),(.int 0)])],J4⟩
noncomputable def Il:List S:=[.iff (.tst (.cmp .isNotNone (.att (.var 0) 42) (.cst .none))) [.ret (.call 88 [(.att (.var 0) 42),(.att (.var 0) 22)])] [],
 .ret (.ite (.tst (.cmp .isNone (.att (.var 0) 41) (.cst .none))) (.cst (.bytes [])) (.call 85 [(.att (.var 0) 41)]))]
noncomputable def JB:Fn:=⟨1,1,[],Il⟩
noncomputable def Ij:List S:=[.iff (.tst (.cmp .isNone (.att (.var 0) 41) (.cst .none))) [.ret (.tup [(.cst (.int 0)),(.cst (.int 0))])] [],
 .ret (.tup [(.bi .len [(.mth (.att (.var 0) 41) 0 [])]),(.bi .len [(.att (.att (.var 0) 41) 0)])])]
noncomputable def KC:Fn:=⟨1,1,[],Ij⟩
noncomputable def Ng:List S:=[.sat 0 43 (.var 1),
 .sat 0 44 (.var 2),
 .sat 0 45 (.var 3),
 .sat 0 38 (.var 4),
 .sat 0 21 (.var 5),
 .sat 0 23 (.var 6),
 .sat 0 34 (.var 7)]
noncomputable def Qm:Fn:=⟨8,8,[(.tup []),(.int 1000),(.bool false),(.tup [(.int 800),(.int (-200)),(.int 90)])],Ng⟩
noncomputable def Nc:List S:=[.ass 1 (.cst .none),
 .forr (.one 2) (.var 0) [.ass 3 (.ite (.tst (.cmp .isNone (.att (.var 2) 41) (.cst .none))) (.att (.var 2) 22) (.mth (.att (.var 2) 41) 14 [])),
 .iff (.or [(.tst (.cmp .gt (.sub (.mth (.var 2) 0 []) (.cst (.int 0))) (.cst (.int 0)))),(.tst (.cmp .isNotNone (.att (.var 2) 42) (.cst .none)))]) [.ass 1 (.ite (.tst (.cmp .isNone (.var 1) (.cst .none))) (.var 3) (.tup [(.bi .min [(.sub (.var 1) (.cst (.int 0))),(.sub (.var 3) (.cst (.int 0)))]),(.bi .min [(.sub (.var 1) (.cst (.int 1))),(.sub (.var 3) (.cst (.int 1)))]),(.bi .max [(.sub (.var 1) (.cst (.int 2))),(.sub (.var 3) (.cst (.int 2)))]),(.bi .max [(.sub (.var 1) (.cst (.int 3))),(.sub (.var 3) (.cst (.int 3)))])]))] []],
 .ret (.ite (.tst (.cmp .isNone (.var 1) (.cst .none))) (.glb 31) (.var 1))]
noncomputable def Qe:Fn:=⟨1,4,[],Nc⟩
noncomputable def U0:List S:=[.iff (.or [(.tst (.cmp .eq (.bi .len [(.att (.var 0) 43)]) (.cst (.int 0)))),(.tst (.cmp .eq (.bi .len [(.att (.var 0) 45)]) (.cst (.int 0))))]) [.rse] [],
 .assUI 2 (.tst (.cmp .isNone (.var 1) (.cst .none))),
 .unp [3,4] (.call 89 [(.comp (.mth (.var 12) 15 []) (.one 12) (.att (.var 0) 43) none),(.att (.var 0) 23)]),
 .unp [5,6] (.call 76 [(.comp (.tup [(.att (.var 13) 39),(.att (.var 13) 40)]) (.one 13) (.att (.var 0) 43) none)]),
 .assC 7 (.comp (.mth (.var 14) 0 []) (.one 14) (.att (.var 0) 43) none),
 .udt 2 (.cst (.str [103,108,121,102])) (.var 3),
 .udt 2 (.cst (.str [108,111,99,97])) (.var 4),
 .udt 2 (.cst (.str [104,109,116,120])) (.var 5),
 .udt 2 (.cst (.str [104,101,97,100])) (.call 67 [(.new 7 [(.att (.var 0) 21),(.call 94 [(.att (.var 0) 43)]),(.att (.var 0) 23)])]),
 .udt 2 (.cst (.str [109,97,120,112])) (.call 69 [(.bi .len [(.att (.var 0) 43)]),(.call 96 [(.comp (.var 15) (.many [15,16]) (.var 7) none)]),(.call 96 [(.comp (.var 18) (.many [17,18]) (.var 7) none)]),(.cst (.int 8))]),
 .unp [8,9,10] (.att (.var 0) 34),
 .ass 11 (.call 96 [(.comp (.att (.var 19) 39) (.one 19) (.att (.var 0) 43) none)]),
 .udt 2 (.cst (.str [104,104,101,97])) (.call 72 [(.new 8 [(.var 8),(.var 9),(.var 10),(.var 6)]),(.var 11)]),
 .udt 2 (.cst (.str [99,109,97,112])) (.call 64 [(.comp (.tup [(.var 20),(.var 21),(.call 63 [(.var 22),(.att (.var 0) 44)])]) (.many [20,21,22]) (.att (.var 0) 45) none)]),
 .iff (.tst (.cmp .gt (.bi .len [(.att (.var 0) 38)]) (.cst (.int 0)))) [.rse] [],
 .ret (.call 31 [(.new 1 [(.fz 2)])])]
noncomputable def Yt:Fn:=⟨2,23,[.none],U0⟩
noncomputable def PH:List S:=[.ass 1 (.cst (.int 0)),
 .forr (.one 2) (.var 0) [.ass 1 (.bi .max [(.var 1),(.var 2)])],
 .ret (.var 1)]
noncomputable def Su:Fn:=⟨1,3,[],PH⟩
noncomputable def Pc:List S:=[.assUD 0 [((.cst (.str [97,115,32,105,116,32,105,115])),(.tup [(.cst (.int 1)),(.cst (.int 0)),(.cst (.int 0)),(.cst (.int 1))])),((.cst (.str [108,101,102,116])),(.tup [(.neg (.cst (.int 1))),(.cst (.int 0)),(.cst (.int 0)),(.cst (.int 1))])),((.cst (.str [108,111,119])),(.tup [(.cst (.int 1)),(.cst (.int 0)),(.cst (.int 0)),(.neg (.cst (.int 1)))])),((.cst (.str [97,98,111,117,116])),(.tup [(.neg (.cst (.int 1))),(.cst (.int 0)),(.cst (.int 0)),(.neg (.cst (.int 1)))]))],
 .upd 0 (.dsp [((.cst (.str [113,117,97,114,116,101,114])),(.tup [(.cst (.int 0)),(.cst (.int 1)),(.neg (.cst (.int 1))),(.cst (.int 0))])),((.cst (.str [98,97,99,107])),(.tup [(.cst (.int 0)),(.neg (.cst (.int 1))),(.cst (.int 1)),(.cst (.int 0))]))]),
 .ret (.fz 0)]
noncomputable def S9:Fn:=⟨0,1,[],Pc⟩
noncomputable def GO:List S:=[.ass 1 (.ite (.tst (.cmp .ne (.var 0) (.lst []))) (.sub (.var 0) (.cst (.int 0))) (.cst (.int 0))),
 .ass 2 (.ite (.tst (.cmp .ge (.var 1) (.cst (.int 0)))) (.var 1) (.bin .sub (.cst (.int 7)) (.bin .mul (.cst (.int 4)) (.var 1)))),
 .ret (.lstH [(.ite (.tst (.cmp .ge (.var 2) (.bin .pow (.cst (.int 10)) (.cst (.int 15))))) (.var 2) (.cst (.int 0))),(.bin .add (.bin .mod (.bin .mul (.bin .mod (.var 2) (.cst (.int 999961))) (.cst (.int 523))) (.cst (.int 1000003))) (.cst (.int 11)))])]
noncomputable def Ik:Fn:=⟨1,3,[],GO⟩
noncomputable def Qn:List S:=[.iff (.tst (.cmp .gt (.sub (.var 0) (.cst (.int 0))) (.cst (.int 0)))) [.ass 2 (.bin .mod (.sub (.var 0) (.cst (.int 0))) (.var 1)),
 .hit (.var 0) (.cst (.int 0)) (.bin .fdiv (.sub (.var 0) (.cst (.int 0))) (.var 1)),
 .ret (.var 2)] [],
 .hit (.var 0) (.cst (.int 1)) (.bin .mod (.bin .add (.bin .mul (.sub (.var 0) (.cst (.int 1))) (.cst (.int 1009))) (.cst (.int 611953))) (.cst (.int 1000003))),
 .ret (.bin .mod (.bin .fdiv (.sub (.var 0) (.cst (.int 1))) (.cst (.int 13))) (.var 1))]
noncomputable def TM:Fn:=⟨2,3,[],Qn⟩
noncomputable def Qk:List S:=[.ret (.sub (.var 1) (.call 99 [(.var 0),(.bi .len [(.var 1)])]))]
noncomputable def TC:Fn:=⟨2,2,[],Qk⟩
noncomputable def NC:List S:=[.swp true [1,2] [.val (.bin .mul (.cst (.int 8)) (.call 99 [(.var 0),(.cst (.int 2))])),.val (.bin .sub (.bin .mul (.cst (.int 8)) (.call 99 [(.var 0),(.cst (.int 3))])) (.cst (.int 8)))],
 .swp true [3,4] [.val (.bin .add (.var 1) (.bin .mul (.cst (.int 8)) (.bin .add (.cst (.int 1)) (.call 99 [(.var 0),(.cst (.int 2))])))),.val (.bin .add (.var 2) (.bin .mul (.cst (.int 8)) (.bin .add (.cst (.int 1)) (.call 99 [(.var 0),(.cst (.int 2))]))))],
 .ret (.slc (.lst [(.tup [(.var 1),(.var 2)]),(.tup [(.var 3),(.var 2)]),(.tup [(.var 3),(.var 4)]),(.tup [(.var 1),(.var 4)])]) none none (some (.call 100 [(.var 0),(.lst [(.cst (.int 1)),(.cst (.int 1)),(.neg (.cst (.int 1)))])])))]
noncomputable def P5:Fn:=⟨1,5,[],NC⟩
noncomputable def O9:List S:=[.swp true [4,5] [.val (.call 100 [(.var 0),(.bin .add (.bin .mul (.lst [(.cst (.str [97,115,32,105,116,32,105,115]))]) (.cst (.int 3))) (.bi .sorted [(.call 97 [])]))]),.val (.and [(.cmp .lt (.var 1) (.cst (.int 3))),(.cmp .eq (.call 99 [(.var 0),(.cst (.int 4))]) (.cst (.int 0)))])],
 .iff (.and [(.tst (.cmp .gt (.var 2) (.cst (.int 0)))),(.tst (.cmp .eq (.call 99 [(.var 0),(.cst (.int 2))]) (.cst (.int 0))))]) [.ret (.tup [(.var 1),(.var 4),(.var 5),(.tup [(.cst (.str [97,116])),(.call 99 [(.var 0),(.var 2)]),(.call 99 [(.var 0),(.var 3)])])])] [],
 .unp [6,7] (.comp (.bin .mul (.cst (.int 4)) (.bin .sub (.call 99 [(.var 0),(.cst (.int 7))]) (.cst (.int 2)))) (.one 9) (.bi .range [(.cst (.int 2))]) none),
 .ass 8 (.call 100 [(.var 0),(.lst [(.cst (.int 0)),(.cst (.int 0)),(.cst (.int 0)),(.cst (.int 0)),(.cst (.int 0)),(.cst (.int 160))])]),
 .ret (.tup [(.var 1),(.var 4),(.var 5),(.tup [(.cst (.str [98,121])),(.bin .add (.var 6) (.var 8)),(.var 7)])])]
noncomputable def RR:Fn:=⟨4,10,[],O9⟩
noncomputable def Np:List S:=[.swp true [3,4] [.ul,.val (.cst (.int 0))],
 .forr (.one 5) (.var 1) [.app 3 (.call 102 [(.var 0),(.var 5),(.var 4),(.sub (.var 2) (.var 5))]),
 .ass 4 (.bin .add (.var 4) (.sub (.var 2) (.var 5)))],
 .ret (.fz 3)]
noncomputable def P0:Fn:=⟨3,6,[],Np⟩
noncomputable def IU:List S:=[.ass 2 (.lst []),
 .iff (.tst (.cmp .isIn (.var 1) (.lst [(.cst (.int 1)),(.cst (.int 2))]))) [.ret (.lst [(.sub (.var 0) (.var 1))])] [],
 .forr (.many [3,4,5,6]) (.sub (.var 0) (.var 1)) [.unp [7,8,9,10] (.sub (.call 97 []) (.var 4)),
 .ass 11 (.ite (.tst (.var 5)) (.cst (.int 2)) (.cst (.int 1))),
 .assU 12 [],
 .forr (.one 13) (.call 104 [(.var 0),(.var 3)]) [.app 12 (.comp (.tup [(.bin .fdiv (.bin .add (.bin .mul (.var 7) (.var 18)) (.bin .mul (.var 9) (.var 19))) (.var 11)),(.bin .fdiv (.bin .add (.bin .mul (.var 8) (.var 18)) (.bin .mul (.var 10) (.var 19))) (.var 11))]) (.many [18,19]) (.var 13) none)],
 .swp false [14,15] [.val (.sub (.var 6) (.cst (.int 1))),.val (.sub (.var 6) (.cst (.int 2)))],
 .iff (.tst (.cmp .eq (.sub (.var 6) (.cst (.int 0))) (.cst (.str [97,116])))) [.ass 16 (.sub (.flat (.var 2)) (.sub (.var 6) (.cst (.int 1)))),
 .ass 17 (.sub (.flat (.fz 12)) (.sub (.var 6) (.cst (.int 2)))),
 .swp false [14,15] [.val (.bin .sub (.sub (.var 16) (.cst (.int 0))) (.sub (.var 17) (.cst (.int 0)))),.val (.bin .sub (.sub (.var 16) (.cst (.int 1))) (.sub (.var 17) (.cst (.int 1))))]] [],
 .ass 2 (.bin .add (.var 2) (.comp (.comp (.tup [(.bin .add (.var 25) (.var 14)),(.bin .add (.var 26) (.var 15))]) (.many [25,26]) (.var 24) none) (.one 24) (.fz 12) none))],
 .ret (.var 2)]
noncomputable def L5:Fn:=⟨2,27,[],IU⟩
noncomputable def PM:List S:=[.assU 2 [(.new 12 [(.cst (.int 8)),(.cst (.int 0))])],
 .forr (.one 3) (.lst [(.cst (.int 1)),(.cst (.int 2))]) [.app 2 (.new 12 [(.cst (.int 16)),(.cst (.int 0)),(.new 0 [(.lst [(.comp (.tup [(.var 11),(.var 12),(.cst (.bool true))]) (.many [11,12]) (.sub (.var 0) (.var 3)) none)])])])],
 .forr (.one 3) (.lst [(.cst (.int 3)),(.cst (.int 4))]) [.assU 4 [],
 .forr (.many [5,6,7,8]) (.sub (.var 0) (.var 3)) [.ass 9 (.bin .fdiv (.glb 32) (.ite (.tst (.var 7)) (.cst (.int 2)) (.cst (.int 1)))),
 .ass 10 (.bi .tuple [(.comp (.bin .mul (.var 9) (.var 13)) (.one 13) (.sub (.call 97 []) (.var 6)) none)]),
 .app 4 (.new 4 [(.var 5),(.sub (.var 8) (.cst (.int 1))),(.sub (.var 8) (.cst (.int 2))),(.cmp .eq (.sub (.var 8) (.cst (.int 0))) (.cst (.str [98,121]))),(.var 10)])],
 .app 2 (.new 12 [(.cst (.int 24)),(.cst (.int 0)),(.cst .none),(.fz 4)])],
 .ret (.new 11 [(.call 95 [(.new 13 [(.fz 2),(.dsp [((.cst (.int 97)),(.cst (.int 1))),((.cst (.int 98)),(.cst (.int 2))),((.cst (.int 99)),(.cst (.int 3))),((.cst (.int 100)),(.cst (.int 4)))]),(.lst [(.tup [(.cst (.int 3)),(.cst (.int 1)),(.cst (.int 4))])]),(.tup []),(.cst (.int 16)),(.var 1)])])])]
noncomputable def RP:Fn:=⟨2,14,[],PM⟩
noncomputable def Fs:List S:=[.forr (.one 2) (.lst [(.cst (.int 1)),(.cst (.int 2)),(.cst (.int 3)),(.cst (.int 4))]) [.assC 3 (.comp (.comp (.tup [(.var 5),(.var 6),(.cst (.bool true))]) (.many [5,6]) (.var 4) none) (.one 4) (.call 104 [(.var 0),(.var 2)]) none),
 .iff (.tst (.cmp .ne (.comp (.bi .list [(.var 7)]) (.one 7) (.att (.mth (.var 1) 11 [(.var 2)]) 0) none) (.var 3))) [.ret (.cst (.bool false))] []],
 .ret (.cst (.bool true))]
noncomputable def F5:Fn:=⟨2,8,[],Fs⟩
noncomputable def Yy:List S:=[.ass 1 (.call 98 [(.var 0)]),
 .assU 2 [(.cst .none),(.call 101 [(.var 1)]),(.call 101 [(.var 1)])],
 .unp [3,4] (.call 100 [(.var 1),(.lst [(.lst [(.cst (.int 1)),(.cst (.int 2))]),(.lst [(.cst (.int 2)),(.cst (.int 1))]),(.lst [(.cst (.int 1)),(.cst (.int 1))])])]),
 .ass 5 (.tup [(.var 3),(.cst (.str [97,115,32,105,116,32,105,115])),(.cmp .eq (.call 99 [(.var 1),(.cst (.int 4))]) (.cst (.int 0))),(.tup [(.cst (.str [98,121])),(.bin .add (.cst (.int 28)) (.bin .mul (.cst (.int 4)) (.call 99 [(.var 1),(.cst (.int 3))]))),(.bin .mul (.cst (.int 4)) (.bin .sub (.call 99 [(.var 1),(.cst (.int 7))]) (.cst (.int 2))))])]),
 .swp true [6,7] [.val (.call 100 [(.var 1),(.bi .sorted [(.call 97 [])])]),.val (.cmp .eq (.call 99 [(.var 1),(.cst (.int 4))]) (.cst (.int 0)))],
 .app 2 (.lst [(.var 5),(.tup [(.var 4),(.var 6),(.var 7),(.tup [(.cst (.str [97,116])),(.call 99 [(.var 1),(.cst (.int 4))]),(.call 99 [(.var 1),(.cst (.int 4))])])])]),
 .ass 8 (.call 100 [(.var 1),(.lst [(.lst [(.cst (.int 3)),(.cst (.int 1))]),(.lst [(.cst (.int 2)),(.cst (.int 3))]),(.lst [(.cst (.int 3)),(.cst (.int 2))]),(.lst [(.cst (.int 1)),(.cst (.int 3))])])]),
 .app 2 (.call 103 [(.var 1),(.var 8),(.lst [(.cst (.int 0)),(.cst (.int 4)),(.cst (.int 4)),(.cst (.int 8))])]),
 .ass 9 (.call 105 [(.fz 2),(.cmp .eq (.call 99 [(.var 1),(.cst (.int 2))]) (.cst (.int 0)))]),
 .iff (.or [(.tst (.cmp .ne (.tup [(.mth (.var 9) 8 []),(.mth (.var 9) 16 [(.cst (.int 100))])]) (.tup [(.cst (.int 5)),(.cst (.int 4))]))),(.tst (.cmp .ne (.bi .list [(.att (.mth (.var 9) 11 [(.cst (.int 0))]) 0)]) (.lst [])))]) [.ret (.cst (.bool false))] [],
 .ret (.call 106 [(.fz 2),(.var 9)])]
noncomputable def fK:Fn:=⟨1,10,[],Yy⟩
noncomputable def jt:List Fn:=[LG,Jk,Lw,Nx,Ny,Y2,JS,VO,eQ,fy,d0,Ye,Ju,IP,Yz,Ux,Vd,Wh,We,N6,Nw,NF,O3,Md,GR,Jl,Nk,OU,Lv,RC,HE,Lf,P9,Nl,Nt,Nj,JV,Nz,PD,Nd,Qd,Nb,P4,Oy,NB,Jb,Pd,H_,GZ,Ed,f_GlyphTable_outline,Fp,VJ,Oh,H7,Ie,S3,Qi,Qa,Ur,Ni,Jg,Nn,Qg,Pn,P8,PZ,OF,PT,OK,Of,PJ,Nu,Mf,Lm,KQ,Jz,P7,P_,PG,O2,Lk,Qf,Nh,Oz,J6,LQ,Ig,Hi,Lc,M9,JB,KC,Qm,Qe,Yt,Su,S9,Ik,TM,TC,P5,RR,P0,L5,RP,F5,fK]
noncomputable def fnAt (i:Nat):Option Fn:=nth jt i
noncomputable def iX:List V:=[(.int 4294967296),(.int 65536),(.int 12),(.int 16),(.int 8),(.int 2981146554),(.int 8),(.int 2),(.int 16),(.int 4),(.int 32),(.int 1),(.int 8),(.int 64),(.int 128),(.int 16384),(.int 2),(.int 1),(.int 32),(.int 256),(.int 8),(.int 4096),(.int 1048576),(.tup [(.tup [(.int 3),(.int 10)]),(.tup [(.int 0),(.int 4)]),(.tup [(.int 0),(.int 3)]),(.tup [(.int 3),(.int 1)]),(.tup [(.int 0),(.int 1)]),(.tup [(.int 0),(.int 0)]),(.tup [(.int 3),(.int 0)]),(.tup [(.int 1),(.int 0)])]),(.int 65535),(.int 65535),(.int 54),(.int 1594834165),(.int 16),(.int 16384),(.int 255),(.tup [(.int 0),(.int 0),(.int 0),(.int 0)]),(.int 16384)]
noncomputable def gtb (i:Nat):Option V:=nth iX i
noncomputable def iO:List Bool:=[true,true,true,false,true,false,true,true,true,true,true,true,true,true]
noncomputable def frz (i:Nat):Option Bool:=nth iO i
noncomputable def look2:List (Nat×Nat)->Nat->Option Nat
 |[],_=>none
 |p::r,m=>match Nat.beq p.1 m with|true=>some p.2|false=>look2 r m
noncomputable def mtL:List (List (Nat×Nat)):=[[(0,1),(13,2),(14,3)],[(1,21),(2,23),(3,22)],[],[(4,34),(5,36),(6,35),(7,37)],[],[(8,48),(9,49),(10,51),(11,50)],[(12,55)],[],[],[],[],[(8,79),(11,81),(16,80)],[(0,92),(15,91)],[]]
noncomputable def mtb (c m:Nat):Option Nat:=match nth mtL c with|some l=>look2 l m|none=>none
noncomputable def iI:List (Option Nat):=[some 0,some 20,some 24,some 33,some 42,some 47,some 54,some 65,some 70,some 73,some 77,some 78,some 90,some 93]
noncomputable def initOf (c:Nat):Option Nat:=match nth iI c with|some (some i)=>some i|_=>none
noncomputable def fokT:List (List Nat):=[[0,1],[2],[3,4,5,6],[7,8],[9,10,11,12,13],[7,14,15],[7,16,17,18,19,20],[21,22,23,24,25],[26,27,28,29],[30,31],[2],[32,33,34,35,36,37,38],[39,40,41,42,22],[43,44,45,38,21,23,34]]
noncomputable def fokb (c f:Nat):Bool:=match nth fokT c with|some l=>l.any (Nat.beq f)|none=>false
noncomputable def tb:Tab:=⟨gtb,fokb,frz,mtb⟩
noncomputable def den:Nat->Den
 |0=>⟨λ_ _ _=>none,λ_ _ _=>none⟩
 |n+1=>⟨λf as h=>(fnAt f).bind λx=>SE tb (den n) x as h,λc as h=>(initOf c).bind λi=>(fnAt i).bind λx=>O7 tb (den n) c x as h⟩
end A
end Mine.Internal
end
section
set_option maxRecDepth 10000
namespace Mine.Internal
open PySem PySem.Calls PyProof.Rows PySem.W
noncomputable abbrev Fz:=Addr->Option Obj
structure Cx where
 prog:Program
 w:World
 fld:Nat->Str
 fld_inj:∀i j,fld i=fld j->i=j
 cad:Nat->Addr
 fok:Nat->Nat->Bool
 base:Fz
 os:OsState
noncomputable def A6 (T:String)(f:Fz)(a:Addr)(xs:List Value):Prop:=∃o,f a=some o/\o.cls=.type T/\o.dict=none/\∃n,o.data=.seq xs.toArray n
noncomputable def DG (C:Cx)(c:Nat)(f:Fz)(a:Addr)(k:Nat)(m:Str->Option Value):Prop:=(∃o es ep,f a=some o/\o.data=.dict es ep/\StrKeys es/\(∀name,nsFind es name=m name)/\es.size<=k)/\
 ∀name x,m name=some x->∃j,C.fok c j=true/\name=C.fld j
noncomputable def Tj (f:Fz)(r:Addr)(a b c:Int):Prop:=∃t u v,f r=some {cls:=.type "range",dict:=none,data:=.fields #[.int a t,.int b u,.int c v],slots:=#[]}
mutual
noncomputable def Rp (C:Cx)(F:Fz)(φ:List Addr):V->Value->Prop
 |.none,x=>x=.none
 |.bool b,x=>x=.bool b
 |.int i,x=>∃t,x=.int i t
 |.str l,x=>l.length<=line/\∃t,x=.str ⟨l.toArray⟩ t
 |.bytes l,x=>l.length<=line/\(∀b∈l,b<256)/\∃t,x=.bytes (l.map Nat.toUInt8).toArray t
 |.tup l,x=>l.length<=line/\∃a xs,x=.ref a/\A6 "tuple" F a xs/\Ak C F φ l xs
 |.lst l,x=>l.length<=line/\∃a xs,x=.ref a/\A6 "list" F a xs/\Ak C F φ l xs
 |.dct l,x=>∃a o,x=.ref a/\(a==sysModules)=false/\F a=some o/\
   ((∃kvs:List (Str×Value),o.IsDictOf (strKind C.prog C.w) kvs/\BK C F φ l kvs)\/(∃kvs:List (Int×Value),o.IsDictOf (intKind C.prog C.w) kvs/\B6 C F φ l kvs))
 |.obj c fs,x=>∃a d m,x=.ref a/\F a=some (instObj (C.cad c) d)/\DG C c F d fs.length m/\Cw C F φ fs m
 |.ref n,x=>∃a,nth φ n=some a/\x=.ref a
 |.rng lo hi st,x=>Eg lo hi st=true/\∃a,x=.ref a/\Tj F a lo hi st
noncomputable def Ak (C:Cx)(F:Fz)(φ:List Addr):List V->List Value->Prop
 |[],xs=>xs=[]
 |v::l,xs=>∃x r,xs=x::r/\Rp C F φ v x/\Ak C F φ l r
noncomputable def Cw (C:Cx)(F:Fz)(φ:List Addr):List (Nat×V)->(Str->Option Value)->Prop
 |[],_=>True
 |p::l,m=>(∃x,m (C.fld p.1)=some x/\Rp C F φ p.2 x)/\BG p.1 l=none/\Cw C F φ l m
noncomputable def BK (C:Cx)(F:Fz)(φ:List Addr):List (V×V)->List (Str×Value)->Prop
 |[],ks=>ks=[]
 |p::l,ks=>∃k x r,ks=(k,x)::r/\(∃c,p.1=.str c/\c.length<=line/\k=⟨c.toArray⟩)/\Rp C F φ p.2 x/\BK C F φ l r
noncomputable def B6 (C:Cx)(F:Fz)(φ:List Addr):List (V×V)->List (Int×Value)->Prop
 |[],ks=>ks=[]
 |p::l,ks=>∃k x r,ks=(k,x)::r/\p.1=.int k/\Rp C F φ p.2 x/\B6 C F φ l r
end
theorem Ta {α:Type}{l r:List α}{n:Nat}{a:α}:nth l n=some a->nth (l++r) n=some a:=by
 induction l generalizing n with
 |nil=>intro h;exact(ns h).elim
 |cons x l ih=>cases n with
  |zero=>exact λh=>h
  |succ n=>exact λh=>ih h
noncomputable def Bk (F F':Fz):Prop:=∀a o,F a=some o->F' a=some o
noncomputable def Dz (φ jX:List Addr):Prop:=∃e,jX=φ++e
theorem Dz.refl (φ:List Addr):Dz φ φ:=⟨[],by simp⟩
theorem Dz.trans {a b c:List Addr}(x:Dz a b)(y:Dz b c):Dz a c:=by
 obtain⟨e,rfl⟩:=x;obtain⟨e',rfl⟩:=y;exact⟨e++e',by simp⟩
theorem Dz.nth {a b:List Addr}(x:Dz a b){n:Nat}{c:Addr}(h:nth a n=some c):nth b n=some c:=by
 obtain⟨e,rfl⟩:=x;exact Ta h
theorem Bk.refl (F:Fz):Bk F F:=λ_ _ h=>h
theorem Bk.trans {a b c:Fz}(x:Bk a b)(y:Bk b c):Bk a c:=λ_ _ h=>y _ _ (x _ _ h)
theorem A6.mono {T:String}{F F':Fz}(h:Bk F F'){a:Addr}{xs:List Value}(x:A6 T F a xs):A6 T F' a xs:=
 let ⟨o,e,r⟩:=x;⟨o,h _ _ e,r⟩
theorem DG.at {C:Cx}{c:Nat}{F F':Fz}{a:Addr}{k:Nat}{m:Str->Option Value}(h:∀o,F a=some o->F' a=some o)(x:DG C c F a k m):DG C c F' a k m:=
 let ⟨⟨o,es,n,e,r⟩,q⟩:=x;⟨⟨o,es,n,h _ e,r⟩,q⟩
theorem DG.mono {C:Cx}{c:Nat}{F F':Fz}(h:Bk F F'){a:Addr}{k:Nat}{m:Str->Option Value}(x:DG C c F a k m):DG C c F' a k m:=x.at (h a)
theorem Tj.mono {F F':Fz}(h:Bk F F'){r:Addr}{a b c:Int}(x:Tj F r a b c):Tj F' r a b c:=
 let ⟨t,u,v,e⟩:=x;⟨t,u,v,h _ _ e⟩
mutual
theorem Rp.mono {C:Cx}{F F':Fz}{φ jX:List Addr}(hF:Bk F F')(hp:Dz φ jX):∀{v:V}{x:Value},Rp C F φ v x->Rp C F' jX v x
 |.none,_,h=>h
 |.bool _,_,h=>h
 |.int _,_,h=>h
 |.str _,_,h=>h
 |.bytes _,_,h=>h
 |.tup l,x,h=>AU h λh0 h=>Co h λa xs e h1 h2=>⟨h0,a,xs,e,h1.mono hF,Ak.mono hF hp h2⟩
 |.lst l,x,h=>AU h λh0 h=>Co h λa xs e h1 h2=>⟨h0,a,xs,e,h1.mono hF,Ak.mono hF hp h2⟩
 |.dct l,x,h=>D8 h λa o e h0 h1 h2=>⟨a,o,e,h0,hF _ _ h1,h2.imp (λh=>Ac h λk p q=>⟨k,p,BK.mono hF hp q⟩) λh=>Ac h λk p q=>⟨k,p,B6.mono hF hp q⟩⟩
 |.obj c fs,x,h=>MC h λa d m e h1 h2 h3=>⟨a,d,m,e,hF _ _ h1,h2.mono hF,Cw.mono hF hp h3⟩
 |.ref n,x,h=>Ac h λa h1 h2=>⟨a,hp.nth h1,h2⟩
 |.rng _ _ _,x,h=>AU h λh0 h=>Ac h λa h1 h2=>⟨h0,a,h1,h2.mono hF⟩
theorem Ak.mono {C:Cx}{F F':Fz}{φ jX:List Addr}(hF:Bk F F')(hp:Dz φ jX):∀{l:List V}{xs:List Value},Ak C F φ l xs->Ak C F' jX l xs
 |[],_,h=>h
 |v::l,_,h=>Co h λx r e h1 h2=>⟨x,r,e,Rp.mono hF hp h1,Ak.mono hF hp h2⟩
theorem Cw.mono {C:Cx}{F F':Fz}{φ jX:List Addr}(hF:Bk F F')(hp:Dz φ jX):∀{l:List (Nat×V)}{m:Str->Option Value},Cw C F φ l m->Cw C F' jX l m
 |[],_,h=>h
 |(f,v)::l,_,h=>BH h λh h0 h2=>Ac h λx e h1=>⟨⟨x,e,Rp.mono hF hp h1⟩,h0,Cw.mono hF hp h2⟩
theorem BK.mono {C:Cx}{F F':Fz}{φ jX:List Addr}(hF:Bk F F')(hp:Dz φ jX):∀{l:List (V×V)}{m:List (Str×Value)},BK C F φ l m->BK C F' jX l m
 |[],_,h=>h
 |(k,v)::l,_,h=>MC h λk' x r e h0 h1 h2=>⟨k',x,r,e,h0,Rp.mono hF hp h1,BK.mono hF hp h2⟩
theorem B6.mono {C:Cx}{F F':Fz}{φ jX:List Addr}(hF:Bk F F')(hp:Dz φ jX):∀{l:List (V×V)}{m:List (Int×Value)},B6 C F φ l m->B6 C F' jX l m
 |[],_,h=>h
 |(k,v)::l,_,h=>MC h λk' x r e h0 h1 h2=>⟨k',x,r,e,h0,Rp.mono hF hp h1,B6.mono hF hp h2⟩
end
theorem Ak.length {C:Cx}{F:Fz}{φ:List Addr}:∀{l:List V}{xs:List Value},Ak C F φ l xs->xs.length=l.length
 |[],_,h=>congrArg List.length (show _=[] from h)
 |v::l,_,h=>Co h λx r e h1 h2=>e▸congrArg (·+1) (Ak.length h2)
theorem Ak.append {C:Cx}{F:Fz}{φ:List Addr}:∀{l:List V}{xs:List Value}{l':List V}{xs':List Value},Ak C F φ l xs->Ak C F φ l' xs'->Ak C F φ (l++l') (xs++xs')
 |[],_,_,_,h,h'=>(show _=[] from h)▸h'
 |v::l,_,_,xs',h,h'=>Co h λx r e h1 h2=>⟨x,r++xs',congrArg (·++xs') e,h1,h2.append h'⟩
theorem Ak.nth {C:Cx}{F:Fz}{φ:List Addr}:∀{l:List V}{xs:List Value}{n:Nat}{v:V},Ak C F φ l xs->Mine.Internal.nth l n=some v->∃x,xs[n]?=some x/\Rp C F φ v x
 |[],_,_,_,_,e=>(ns e).elim
 |u::l,_,0,v,h,e=>Co h λx r q h1 h2=>q▸⟨x,rfl,s1 (show some u=some v from e)▸h1⟩
 |u::l,_,n+1,v,h,e=>Co h λx r q h1 h2=>q▸(Ak.nth (l:=l) (n:=n) h2 e:∃y,r[n]?=some y/\Rp C F φ v y)
theorem nb {k f:Nat}(h:k≠f):Nat.beq k f=false:=by
 cases hb:Nat.beq k f with
 |true=>exact absurd (Nat.eq_of_beq_eq_true hb) h
 |false=>rfl
theorem FE {f:Nat}{u:V}{l:List (Nat×V)}:BG f ((f,u)::l)=some u:=by
 show(match Nat.beq f f with|true=>some u|false=>BG f l)=_;rw[Nat.beq_refl]
theorem Dm {f k:Nat}{u:V}{l:List (Nat×V)}(h:k≠f):BG f ((k,u)::l)=BG f l:=by
 show(match Nat.beq k f with|true=>some u|false=>BG f l)=_;rw[nb h]
theorem LJ {f:Nat}{u v:V}{l:List (Nat×V)}:Cm f v ((f,u)::l)=(f,v)::l:=by
 show(match Nat.beq f f with|true=>(f,v)::l|false=>(f,u)::Cm f v l)=_;rw[Nat.beq_refl]
theorem L_ {f k:Nat}{u v:V}{l:List (Nat×V)}(h:k≠f):Cm f v ((k,u)::l)=(k,u)::Cm f v l:=by
 show(match Nat.beq k f with|true=>(f,v)::l|false=>(k,u)::Cm f v l)=_;rw[nb h]
theorem Cw.get {C:Cx}{F:Fz}{φ:List Addr}{f:Nat}{v:V}{m:Str->Option Value}:∀{l:List (Nat×V)},Cw C F φ l m->BG f l=some v->∃x,m (C.fld f)=some x/\Rp C F φ v x
 |[],_,e=>(ns e).elim
 |(k,u)::l,h,e=>by
  by_cases hk:k=f
  ·subst hk
   rw[FE] at e
   exact s1 e▸h.1
  ·rw[Dm hk] at e
   exact Cw.get h.2.2 e
theorem MV {f g:Nat}{v:V}(hg:f≠g):∀{l:List (Nat×V)},BG g (Cm f v l)=BG g l
 |[]=>Dm hg
 |(k,u)::l=>by
  by_cases h:k=f
  ·subst h
   rw[LJ,Dm hg,Dm hg]
  ·rw[L_ h]
   by_cases h':k=g
   ·subst h';rw[FE,FE]
   ·rw[Dm h',Dm h',MV hg]
theorem U8 {C:Cx}{f k:Nat}{x:Value}{m:Str->Option Value}(hk:k≠f):(if C.fld k=C.fld f then some x else m (C.fld k))=m (C.fld k):=if_neg λe=>hk (C.fld_inj _ _ e)
theorem Cw.over {C:Cx}{F:Fz}{φ:List Addr}{f:Nat}{x:Value}{m:Str->Option Value}:∀{l:List (Nat×V)},Cw C F φ l m->BG f l=none->
  Cw C F φ l (λy=>if y=C.fld f then some x else m y)
 |[],_,_=>trivial
 |(k,u)::l,h,e=>by
  by_cases hk:k=f
  ·subst hk;rw[FE] at e;exact(sn e).elim
  ·rw[Dm hk] at e
   exact BH h λh h0 h3=>Ac h λy h1 h2=>⟨⟨y,(U8 hk).trans h1,h2⟩,h0,Cw.over h3 e⟩
theorem Cw.set {C:Cx}{F:Fz}{φ:List Addr}{f:Nat}{v:V}{x:Value}{m:Str->Option Value}(hv:Rp C F φ v x):∀{l:List (Nat×V)},Cw C F φ l m->
  Cw C F φ (Cm f v l) (λy=>if y=C.fld f then some x else m y)
 |[],_=>⟨⟨x,if_pos rfl,hv⟩,rfl,trivial⟩
 |(k,u)::l,h=>by
  by_cases hk:k=f
  ·subst hk
   rw[LJ]
   exact⟨⟨x,if_pos rfl,hv⟩,h.2.1,Cw.over h.2.2 h.2.1⟩
  ·rw[L_ hk]
   exact BH h λh h0 h3=>Ac h λy h1 h2=>⟨⟨y,(U8 hk).trans h1,h2⟩,(MV λe=>hk e.symm).trans h0,Cw.set hv h3⟩
end Mine.Internal
end
section
set_option maxRecDepth 10000
namespace Mine.Internal
open PySem PySem.Calls PyProof.Rows PySem.W
inductive Tag where
 |ho (n:Nat)
 |hd (n:Nat)
 |dic
 |cel
 |uq (i:Nat)
 |uqd (i:Nat)
inductive AN where
 |d (L:Addr)(x:Str)
 |c (a:Addr)
noncomputable def AN.at:AN->Addr
 |.d L _=>L
 |.c a=>a
noncomputable def AN.got (h h':Heap)(v:Value):AN->Prop
 |.d L x=>∃m,h.Ns L m/\h'.Ns L (λy=>if y=x then some v else m y)
 |.c L=>h'.IsCell L (some v)
noncomputable def AN.has (h:Heap):AN->Value->Prop
 |.d L x,v=>∃m,h.Ns L m/\m x=some v
 |.c a,v=>h.IsCell a (some v)
structure Gh where
 F:Fz
 φ:List Addr
 Ω:Addr->Option Tag
 loc:Nat->Option AN
 me:Option (Addr×Addr)
noncomputable def BX (C:Cx)(g:Gh)(h:Heap)(n:Nat):Cell->Prop
 |.lst l=>l.length<=line/\∃a xs,nth g.φ n=some a/\g.Ω a=some (.ho n)/\A6 "list" h.get? a xs/\Ak C g.F g.φ l xs
 |.ins c fs=>∃a d m,nth g.φ n=some a/\g.Ω a=some (.ho n)/\g.Ω d=some (.hd n)/\h.get? a=some (instObj (C.cad c) d)/\DG C c h.get? d fs.length m/\Cw C g.F g.φ fs m
noncomputable def Cu (C:Cx)(g:Gh)(o:Obj)(l:List (V×V)):Prop:=
 (∃kvs:List (Str×Value),o.IsDictOf (strKind C.prog C.w) kvs/\BK C g.F g.φ l kvs)\/(∃kvs:List (Int×Value),o.IsDictOf (intKind C.prog C.w) kvs/\B6 C g.F g.φ l kvs)
noncomputable def Bs (C:Cx)(g:Gh)(h:Heap)(i:Nat)(l:AN):Slot->Prop
 |.un=>True
 |.val v=>∃x,l.has h x/\Rp C g.F g.φ v x
 |.ul vs=>vs.length<=line/\∃a xs,l.has h (.ref a)/\g.Ω a=some (.uq i)/\A6 "list" h.get? a xs/\Ak C g.F g.φ vs xs
 |.ud es=>∃a o,l.has h (.ref a)/\g.Ω a=some (.uq i)/\(a==sysModules)=false/\h.get? a=some o/\Cu C g o es
 |.uo c fs=>∃a d m,l.has h (.ref a)/\g.Ω a=some (.uq i)/\g.Ω d=some (.uqd i)/\h.get? a=some (instObj (C.cad c) d)/\DG C c h.get? d fs.length m/\Cw C g.F g.φ fs m/\g.me=some (a,d)
noncomputable def C_ (g:Gh)(h:Heap):AN->Prop
 |.d L x=>g.Ω L=some .dic/\∃m,h.Ns L m
 |.c a=>g.Ω a=some .cel/\∃v,h.IsCell a v
noncomputable def As (s:Shared)(a:Addr):Prop:=∃o,s.heap.get? a=some o
theorem Bg {s:Shared}{a:Addr}(h:s.heap.objs.size<=a):¬As s a:=λ⟨_,e⟩=>absurd (Heap.lt_size e) (Nat.not_lt.mpr h)
structure Ok (C:Cx)(g:Gh)(σ:St)(s:Shared):Prop where
 fz:Bk g.F s.heap.get?
 base:Bk C.base g.F
 own:∀a t,g.Ω a=some t->g.F a=none/\As s a
 len:g.φ.length=σ.h.length
 cells:∀n c,nth σ.h n=some c->BX C g s.heap n c
 slots:∀i sl l,nth σ.r i=some sl->g.loc i=some l->Bs C g s.heap i l sl
 locs:∀i l,g.loc i=some l->C_ g s.heap l
 inj:∀i j l,g.loc i=some l->g.loc j=some l->i=j
 gens:s.gens=#[]
 os:s.os=C.os
structure GoS (g:Gh)(s:Shared)(g':Gh)(s':Shared):Prop where
 F:Bk g.F g'.F
 φ:Dz g.φ g'.φ
 loc:g'.loc=g.loc
 me:g'.me=g.me
 live:∀a,As s a->As s' a
 keep:∀a o,s.heap.get? a=some o->g.Ω a=none->s'.heap.get? a=some o/\g'.F a=g.F a/\g'.Ω a=none
structure Go (g:Gh)(s:Shared)(g':Gh)(s':Shared):Prop extends GoS g s g' s' where
 kl:∀i l v,g.loc i=some l->l.has s.heap v->l.has s'.heap v
theorem GoS.refl (g:Gh)(s:Shared):GoS g s g s:=⟨.refl _,.refl _,rfl,rfl,λ_ h=>h,λ_ _ h e=>⟨h,rfl,e⟩⟩
theorem GoS.trans {g jE jH:Gh}{s jC jG:Shared}(x:GoS g s jE jC)(y:GoS jE jC jH jG):GoS g s jH jG:=
 ⟨x.F.trans y.F,x.φ.trans y.φ,y.loc.trans x.loc,y.me.trans x.me,λa h=>y.live a (x.live a h),λa o h e=>
  let ⟨h1,f1,e1⟩:=x.keep a o h e
  let ⟨h2,f2,e2⟩:=y.keep a o h1 e1
  ⟨h2,f2.trans f1,e2⟩⟩
theorem Go.refl (g:Gh)(s:Shared):Go g s g s:=⟨.refl _ _,λ_ _ _ _ h=>h⟩
theorem Go.trans {g jE jH:Gh}{s jC jG:Shared}(x:Go g s jE jC)(y:Go jE jC jH jG):Go g s jH jG:=
 ⟨x.toGoS.trans y.toGoS,λi l v e h=>y.kl i l v (by rw[x.loc];exact e) (x.kl i l v e h)⟩
noncomputable def BA (h h':Heap):Prop:=∀a o,h.get? a=some o->h'.get? a=some o
theorem BA.refl (h:Heap):BA h h:=λ_ _ e=>e
theorem BA.trans {a b c:Heap}(x:BA a b)(y:BA b c):BA a c:=λ_ _ e=>y _ _ (x _ _ e)
theorem BA.push (h:Heap)(o:Obj):BA h (h.push o):=λ_ _ e=>Heap.get?_push_of_some _ e
theorem Kt {h h':Heap}{L:Addr}{m:Str->Option Value}(n:h.Ns L m)(k:∀o,h.get? L=some o->h'.get? L=some o):h'.Ns L m:=let ⟨o,es,ep,e,t⟩:=n;⟨o,es,ep,k o e,t⟩
theorem N9 {h h':Heap}{L:Addr}{v:Option Value}(n:h.IsCell L v)(k:∀o,h.get? L=some o->h'.get? L=some o):h'.IsCell L v:=let ⟨o,e,t⟩:=n;⟨o,k o e,t⟩
theorem FK {h h':Heap}{l:AN}{v:Value}(n:l.has h v)(k:∀o,h.get? l.at=some o->h'.get? l.at=some o):l.has h' v:=by
 cases l with
 |d L x=>exact Ac n λm a b=>⟨m,Kt a k,b⟩
 |c L=>exact N9 n k
theorem Mm {g:Gh}{h:Heap}{l:AN}(q:C_ g h l):g.Ω l.at=some .dic\/g.Ω l.at=some .cel:=by
 cases l with
 |d L x=>exact .inl q.1
 |c L=>exact .inr q.1
theorem QH {g:Gh}{h:Heap}{l:AN}(q:C_ g h l):∃t,g.Ω l.at=some t:=(Mm q).elim (λh=>⟨_,h⟩) λh=>⟨_,h⟩
theorem E6 {g:Gh}{h h':Heap}{l:AN}(q:C_ g h l)(k:∀o,h.get? l.at=some o->h'.get? l.at=some o):C_ g h' l:=by
 cases l with
 |d L x=>exact⟨q.1,AA q.2 λm a=>⟨m,Kt a k⟩⟩
 |c L=>exact⟨q.1,AA q.2 λm a=>⟨m,N9 a k⟩⟩
theorem AN.has.hle {h h':Heap}(k:BA h h'){l:AN}{v:Value}(x:l.has h v):l.has h' v:=FK x (k _)
theorem BX.mono {C:Cx}{g g':Gh}{h h':Heap}{n:Nat}{c:Cell}(hF:Bk g.F g'.F)(hp:Dz g.φ g'.φ)
  (k:∀a,(g.Ω a=some (.ho n)\/g.Ω a=some (.hd n))->g'.Ω a=g.Ω a/\∀o,h.get? a=some o->h'.get? a=some o)(x:BX C g h n c):BX C g' h' n c:=by
 cases c with
 |lst l=>exact AU x λh0 x=>D8 x λa xs h1 h2 h3 h4=>⟨h0,a,xs,hp.nth h1,(k a (.inl h2)).1.trans h2,Ac h3 λo e r=>⟨o,(k a (.inl h2)).2 o e,r⟩,h4.mono hF hp⟩
 |ins c fs=>exact Q9 x λa d m h1 h2 h3 h4 h5 h6=>⟨a,d,m,hp.nth h1,(k a (.inl h2)).1.trans h2,(k d (.inr h3)).1.trans h3,(k a (.inl h2)).2 _ h4,h5.at (k d (.inr h3)).2,h6.mono hF hp⟩
theorem Cu.mono {C:Cx}{g g':Gh}{o:Obj}{l:List (V×V)}(hF:Bk g.F g'.F)(hp:Dz g.φ g'.φ)(x:Cu C g o l):Cu C g' o l:=
 x.imp (λx=>Ac x λk a b=>⟨k,a,b.mono hF hp⟩) λx=>Ac x λk a b=>⟨k,a,b.mono hF hp⟩
theorem Bs.mono {C:Cx}{g g':Gh}{h h':Heap}{i:Nat}{l:AN}{sl:Slot}(hF:Bk g.F g'.F)(hp:Dz g.φ g'.φ)(hme:g'.me=g.me)
  (kl:∀v,l.has h v->l.has h' v)
  (k:∀a,(g.Ω a=some (.uq i)\/g.Ω a=some (.uqd i))->g'.Ω a=g.Ω a/\∀o,h.get? a=some o->h'.get? a=some o)(x:Bs C g h i l sl):Bs C g' h' i l sl:=by
 cases sl with
 |un=>trivial
 |val v=>exact Ac x λy h2 h3=>⟨y,kl _ h2,h3.mono hF hp⟩
 |ul vs=>exact AU x λh0 x=>D8 x λa xs h2 h3 h4 h5=>⟨h0,a,xs,kl _ h2,(k a (.inl h3)).1.trans h3,Ac h4 λo e r=>⟨o,(k a (.inl h3)).2 o e,r⟩,h5.mono hF hp⟩
 |ud es=>exact IC x λa o h2 h3 h4 h5 h6=>⟨a,o,kl _ h2,(k a (.inl h3)).1.trans h3,h4,(k a (.inl h3)).2 o h5,h6.mono hF hp⟩
 |uo c fs=>
  obtain⟨a,d,m,h2,h3,h4,h5,h6,h7,h8⟩:=x
  exact⟨a,d,m,kl _ h2,(k a (.inl h3)).1.trans h3,(k d (.inr h4)).1.trans h4,(k a (.inl h3)).2 _ h5,h6.at (k d (.inr h4)).2,h7.mono hF hp,hme.trans h8⟩
theorem C_.hle {g:Gh}{h h':Heap}(k:BA h h'){l:AN}(x:C_ g h l):C_ g h' l:=E6 x (k _)
theorem BA.live {s s':Shared}(k:BA s.heap s'.heap){a:Addr}(h:As s a):As s' a:=let ⟨o,e⟩:=h;⟨o,k _ _ e⟩
section
variable {C:Cx}{g:Gh}{σ:St}{s:Shared}
theorem Ok.grow (K:Ok C g σ s){s':Shared}(k:BA s.heap s'.heap)(hg:s'.gens=s.gens)(ho:s'.os=s.os):Ok C g σ s' where
 fz:=λa o e=>k _ _ (K.fz _ _ e)
 base:=K.base
 own:=λa t e=>⟨(K.own a t e).1,k.live (K.own a t e).2⟩
 len:=K.len
 cells:=λn c e=>(K.cells n c e).mono (.refl _) (.refl _) λa _=>⟨rfl,λo h=>k _ _ h⟩
 slots:=λi sl l e el=>(K.slots i sl l e el).mono (.refl _) (.refl _) rfl (λ_ h=>h.hle k) λa _=>⟨rfl,λo h=>k _ _ h⟩
 locs:=λi l e=>(K.locs i l e).hle k
 inj:=K.inj
 gens:=hg.trans K.gens
 os:=ho.trans K.os
theorem Go.grow (g:Gh){s s':Shared}(k:BA s.heap s'.heap):Go g s g s':=
 ⟨⟨.refl _,.refl _,rfl,rfl,λa h=>k.live h,λa o h e=>⟨k _ _ h,rfl,e⟩⟩,λ_ _ _ _ h=>h.hle k⟩
theorem Ok.tok (K:Ok C g σ s)(n:Nat):Ok C g σ {s with toks:=n}:=K.grow (BA.refl _) rfl rfl
theorem Go.tok (g:Gh)(s:Shared)(n:Nat):Go g s g {s with toks:=n}:=.grow g (BA.refl _)
noncomputable def Gh.frz (g:Gh)(a:Addr)(o:Obj):Gh:={g with F:=λb=>if b=a then some o else g.F b}
theorem Bk.frz {g:Gh}{a:Addr}{o:Obj}(h:g.F a=none\/g.F a=some o):Bk g.F (g.frz a o).F:=λb x e=>by
 show(if b=a then some o else g.F b)=some x
 by_cases q:b=a
 ·subst q
  rcases h with h|h
  ·rw[h] at e;exact(ns e).elim
  ·rw[if_pos rfl,<-h,e]
 ·rw[if_neg q];exact e
theorem Ok.none_of_fresh (K:Ok C g σ s){a:Addr}(h:¬As s a):g.F a=none/\g.Ω a=none:=by
 constructor
 ·cases e:g.F a with
  |none=>rfl
  |some o=>exact absurd ⟨o,K.fz _ _ e⟩ h
 ·cases e:g.Ω a with
  |none=>rfl
  |some t=>exact absurd (K.own _ _ e).2 h
theorem Ok.frz (K:Ok C g σ s){a:Addr}{o:Obj}(ha:s.heap.get? a=some o)(hO:g.Ω a=none)(hF:g.F a=none\/g.F a=some o):Ok C (g.frz a o) σ s where
 fz:=λb x e=>by
  have e:(if b=a then some o else g.F b)=some x:=e
  by_cases q:b=a
  ·subst q;rw[if_pos rfl] at e;refine AZ e ?_;exact ha
  ·rw[if_neg q] at e;exact K.fz _ _ e
 base:=K.base.trans (.frz hF)
 own:=λb t e=>⟨by
  show(if b=a then some o else g.F b)=none
  have e':g.Ω b=some t:=e
  rw[if_neg (λq=>by subst q;exact absurd (hO.symm.trans e') (λh=>by exact(ns h).elim))]
  exact(K.own b t e).1,(K.own b t e).2⟩
 len:=K.len
 cells:=λn c e=>(K.cells n c e).mono (.frz hF) (.refl _) λa _=>⟨rfl,λo h=>h⟩
 slots:=λi sl l e el=>(K.slots i sl l e el).mono (.frz hF) (.refl _) rfl (λ_ h=>h) λa _=>⟨rfl,λo h=>h⟩
 locs:=K.locs
 inj:=K.inj
 gens:=K.gens
 os:=K.os
structure AX (g:Gh)(s:Shared)(a:Addr):Prop where
 f:g.F a=none
 o:g.Ω a=none
 lt:As s a
theorem Go.raw {g g':Gh}{s s':Shared}(G:Go g s g' s'){a:Addr}(r:AX g s a){o:Obj}(h:s.heap.get? a=some o):AX g' s' a/\s'.heap.get? a=some o:=
 let ⟨x,y,z⟩:=G.keep a o h r.o
 ⟨⟨y.trans r.f,z,G.live a r.lt⟩,x⟩
theorem AX.ext {g:Gh}{s s':Shared}{a:Addr}(r:AX g s a)(h:∀o,s.heap.get? a=some o->s'.heap.get? a=some o):AX g s' a:=⟨r.f,r.o,r.lt.imp h⟩
theorem Cf {a:Addr}{h h':Heap}(hb:Heap.SameBut a h h'):∀b o,b≠a->h.get? b=some o->h'.get? b=some o:=λb o q e=>(hb.2 b q).trans e
theorem AX.ne {g:Gh}{s:Shared}{a b:Addr}{t:Tag}(r:AX g s a)(e:g.Ω b=some t):b≠a:=λq=>sn (e.symm.trans (q▸r.o))
theorem Ok.raw_ext {s':Shared}{a:Addr}(K:Ok C g σ s)(r:AX g s a)(hb:∀b o,b≠a->s.heap.get? b=some o->s'.heap.get? b=some o)(hg:s'.gens=s.gens)(ho:s'.os=s.os):Ok C g σ s':=
 have kO:∀b t,g.Ω b=some t->∀o,s.heap.get? b=some o->s'.heap.get? b=some o:=λb t e o=>hb b o (r.ne e)
 have kl:∀i l,g.loc i=some l->∀o,s.heap.get? l.at=some o->s'.heap.get? l.at=some o:=λi l e=>AA (QH (K.locs i l e)) λt q=>kO _ t q
 {fz:=λb o e=>hb b o (λq=>sn (e.symm.trans (q▸r.f))) (K.fz _ _ e)
  base:=K.base
  own:=λb t e=>⟨(K.own b t e).1,(K.own b t e).2.imp (kO b t e)⟩
  len:=K.len
  cells:=λn c e=>(K.cells n c e).mono (.refl _) (.refl _) λb q=>⟨rfl,q.elim (kO b _) (kO b _)⟩
  slots:=λi sl l e el=>(K.slots i sl l e el).mono (.refl _) (.refl _) rfl (λv h=>FK h (kl i l el)) λb q=>⟨rfl,q.elim (kO b _) (kO b _)⟩
  locs:=λi l e=>E6 (K.locs i l e) (kl i l e)
  inj:=K.inj
  gens:=hg.trans K.gens
  os:=ho.trans K.os}
theorem Go.raw_ext {g g':Gh}{s s' s'':Shared}(G:Go g s g' s')(K:Ok C g' σ s'){a:Addr}(r:AX g' s' a)(h:¬As s a)(hb:∀b o,b≠a->s'.heap.get? b=some o->s''.heap.get? b=some o):Go g s g' s'':=
 ⟨⟨G.F,G.φ,G.loc,G.me,λb q=>(G.live b q).imp λo e=>hb b o (λz=>h (z▸q)) e,λb o e q=>BH (G.keep b o e q) λx y z=>⟨hb b o (λq=>h (q▸⟨o,e⟩)) x,y,z⟩⟩,λi l v e q=>
  AA (QH (K.locs i l (G.loc▸e))) λt z=>FK (G.kl i l v e q) λo=>hb _ o (r.ne z)⟩
theorem Ok.raw_upd (K:Ok C g σ s){s':Shared}{a:Addr}(r:AX g s a)(hb:Heap.SameBut a s.heap s'.heap)(hg:s'.gens=s.gens)(ho:s'.os=s.os):Ok C g σ s':=K.raw_ext r (Cf hb) hg ho
theorem Go.raw_upd {g g':Gh}{s s' s'':Shared}(G:Go g s g' s')(K:Ok C g' σ s'){a:Addr}(r:AX g' s' a)(h:¬As s a)(hb:Heap.SameBut a s'.heap s''.heap):Go g s g' s'':=G.raw_ext K r h (Cf hb)
theorem Ok.push (K:Ok C g σ s){s':Shared}{o:Obj}(hf:o.isFreed=false)(hs:s'.heap=s.heap.push o)(hg:s'.gens=s.gens)(ho:s'.os=s.os):
  Ok C g σ s'/\Go g s g s'/\AX g s' s.heap.objs.size/\s'.heap.get? s.heap.objs.size=some o:=by
 have q:=K.none_of_fresh (Bg (Nat.le_refl _))
 have k:BA s.heap s'.heap:=by rw[hs];exact BA.push _ _
 have hz:s'.heap.get? s.heap.objs.size=some o:=by rw[hs];exact Heap.get?_push_size _ hf
 exact⟨K.grow k hg ho,.grow g k,⟨q.1,q.2,_,hz⟩,hz⟩
theorem Ok.chill (K:Ok C g σ s){a:Addr}{o:Obj}(r:AX g s a)(h:s.heap.get? a=some o):Ok C (g.frz a o) σ s/\(g.frz a o).F a=some o:=
 ⟨K.frz h r.o (.inl r.f),if_pos rfl⟩
theorem Go.chill {g g':Gh}{s s':Shared}(G:Go g s g' s'){a:Addr}{o:Obj}(r:AX g' s' a)(h:¬As s a):Go g s (g'.frz a o) s':=
 ⟨⟨G.F.trans (.frz (.inl r.f)),G.φ,G.loc,G.me,G.live,λb x e q=>let ⟨x,y,z⟩:=G.keep b x e q
  ⟨x,by show(if b=a then _ else g'.F b)=_;rw[if_neg (λq=>by subst q;exact h ⟨_,e⟩)];exact y,z⟩⟩,G.kl⟩
noncomputable def Gh.ow (g:Gh)(a:Addr)(t:Tag):Gh:={g with Ω:=λb=>if b=a then some t else g.Ω b}
theorem Ok.ow (K:Ok C g σ s){a:Addr}{t:Tag}(r:AX g s a):Ok C (g.ow a t) σ s:=by
 have e:∀b t',g.Ω b=some t'->(g.ow a t).Ω b=some t':=λb t' e=>by
  show(if b=a then some t else g.Ω b)=some t'
  rw[if_neg λq=>by subst q;exact absurd (r.o.symm.trans e) (λh=>by exact(ns h).elim)];exact e
 exact{
  fz:=K.fz
  base:=K.base
  own:=λb t' q=>by
   have q:(if b=a then some t else g.Ω b)=some t':=q
   by_cases qb:b=a
   ·subst qb;exact⟨r.f,r.lt⟩
   ·rw[if_neg qb] at q;exact K.own b t' q
  len:=K.len
  cells:=λn c x=>BX.mono (g:=g) (h:=s.heap) (.refl g.F) (.refl g.φ) (λb q=>⟨by rcases q with q|q<;>rw[q,e _ _ q],λ_ h=>h⟩) (K.cells n c x)
  slots:=λi sl l x el=>Bs.mono (g:=g) (h:=s.heap) (.refl g.F) (.refl g.φ) rfl (λ_ h=>h) (λb q=>⟨by rcases q with q|q<;>rw[q,e _ _ q],λ_ h=>h⟩) (K.slots i sl l x el)
  locs:=λi l x=>by
   have q:=K.locs i l x
   cases l with
   |d L x=>exact⟨e _ _ q.1,q.2⟩
   |c L=>exact⟨e _ _ q.1,q.2⟩
  inj:=K.inj
  gens:=K.gens
  os:=K.os}
theorem Go.ow {g g':Gh}{s s':Shared}(G:Go g s g' s'){a:Addr}{t:Tag}(h:¬As s a):Go g s (g'.ow a t) s':=
 ⟨⟨G.F,G.φ,G.loc,G.me,G.live,λb x e q=>let ⟨x,y,z⟩:=G.keep b x e q
  ⟨x,y,by show(if b=a then _ else g'.Ω b)=_;rw[if_neg (λq=>by subst q;exact h ⟨_,e⟩)];exact z⟩⟩,G.kl⟩
theorem Ok.upd (K:Ok C g σ s){s':Shared}{jI:St}{a:Addr}{t:Tag}(hb:Heap.SameBut a s.heap s'.heap)(hlv:As s' a)(ha:g.Ω a=some t)
  (hc:∀n c,nth jI.h n=some c->(nth σ.h n=some c/\t≠.ho n/\t≠.hd n)\/BX C g s'.heap n c)
  (hs:∀i sl l,nth jI.r i=some sl->g.loc i=some l->(nth σ.r i=some sl/\t≠.uq i/\t≠.uqd i/\∀v,l.has s.heap v->l.has s'.heap v)\/Bs C g s'.heap i l sl)
  (hl:∀i l,g.loc i=some l->C_ g s'.heap l)(hn:jI.h.length=σ.h.length)(hg:s'.gens=s.gens)(ho:s'.os=s.os):Ok C g jI s'/\GoS g s g s':=by
 have k:∀b,b≠a->∀o,s.heap.get? b=some o->s'.heap.get? b=some o:=λb q o e=>(hb.2 b q).trans e
 have lv:∀b,As s b->As s' b:=λb h=>by
  by_cases q:b=a
  ·rw[q];exact hlv
  ·exact h.imp (k b q)
 refine⟨{
  fz:=λb o e=>k b (λq=>by subst q;rw[(K.own _ _ ha).1] at e;exact(ns e).elim) o (K.fz _ _ e)
  base:=K.base
  own:=λb t e=>⟨(K.own b t e).1,lv b (K.own b t e).2⟩
  len:=K.len.trans hn.symm
  cells:=λn c e=>?_
  slots:=λi sl l e el=>?_
  locs:=hl
  inj:=K.inj
  gens:=hg.trans K.gens
  os:=ho.trans K.os},⟨.refl _,.refl _,rfl,rfl,lv,λb o e q=>⟨k b (λq'=>by subst q';rw[ha] at q;exact(sn q).elim) o e,rfl,q⟩⟩⟩
 ·rcases hc n c e with⟨e,h1,h2⟩|h
  ·refine(K.cells n c e).mono (.refl _) (.refl _) λb q=>⟨rfl,k b λq'=>?_⟩
   subst q';rw[ha] at q;rcases q with q|q<;>(have z1:=s1 q;clear q;subst z1)<;>contradiction
  ·exact h
 ·rcases hs i sl l e el with⟨e,h1,h2,h3⟩|h
  ·refine(K.slots i sl l e el).mono (.refl _) (.refl _) rfl h3 λb q=>⟨rfl,k b λq'=>?_⟩
   subst q';rw[ha] at q;rcases q with q|q<;>(have z1:=s1 q;clear q;subst z1)<;>contradiction
  ·exact h
theorem Ok.locKeep (K:Ok C g σ s){h':Heap}{a:Addr}{t:Tag}(hb:Heap.SameBut a s.heap h')(ha:g.Ω a=some t)(h1:t≠.dic)(h2:t≠.cel){i:Nat}{l:AN}(e:g.loc i=some l):
  (∀v,l.has s.heap v->l.has h' v)/\C_ g h' l:=
 have x:=K.locs i l e
 have n:l.at≠a:=λq=>(Mm x).elim (λz=>h1 (s1 (ha.symm.trans (q▸z)))) λz=>h2 (s1 (ha.symm.trans (q▸z)))
 ⟨λv h=>FK h λo=>Cf hb _ o n,E6 x λo=>Cf hb _ o n⟩
theorem FC {α:Type}:∀{l:List α}{i j:Nat}{x y:α},nth (put l i x) j=some y->(j=i/\y=x)\/(j≠i/\nth l j=some y)
 |[],_,_,_,_,e=>by cases e
 |a::l,0,0,x,y,e=>by cases e;exact .inl ⟨rfl,rfl⟩
 |a::l,0,j+1,x,y,e=>.inr ⟨by exact(Nat.ne_of_gt (Ao 0x112013023102014)),e⟩
 |a::l,i+1,0,x,y,e=>.inr ⟨by exact(Nat.ne_of_lt (Ao 0x112013023102014)),e⟩
 |a::l,i+1,j+1,x,y,e=>by
  rcases FC (l:=l) (i:=i) (j:=j) e with⟨h,h'⟩|⟨h,h'⟩
  ·exact .inl ⟨by exact(Nat.le_antisymm ((AR 0x11211312013211101b) h) ((AR 0x11201312113211101c) h)),h'⟩
  ·exact .inr ⟨by lia,h'⟩
theorem En {α:Type}:∀{l:List α}{i:Nat}{x:α},(put l i x).length=l.length
 |[],_,_=>rfl
 |_::_,0,_=>rfl
 |_::l,i+1,_=>congrArg (·+1) (En (l:=l))
theorem Ok.stored (K:Ok C g σ s){s':Shared}{i:Nat}{l:AN}(hl:g.loc i=some l){v:Value}(hb:Heap.SameBut l.at s.heap s'.heap)(hv:l.got s.heap s'.heap v)
  (hg:s'.gens=s.gens)(ho:s'.os=s.os){sl:Slot}(hsl:l.has s'.heap v->Bs C g s'.heap i l sl):Ok C g ⟨put σ.r i sl,σ.h⟩ s'/\GoS g s g s':=by
 have hh:l.has s'.heap v:=by
  cases l with
  |d L x=>refine Ac hv λm _ n=>?_;exact⟨_,n,if_pos rfl⟩
  |c L=>exact hv
 have kk:∀j l',g.loc j=some l'->j≠i->(∀v,l'.has s.heap v->l'.has s'.heap v)/\C_ g s'.heap l':=λj l' e q=>by
  have ne:l'≠l:=λq'=>q (K.inj j i l' e (q'▸hl))
  have x:=K.locs j l' e
  have y:=K.locs i l hl
  by_cases qa:l'.at=l.at
  ·cases l with
   |d L y=>
    cases l' with
    |d L' y'=>
     have qa:L'=L:=qa
     subst qa
     exact Ac hv λm n0 n1=>⟨λv h=>Ac h λm' a b=>⟨_,n1,by rw[if_neg (λq=>ne (by rw[q])),<-b];exact n0.agree a y'⟩,x.1,_,n1⟩
    |c L'=>exact(nomatch x.1.symm.trans ((congrArg g.Ω qa).trans y.1))
   |c L=>
    cases l' with
    |d L' y'=>exact(nomatch x.1.symm.trans ((congrArg g.Ω qa).trans y.1))
    |c L'=>exact absurd (congrArg AN.c qa) ne
  ·exact⟨λv h=>FK h λo=>Cf hb _ o qa,E6 x λo=>Cf hb _ o qa⟩
 have ha:∃t,g.Ω l.at=some t/\(t=.dic\/t=.cel):=(Mm (K.locs i l hl)).elim (λh=>⟨_,h,.inl rfl⟩) λh=>⟨_,h,.inr rfl⟩
 obtain⟨t,ha,ht⟩:=ha
 have hlv:As s' l.at:=by
  cases l with
  |d L x=>obtain⟨m,⟨o,_,_,e,_⟩,_⟩:=hh;exact⟨o,e⟩
  |c L=>refine Ac hh λo e _=>?_;exact⟨o,e⟩
 refine K.upd hb hlv ha (λn c e=>.inl ⟨e,?_,?_⟩) (λj sl' l' e el=>?_) (λj l' e=>?_) rfl hg ho
 ·rcases ht with rfl|rfl<;>exact λh=>by cases h
 ·rcases ht with rfl|rfl<;>exact λh=>by cases h
 ·rcases FC e with⟨rfl,rfl⟩|⟨q,e⟩
  ·have:=hl.symm.trans el;refine AZ this ?_;exact .inr (hsl hh)
  ·refine .inl ⟨e,?_,?_,(kk j l' el q).1⟩<;>rcases ht with rfl|rfl<;>exact λh=>by cases h
 ·by_cases q:j=i
  ·subst q
   have:=hl.symm.trans e;refine AZ this ?_
   have x:=K.locs j l hl
   cases l with
   |d L y=>refine Ac hv λm _ n=>?_;exact⟨x.1,_,n⟩
   |c L=>exact⟨x.1,_,hv⟩
  ·exact(kk j l' e q).2
end
end Mine.Internal
end
section
set_option maxRecDepth 10000
namespace Mine.Internal
open PySem PySem.Calls PyProof.Rows PySem.W
theorem TO (l:Addr)(items:Array Value)(n:Nat)(x:Int)(u:Tok)(dd:Option Addr)(sl:Array (Option Value))(hc0:¬(!Builtin.List.listFitsIndex x)=true)(hc1:¬items.size*x.toNat>(2 ^ 63 - 1)/8)(hc2:¬Builtin.List.listTooLong (items.size*x.toNat)=true):
  Meets (Builtin.«list.__mul__» ⟨[.ref l,.int x u],[]⟩) (λ_ R s=>s.heap.get? l=some {cls:=.type "list",dict:=dd,data:=.seq items n,slots:=sl}/\R (.ok (.ret (Value.ref s.heap.objs.size))) {s with heap:=s.heap.push {cls:=Value.type "list",data:=Data.seq (List.foldl (λx1 x2=>x1++x2) #[] (List.replicate (if items.isEmpty=true then 0 else x.toNat) items))},toks:=s.toks}):=
 .of_wp λprog w A R s h=>by
  obtain⟨hp,g,d,tk,os⟩:=s;refine AU h λhl h=>?_
  have hsz:=PySem.AutoListH.joined_fits hc2
  wp_walk using wpAny_loadPart' hl;refine wpAny_ite_false (decide_eq_false (Nat.not_lt.mpr hsz)) ?_;wp_walk;exact⟨_,rfl,h⟩
theorem Tx (a:Int)(t:Tok)(l:Addr)(items:Array Value)(n:Nat)(dd:Option Addr)(sl:Array (Option Value)):
  Meets (Builtin.«int.__rmul__» ⟨[.int a t,.ref l],[]⟩) (λ_ R s=>s.heap.get? l=some {cls:=.type "list",dict:=dd,data:=.seq items n,slots:=sl}/\R (.ok (.ret Value.notImplemented)) s):=
 .of_wp λprog w A R s h=>by obtain⟨hp,g,d,tk,os⟩:=s;refine AU h λhl h=>?_;wp_walk using wpAny_loadPart' hl;exact⟨_,rfl,h⟩
noncomputable def Aa {α β:Type}(C:Cx)(Rl:Gh->β->α->Prop)(g:Gh)(s:Shared)(jI:St)(v:β)(x:α)(s':Shared):Prop:=∃g',Go g s g' s'/\Ok C g' jI s'/\Rl g' v x
noncomputable def Rv (C:Cx)(g:Gh)(v:V)(x:Value):Prop:=Rp C g.F g.φ v x
theorem Rv.go {C:Cx}{g g':Gh}{s s':Shared}(G:Go g s g' s'){v:V}{x:Value}(h:Rv C g v x):Rv C g' v x:=Rp.mono G.F G.φ h
theorem Ak.go {C:Cx}{g g':Gh}{s s':Shared}(G:Go g s g' s'){v:List V}{x:List Value}(h:Ak C g.F g.φ v x):Ak C g'.F g'.φ v x:=Ak.mono G.F G.φ h
theorem Aa.of {α β:Type}{C:Cx}{Rl:Gh->β->α->Prop}{g jE:Gh}{s jC s':Shared}{jI:St}{v:β}{x:α}(G:Go g s jE jC)(h:Aa C Rl jE jC jI v x s'):Aa C Rl g s jI v x s':=
 let ⟨g',a,b,c⟩:=h;⟨g',G.trans a,b,c⟩
noncomputable abbrev Wp {α:Type}(C:Cx)(A:Around)(t:Sem α)(Q:α->Shared->Prop)(s:Shared):Prop:=wpAny (model C.prog C.w) A t Q (λ_ _=>False) s
theorem Wp.mono {α:Type}{C:Cx}{A:Around}{t:Sem α}{Q Q':α->Shared->Prop}{E:Value->Shared->Prop}{s:Shared}(h:Wp C A t Q s)(k:∀x s',Q x s'->Q' x s'):wpAny (model C.prog C.w) A t Q' E s:=
 wpAny_mono h k λ_ _ h=>h.elim
theorem Wp.r {α β:Type}{C:Cx}{A:Around}{t:Sem α}{Rl:Gh->β->α->Prop}{g:Gh}{s:Shared}{jI:St}{v:β}{Q:α->Shared->Prop}{E:Value->Shared->Prop}(h:Wp C A t (Aa C Rl g s jI v) s)(k:∀x jC jE,Go g s jE jC->Ok C jE jI jC->Rl jE v x->Q x jC):wpAny (model C.prog C.w) A t Q E s:=
 h.mono λx jC q=>CP q λjE G K r=>k x jC jE G K r
section
variable {C:Cx}{A:Around}{g:Gh}{σ:St}{s:Shared}
theorem Aa.tok (K:Ok C g σ s){v:V}{x:Value}(k:Tok)(h:Rv C g v x):Aa C (Rv C) g s σ v x {s with toks:=k}:=⟨g,.tok g s k,K.tok k,h⟩
theorem Aa.here (K:Ok C g σ s){v:V}{x:Value}(h:Rv C g v x):Aa C (Rv C) g s σ v x s:=⟨g,.refl g s,K,h⟩
theorem Ts (K:Ok C g σ s){s':Shared}{T:String}{xs:List Value}{n:Nat}(hs:s'.heap=s.heap.push {cls:=.type T,data:=.seq xs.toArray n})(hg:s'.gens=s.gens)(ho:s'.os=s.os):
  ∃g',Go g s g' s'/\Ok C g' σ s'/\A6 T g'.F s.heap.objs.size xs:=by
 refine Cz (K.push (o:={cls:=.type T,data:=.seq xs.toArray n}) rfl hs hg ho) λK' G r h=>?_
 obtain⟨K2,e⟩:=K'.chill r h
 exact⟨_,G.chill r (Bg (Nat.le_refl _)),K2,_,e,rfl,rfl,n,rfl⟩
theorem Aa.lst (K:Ok C g σ s){s':Shared}{l:List V}{xs:List Value}{n:Nat}(hs:s'.heap=s.heap.push {cls:=.type "list",data:=.seq xs.toArray n})(hg:s'.gens=s.gens)(ho:s'.os=s.os)
  (hl:l.length<=line)(hx:Ak C g.F g.φ l xs):Aa C (Rv C) g s σ (.lst l) (.ref s.heap.objs.size) s':=by
 refine CP (Ts K hs hg ho) λg' G K' h=>?_
 exact⟨g',G,K',by skip;exact⟨hl,_,_,rfl,h,hx.go G⟩⟩
theorem Aa.tup (K:Ok C g σ s){s':Shared}{l:List V}{xs:List Value}{n:Nat}(hs:s'.heap=s.heap.push {cls:=.type "tuple",data:=.seq xs.toArray n})(hg:s'.gens=s.gens)(ho:s'.os=s.os)
  (hl:l.length<=line)(hx:Ak C g.F g.φ l xs):Aa C (Rv C) g s σ (.tup l) (.ref s.heap.objs.size) s':=by
 refine CP (Ts K hs hg ho) λg' G K' h=>?_
 exact⟨g',G,K',by skip;exact⟨hl,_,_,rfl,h,hx.go G⟩⟩
theorem AW {i:Int}{t:Tok}:Rv C g (.int i) (.int i t):=by skip;exact⟨t,rfl⟩
theorem A9 {i:Bool}:Rv C g (.bool i) (.bool i):=by rfl
theorem QF:Rv C g .none .none:=by rfl
@[elab_as_elim] theorem NO {x:Value}{M:Value->Prop}(h:Rv C g .none x)(k:M .none):M x:=(show x=.none from h)▸k
@[elab_as_elim] theorem OM {b:Bool}{x:Value}{M:Value->Prop}(h:Rv C g (.bool b) x)(k:M (.bool b)):M x:=(show x=.bool b from h)▸k
@[elab_as_elim] theorem AK {i:Int}{x:Value}{M:Value->Prop}(h:Rv C g (.int i) x)(k:∀t,M (.int i t)):M x:=AA h λt e=>e▸k t
@[elab_as_elim] theorem CL {l:List Nat}{x:Value}{M:Value->Prop}(h:Rv C g (.str l) x)(k:∀t,l.length<=line->M (.str ⟨l.toArray⟩ t)):M x:=AU h λh0 h=>AA h λt e=>e▸k t h0
@[elab_as_elim] theorem Cs {l:List Nat}{x:Value}{M:Value->Prop}(h:Rv C g (.bytes l) x)(k:∀t,l.length<=line->(∀b∈l,b<256)->M (.bytes (l.map Nat.toUInt8).toArray t)):M x:=BH h λh0 h1 h=>AA h λt e=>e▸k t h0 h1
@[elab_as_elim] theorem BJ {l:List V}{x:Value}{M:Value->Prop}(h:Rv C g (.lst l) x)(k:∀a ys,l.length<=line->A6 "list" g.F a ys->Ak C g.F g.φ l ys->M (.ref a)):M x:=AU h λh0 h=>Co h λa ys e h1 h2=>e▸k a ys h0 h1 h2
@[elab_as_elim] theorem D3 {l:List V}{x:Value}{M:Value->Prop}(h:Rv C g (.tup l) x)(k:∀a ys,l.length<=line->A6 "tuple" g.F a ys->Ak C g.F g.φ l ys->M (.ref a)):M x:=AU h λh0 h=>Co h λa ys e h1 h2=>e▸k a ys h0 h1 h2
@[elab_as_elim] theorem Wx {c:Nat}{fs:List (Nat×V)}{x:Value}{M:Value->Prop}(h:Rv C g (.obj c fs) x)(k:∀a d m,g.F a=some (instObj (C.cad c) d)->DG C c g.F d fs.length m->Cw C g.F g.φ fs m->M (.ref a)):M x:=MC h λa d m e h1 h2 h3=>e▸k a d m h1 h2 h3
@[elab_as_elim] theorem J_ {n:Nat}{x:Value}{M:Value->Prop}(h:Rv C g (.ref n) x)(k:∀a,Mine.Internal.nth g.φ n=some a->M (.ref a)):M x:=Ac h λa h1 e=>e▸k a h1
theorem UR {l:List Nat}{t:Tok}(h:l.length<=line):Rv C g (.str l) (.str ⟨l.toArray⟩ t):=⟨h,t,rfl⟩
theorem ES {l:List Nat}{t:Tok}(h:l.length<=line)(h1:∀b∈l,b<256):Rv C g (.bytes l) (.bytes (l.map Nat.toUInt8).toArray t):=⟨h,h1,t,rfl⟩
theorem aS {l:List V}{a:Addr}{ys:List Value}(h:l.length<=line)(h1:A6 "list" g.F a ys)(h2:Ak C g.F g.φ l ys):Rv C g (.lst l) (.ref a):=⟨h,a,ys,rfl,h1,h2⟩
theorem Un {l:List V}{a:Addr}{ys:List Value}(h:l.length<=line)(h1:A6 "tuple" g.F a ys)(h2:Ak C g.F g.φ l ys):Rv C g (.tup l) (.ref a):=⟨h,a,ys,rfl,h1,h2⟩
@[elab_as_elim] theorem C9 {xs:List Value}{M:List Value->Prop}(h:Ak C g.F g.φ [] xs)(k:M []):M xs:=(show xs=[] from h)▸k
@[elab_as_elim] theorem BR {v:V}{l:List V}{xs:List Value}{M:List Value->Prop}(h:Ak C g.F g.φ (v::l) xs)(k:∀x r,Rv C g v x->Ak C g.F g.φ l r->M (x::r)):M xs:=Co h λx r e h1 h2=>e▸k x r h1 h2
theorem Bo {n:Nat}(h:AO n=true):n<=line:=Nat.le_of_ble_eq_true h
theorem Dc {l:List V}{v:V}(h:DJ l=some v):v=.lst l/\l.length<=line:=AJ h λe h=>⟨(s1 h).symm,Bo e⟩
@[elab_as_elim] theorem Ko {l:List Nat}{v:V}{M:V->Prop}(h:Fy l=some v)(k:l.length<=line->M (.bytes l)):M v:=AJ h λe h=>s1 h▸k (Bo e)
@[elab_as_elim] theorem WX {l:List V}{v:V}{M:V->Prop}(h:DJ l=some v)(k:l.length<=line->M (.lst l)):M v:=AJ h λe h=>s1 h▸k (Bo e)
@[elab_as_elim] theorem fF {l:List Nat}{v:V}{M:V->Prop}(h:aN l=some v)(k:l.length<=line->M (.str l)):M v:=AJ h λe h=>s1 h▸k (Bo e)
theorem AB:sizeLine=line:=by rw[sizeLine_eq];rfl
theorem B9 {T:String}{f:Fz}{a:Addr}{xs:List Value}(h:A6 T f a xs):∃n sl,f a=some {cls:=.type T,dict:=none,data:=.seq xs.toArray n,slots:=sl}:=by
 obtain⟨⟨c,d,dt,sl⟩,h,hc,hd,n,e⟩:=h
 simp only at hc hd e
 subst hc hd e
 exact⟨n,sl,h⟩
theorem Ok.seq (K:Ok C g σ s){T:String}{a:Addr}{xs:List Value}(h:A6 T g.F a xs):A6 T s.heap.get? a xs:=h.mono K.fz
theorem Ok.isList (K:Ok C g σ s){a:Addr}{xs:List Value}(h:A6 "list" g.F a xs):s.heap.IsList a xs.toArray:=let ⟨o,e,c,_,n,d⟩:=K.seq h;⟨o,e,c,n,d⟩
theorem Ok.isTup (K:Ok C g σ s){a:Addr}{xs:List Value}(h:A6 "tuple" g.F a xs):IsTup s.heap a xs.toArray:=let ⟨o,e,c,_,n,d⟩:=K.seq h;⟨o,e,c,n,d⟩
theorem RU {i:Int}(h:small i=true): -Ek<i/\i<Ek:=by
 unfold small at h
 simpa only[Bool.and_eq_true,decide_eq_true_eq] using h
noncomputable def Hu.py:Hu->Operator
 |.add=>.Add
 |.sub=>.Sub
 |.mul=>.Mult
 |.fdiv=>.FloorDiv
 |.mod=>.Mod
 |.pow=>.Pow
 |.bor=>.BitOr
 |.band=>.BitAnd
theorem M4 {i:Int}(h:small i=true):Builtin.Int.intBits i<=64:=by
 have:=RU h
 simp only[Ek] at this
 exact intBits_le_64 (by lia) (by lia)
theorem Iz {α:Type}(l:List α):∀n,rep l n=(List.replicate n l).flatten
 |0=>rfl
 |n+1=>by simp[rep,Iz l n,List.replicate_succ]
theorem Ak.rep {l:List V}{xs:List Value}(h:Ak C g.F g.φ l xs):∀n,Ak C g.F g.φ (rep l n) (rep xs n)
 |0=>rfl
 |n+1=>h.append (Ak.rep h n)
theorem Mv (xs:List Value):∀(n:Nat)(acc:Array Value),List.foldl (λx1 x2=>x1++x2) acc (List.replicate n xs.toArray)=acc++(Mine.Internal.rep xs n).toArray
 |0,acc=>by simp[Mine.Internal.rep]
 |n+1,acc=>by
  rw[List.replicate_succ,List.foldl_cons,Mv xs n]
  simp[Mine.Internal.rep,Array.append_assoc]
theorem J2 {α:Type}(l:List α):∀n,(Mine.Internal.rep l n).length=l.length*n
 |0=>rfl
 |n+1=>by simp[Mine.Internal.rep,J2 l n,Nat.mul_succ,Nat.add_comm]
theorem Rj {α:Type}:∀n,Mine.Internal.rep ([]:List α) n=[]
 |0=>rfl
 |n+1=>by simp[Mine.Internal.rep,Rj n]
theorem bb {u v c:V}{M:V->V->V->Prop}(e:VV u v=some c)(k1:∀a b,M (.int a) (.int b) (.int (a+b)))(k2:∀a b,Fy (a++b)=some c->M (.bytes a) (.bytes b) c)(k3:∀a b,aN (a++b)=some c->M (.str a) (.str b) c)
  (k4:∀a b,DJ (a++b)=some c->M (.lst a) (.lst b) c)(k5:∀a b,AO (a++b).length=true->M (.tup a) (.tup b) (.tup (a++b))):M u v c:=by
 cases u with
 |int a=>cases v with
  |int b=>exact s1 e▸k1 a b
  |_=>exact(ns e).elim
 |bytes a=>cases v with
  |bytes b=>exact k2 a b e
  |_=>exact(ns e).elim
 |str a=>cases v with
  |str b=>exact k3 a b e
  |_=>exact(ns e).elim
 |lst a=>cases v with
  |lst b=>exact k4 a b e
  |_=>exact(ns e).elim
 |tup a=>cases v with
  |tup b=>exact AJ e λh e=>s1 e▸k5 a b h
  |_=>exact(ns e).elim
 |_=>exact(ns e).elim
theorem H4 {α:Type}{a b:List α}:a.toArray++b.toArray=(a++b).toArray:=by simp
theorem Pw {a b:List Nat}(h:∀x∈a,x<256)(h':∀x∈b,x<256):∀x∈a++b,x<256:=λx hm=>(List.mem_append.1 hm).elim (h x) (h' x)
theorem OC {l l':List V}{xs ys:List Value}(h:(l++l').length<=line)(hx:Ak C g.F g.φ l xs)(hy:Ak C g.F g.φ l' ys):xs.toArray.size+ys.toArray.size<=sizeLine:=by
 rw[AB,List.size_toArray,List.size_toArray,hx.length,hy.length,<-List.length_append];exact h
theorem T5 {l:List V}{xs:List Value}(h:Ak C g.F g.φ l xs)(e:xs=[]):l=[]:=List.eq_nil_of_length_eq_zero (h.length.symm.trans (congrArg List.length e))
theorem Zz (K:Ok C g σ s){u v c:V}{x y:Value}(hx:Rv C g u x)(hy:Rv C g v y)(e:VV u v=some c):Wp C A (binaryOp .Add x y) (Aa C (Rv C) g s σ c) s:=by
 refine bb (M:=λu v c=>Rv C g u x->Rv C g v y->Wp C A (binaryOp .Add x y) (Aa C (Rv C) g s σ c) s) e (λa b hx hy=>?_) (λa b e hx hy=>?_) (λa b e hx hy=>?_) (λa b e hx hy=>?_) (λa b hf hx hy=>?_) hx hy
 ·refine AK hx λt=>?_
  refine AK hy λu=>?_
  exact add_int (Aa.tok K _ AW)
 ·refine Cs hx λt hl hb=>?_
  refine Cs hy λu hl' hb'=>?_
  refine Ko e λh=>?_
  refine KBy.add_bytes (by simpa [line] using h) λt' k=>Aa.tok K _ ?_
  rw[H4,<-List.map_append]
  exact ES h (Pw hb hb')
 ·refine CL hx λt hl=>?_
  refine CL hy λu hl'=>?_
  refine fF e λh=>?_
  refine add_str (λt' k=>Aa.tok K _ ?_) ?_
  ·rw[show(⟨a.toArray⟩++⟨b.toArray⟩:Str)=⟨(a++b).toArray⟩ from congrArg Str.mk H4]
   exact UR h
  ·rw[AB];simpa [Str.length] using h
 ·refine BJ hx λl xs hl ha hxs=>?_
  refine BJ hy λl' ys hl' hb hys=>?_
  refine WX e λh=>?_
  refine Ez (B9 (K.seq ha)) λn sl ea=>?_
  refine Ez (B9 (K.seq hb)) λn' sl' eb=>?_
  refine concat_meets ⟨_,ea,rfl⟩ ⟨_,eb,rfl⟩ noFill_list_add seq_list_add PySem.F.slot_list_add PySem.F.entry_list_add (PySem.F.args_list_add_2 _ _) (list_addW l l' _ _ n n' none none sl sl' (OC h hxs hys)) ⟨ea,eb,?_⟩
  refine Aa.lst K (xs:=xs++ys) (n:=0) ?_ rfl rfl h (hxs.append hys)
  rw[H4]
 ·have hf:=Bo hf
  refine D3 hx λl xs hl ha hxs=>?_
  refine D3 hy λl' ys hl' hb hys=>?_
  refine Ez (B9 (K.seq ha)) λn sl ea=>?_
  refine Ez (B9 (K.seq hb)) λn' sl' eb=>?_
  have go:∀{S:PySem.Spec},Meets (Builtin.«tuple.__add__» ⟨[.ref l,.ref l'],[]⟩) S->S A (wants (Aa C (Rv C) g s σ (.tup (a++b))) λ_ _=>False) s->Wp C A (binaryOp .Add (.ref l) (.ref l')) (Aa C (Rv C) g s σ (.tup (a++b))) s:=λq h=>
   concat_meets ⟨_,ea,rfl⟩ ⟨_,eb,rfl⟩ noFill_tuple_add seq_tuple_add PySem.F.slot_tuple_add PySem.F.entry_tuple_add (PySem.F.args_tuple_add_2 _ _) q h
  cases xs with
  |nil=>
   refine go (tuple_addW0 l l' ([]:List Value).toArray _ n n' none none sl sl' rfl) ⟨ea,eb,Aa.here K ?_⟩
   rw[T5 hxs rfl]
   exact Un hl' hb hys
  |cons z xs=>cases ys with
   |nil=>
    refine go (tuple_addW1 l l' (z::xs).toArray ([]:List Value).toArray n n' none none sl sl' (λh=>nomatch h) rfl) ⟨ea,eb,Aa.here K ?_⟩
    rw[T5 hys rfl,List.append_nil]
    exact Un hl ha hxs
   |cons w ys=>
    refine go (tuple_addW2 l l' (z::xs).toArray (w::ys).toArray n n' none none sl sl' (λh=>nomatch h) (λh=>nomatch h) (OC hf hxs hys)) ⟨ea,eb,?_⟩
    refine Aa.tup K (xs:=z::xs++w::ys) (n:=0) ?_ rfl rfl hf (hxs.append hys)
    simp
theorem bP {u v c:V}{M:V->V->V->Prop}(e:V6 u v=some c)(k1:∀a b,small a=true->M (.int a) (.int b) (.int (a*b)))(k2:∀a b,(decide (0<=b)&&decide (b<64))=true->DJ (rep a b.toNat)=some c->M (.lst a) (.int b) c)
  (k3:∀a b,(decide (0<=b)&&decide (b<64)&&Nat.blt 0 a.length&&Nat.ble a.length 16)=true->Fy (rep a b.toNat)=some c->M (.bytes a) (.int b) c):M u v c:=by
 cases u with
 |int a=>cases v with
  |int b=>exact AJ e λh e=>s1 e▸k1 a b h
  |_=>exact(ns e).elim
 |bytes a=>cases v with
  |int b=>exact AJ e λh e=>k3 a b h e
  |_=>exact(ns e).elim
 |lst a=>cases v with
  |int b=>exact AJ e λh e=>k2 a b h e
  |_=>exact(ns e).elim
 |_=>exact(ns e).elim
theorem aC (K:Ok C g σ s){u v c:V}{x y:Value}(hx:Rv C g u x)(hy:Rv C g v y)(e:V6 u v=some c):Wp C A (binaryOp .Mult x y) (Aa C (Rv C) g s σ c) s:=by
 refine bP (M:=λu v c=>Rv C g u x->Rv C g v y->Wp C A (binaryOp .Mult x y) (Aa C (Rv C) g s σ c) s) e (λa b hs hx hy=>?_) (λa b hs e hx hy=>?_) (λa b hs e hx hy=>?_) hx hy
 ·refine AK hx λt=>?_
  refine AK hy λu=>?_
  exact mul_int (Aa.tok K _ AW) (IntMulOk.of_left (M4 hs))
 ·have h0:=of_decide_eq_true (A8 hs).1;have h1:=of_decide_eq_true (A8 hs).2
  refine BJ hx λl xs hl ha hxs=>?_
  refine AK hy λu=>?_
  refine WX e λh=>?_
  refine Ez (B9 (K.seq ha)) λn sl ea=>?_
  have hsz:xs.toArray.size*b.toNat<=line:=by
   rw[List.size_toArray,hxs.length,<-J2];exact h
  refine wpAny_binaryOp_repeat_ref (T:="list") (U:="int") (by decide) ⟨_,ea,rfl⟩ (λs'=>typeIs_int s' b u) noFill_list_mul F.fills_int_mul F.slot_int_rmul repeat_list F.slot_int_index.lookup
   (call_meets F.slot_int_rmul (typeIs_int s b u) F.entry_int_rmul (F.args_int_rmul_2 _ _) (Tx b u l _ n none sl)
    ⟨ea,rfl,⟨_,ea,rfl⟩,call_meets F.slot_list_mul ⟨_,ea,rfl⟩ F.entry_list_mul (F.args_list_mul_2 _ _)
     (TO l _ n b u none sl (by simp[Builtin.List.listFitsIndex];exact⟨((Aj 0x1001888888888888888888888270100025) h0),((Aj 0x11888888888888888888888200111882006) h1)⟩) (by simp only[line] at hsz;omega) (by simp[Builtin.List.listTooLong,sizeLine];rw[List.size_toArray] at hsz;simpa [line] using hsz))
     ⟨ea,?_⟩⟩)
  refine Aa.lst K (xs:=Mine.Internal.rep xs b.toNat) (n:=0) ?_ rfl rfl h (hxs.rep _)
  by_cases hxe:xs=[]
  ·subst hxe;simp[Rj]
  ·have:xs.toArray.isEmpty=false:=by simpa using hxe
   simp only[this,Bool.false_eq_true,if_false]
   rw[Mv];simp
 ·refine Ab hs λhs h3=>Ab hs λhs h2=>Ab hs λh0 h1=>?_
  have h0:=of_decide_eq_true h0;have h1:=of_decide_eq_true h1
  refine Cs hx λt hl hb=>?_
  refine AK hy λu=>?_
  refine Ko e λh=>?_
  have h2:0<a.length:=Nat.le_of_ble_eq_true h2
  have h3:=Nat.le_of_ble_eq_true h3
  have hr:=Iz a b.toNat
  refine bytes_mul_any (b:=a.map Nat.toUInt8) ?_ (by exact((Aj 0x1004888888270100025) h0)) (by exact((Aj 0x14888888200011882006) h1)) (by simpa using h3) λt' k=>Aa.tok K _ ?_
  ·intro q;have:=congrArg List.length q;simp at this;simp[this] at h2
  ·have:(List.replicate b.toNat (a.map Nat.toUInt8)).flatten=(Mine.Internal.rep a b.toNat).map Nat.toUInt8:=by rw[hr,List.map_flatten,List.map_replicate]
   rw[this]
   refine ES h λx hm=>?_
   ·skip
    rw[hr] at hm
    refine Ac (List.mem_flatten.1 hm) λy hy hm=>?_
    rw[(List.mem_replicate.1 hy).2] at hm
    exact hb x hm
theorem V2 (K:Ok C g σ s){o:Hu}{a b z:Int}{t u:Tok}(e:KI o a b=some z):Wp C A (binaryOp o.py (.int a t) (.int b u)) (Aa C (Rv C) g s σ (.int z)) s:=by
 unfold KI at e
 split at e
 ·refine AZ e ?_
  exact sub_int (Aa.tok K _ AW)
 ·refine AJ e λhs e=>?_
  simp only[Bool.and_eq_true,decide_eq_true_eq] at hs
  refine AZ e ?_
  refine floordiv_int (by exact(Int.ne_of_gt ((Aj 0x100021100026) hs.1))) (Aa.tok K _ ?_) (.inl ?_)
  ·rw[Int.fdiv_eq_ediv_of_nonneg _ (by exact((Aj 0x100020100026) hs.1))];exact AW
  ·simp only[Ek] at hs
   have hb:b.natAbs<2 ^ 63:=by omega
   have hl:b.natAbs.log2<63:=(Nat.log2_lt (by omega)).2 hb
   simp only[Builtin.divisionGoesByPylong,Bool.and_eq_false_imp]
   intro q
   have q:=of_decide_eq_true q
   exfalso
   split at q<;>omega
 ·refine AJ e λhs e=>?_
  simp only[Bool.and_eq_true,decide_eq_true_eq] at hs
  refine AZ e ?_
  refine mod_int' (by exact(Int.ne_of_gt ((Aj 0x100021100026) hs))) (Aa.tok K _ ?_)
  rw[Int.fmod_eq_emod_of_nonneg _ (by exact((Aj 0x100020100026) hs))];exact AW
 ·refine AJ e λhs e=>?_
  simp only[Bool.and_eq_true,decide_eq_true_eq] at hs
  refine AZ e ?_
  refine pow_int (by exact((Aj 0x100020100025) hs.1.2)) ?_ (Aa.tok K _ AW)
  have h1:Builtin.Int.intBits a<=64:=intBits_le_64 (by omega) (by omega)
  have h2:((Builtin.Int.intBits a:Nat):Int)*b<=64*64:=Int.mul_le_mul (by exact((Ao 0x11882018011882019) h1)) (by exact((Aj 0x1188200011882006) hs.2)) (by exact((Aj 0x100020100025) hs.1.2)) (by exact(by decide))
  omega
 ·refine AJ e λhs e=>?_
  simp only[Bool.and_eq_true,decide_eq_true_eq] at hs
  cases e
  refine or_int (Aa.tok K _ ?_)
  have:Builtin.bitOr a b=((a.toNat|||b.toNat:Nat):Int):=by
   have n:∀x:Int,Builtin.bitNot x= -x - 1:=λx=>by simp only[Builtin.bitNot]<;>omega
   have e1:decide (0<= -a - 1)=false:=decide_eq_false (by exact(Int.not_le.mpr ((Aj 0x1021200741100025) hs.1.1.1)))
   have e2:decide (0<= -b - 1)=false:=decide_eq_false (by exact(Int.not_le.mpr ((Aj 0x1021200741100025) hs.1.1.2)))
   simp only[Builtin.bitOr,n,Builtin.bitAnd,e1,e2]
   have f:∀x:Int, -(-x - 1) - 1=x:=λx=>by exact(Int.le_antisymm (Aj 0x10012120074740) (Aj 0x11212007474000))
   rw[f,f,f]
  rw[this];exact AW
 ·refine AJ e λhs e=>?_
  simp only[Bool.and_eq_true,decide_eq_true_eq] at hs
  cases e
  refine and_int (Aa.tok K _ ?_)
  have h1:=decide_eq_true hs.1.1.1
  have h2:=decide_eq_true hs.1.1.2
  simp only[Builtin.bitAnd,h1,h2]
  exact AW
 ·cases e
theorem cx (K:Ok C g σ s){o:Hu}{u v c:V}{x y:Value}(hx:Rv C g u x)(hy:Rv C g v y)(e:AY o u v=some c):Wp C A (binaryOp o.py x y) (Aa C (Rv C) g s σ c) s:=by
 have ar:Hk o u v=some c->Wp C A (binaryOp o.py x y) (Aa C (Rv C) g s σ c) s:=λq=>by
  unfold Hk at q
  split at q
  ·simp only[Option.map_eq_some_iff] at q
   obtain⟨z,q,rfl⟩:=q
   refine AK hx λt=>?_;refine AK hy λu=>?_
   exact V2 K q
  ·exact(ns q).elim
 cases o with
 |add=>exact Zz K hx hy e
 |mul=>exact aC K hx hy e
 |_=>exact ar e
end
end Mine.Internal
end
section
set_option maxRecDepth 10000
namespace Mine.Internal
open PySem PySem.Calls PyProof.Rows PySem.W
section
variable {C:Cx}{A:Around}{g:Gh}{σ:St}{s:Shared}
theorem V_ {p:Nat->Bool}{n:Nat}:(List.range (n+1)).all p=(p 0&&(List.range n).all λj=>p (j+1)):=by
 rw[List.range_succ_eq_map,List.all_cons,List.all_map];rfl
@[elab_as_elim] theorem JY {f:V->V->Option Bool}{a b:V}{x y:List V}{c:Bool}{M:Bool->Prop}(e:CI f (a::x) (b::y)=some c)(k:∀d d',f a b=some d->CI f x y=some d'->M (d&&d')):M c:=by
 replace e:(match f a b with|some c=>(match CI f x y with|some d=>some (c&&d)|none=>none)|none=>none)=some c:=e
 cases h:f a b with
 |none=>rw[h] at e;exact(ns e).elim
 |some d=>
  rw[h] at e
  cases h':CI f x y with
  |none=>rw[h'] at e;exact(ns e).elim
  |some d'=>rw[h'] at e;exact s1 e▸k d d' h h'
theorem HF {f:V->V->Option Bool}:∀{a b:List V}{c:Bool},CI f a b=some c->
  (∀j,j<a.length->j<b.length->∃d,f (a.getD j .none) (b.getD j .none)=some d)/\c=((List.range (min a.length b.length)).all (λj=>(f (a.getD j .none) (b.getD j .none)).getD false)&&decide (a.length=b.length))
 |[],[],c,e=>⟨λj h=>absurd h (Nat.not_lt_zero j),(s1 e).symm⟩
 |[],_::_,c,e=>⟨λj h=>absurd h (Nat.not_lt_zero j),(s1 e).symm.trans (by simp)⟩
 |_::_,[],c,e=>⟨λj _ h=>absurd h (Nat.not_lt_zero j),(s1 e).symm.trans (by simp)⟩
 |x::a,y::b,c,e=>by
  refine JY e λd d' h h'=>?_
  exact AU (HF h') λq q'=>⟨λj=>by
   cases j with
   |zero=>exact λ_ _=>⟨d,h⟩
   |succ j=>exact λh1 h2=>q j (Nat.lt_of_succ_lt_succ h1) (Nat.lt_of_succ_lt_succ h2),by
   rw[List.length_cons,List.length_cons,Nat.add_min_add_right,V_,q',Bool.and_assoc]
   show(d&&_)=((f x y).getD false&&_)
   rw[h,decide_eq_decide.mpr (Nat.succ_inj (a:=a.length) (b:=b.length))];rfl⟩
theorem Ak.inv {v:V}{l:List V}{x:Value}{r:List Value}(h:Ak C g.F g.φ (v::l) (x::r)):Rv C g v x/\Ak C g.F g.φ l r:=Co h λx' r' e h1 h2=>by
 rw[(List.cons.inj e).1,(List.cons.inj e).2];exact⟨h1,h2⟩
theorem Ak.getD:∀{l:List V}{xs:List Value}{j:Nat},Ak C g.F g.φ l xs->j<l.length->∃h2:j<xs.length,Rv C g (l.getD j .none) xs[j]
 |[],_,j,_,h=>absurd h (Nat.not_lt_zero j)
 |v::l,xs,j,h,h1=>by
  refine BR h λx r hx hr=>?_
  cases j with
  |zero=>exact⟨Nat.succ_pos _,hx⟩
  |succ j=>exact AA (Ak.getD hr (Nat.lt_of_succ_lt_succ h1)) λh2 h3=>⟨Nat.succ_lt_succ h2,h3⟩
theorem Ak.getElem {l:List V}{xs:List Value}{j:Nat}(h:Ak C g.F g.φ l xs)(h1:j<l.length):∃h2:j<xs.length,Rv C g l[j] xs[j]:=AA (Ak.getD h h1) λh2 q=>⟨h2,by rw[List.getD,List.getElem?_eq_getElem h1] at q;exact q⟩
theorem A6.unique {T T':String}{f:Fz}{a:Addr}{xs ys:List Value}(h:A6 T f a xs)(h':A6 T' f a ys):xs=ys:=
 Ez (B9 h) λn sl e=>Ez (B9 h') λn' sl' e'=>by
  have q:=congrArg Obj.data (s1 (e.symm.trans e'))
  exact congrArg Array.toList (Data.seq.inj q).1
theorem cF {a b:Nat}(ha:a<256)(hb:b<256)(e:a.toUInt8=b.toUInt8):a=b:=by
 have:=congrArg UInt8.toNat e
 simp only[Nat.toUInt8,UInt8.toNat_ofNat'] at this
 lia
theorem OL:∀{a b:List Nat},(∀x∈a,x<256)->(∀x∈b,x<256)->a.map Nat.toUInt8=b.map Nat.toUInt8->a=b
 |[],[],_,_,_=>rfl
 |x::a,y::b,ha,hb,e=>by
  rw[cF (ha x List.mem_cons_self) (hb y List.mem_cons_self) (List.cons.inj e).1,OL (λz h=>ha z (List.mem_cons_of_mem _ h)) (λz h=>hb z (List.mem_cons_of_mem _ h)) (List.cons.inj e).2]
theorem S5 {n:Nat}{u v:V}{b:Bool}{M:V->V->Bool->Prop}(e:V.eqb (n+1) u v=some b)(k0:M .none .none true)(kb:∀a c,M (.bool a) (.bool c) (a==c))(ki:∀a c,M (.int a) (.int c) (decide (a=c)))(ks:∀a c,M (.str a) (.str c) (decide (a=c)))(ky:∀a c,M (.bytes a) (.bytes c) (decide (a=c)))
  (kt:∀a c,CI (V.eqb n) a c=some b->M (.tup a) (.tup c) b)(kl:∀a c,CI (V.eqb n) a c=some b->M (.lst a) (.lst c) b):M u v b:=by
 cases u with
 |none=>cases v with
  |none=>exact s1 e▸k0
  |_=>exact(ns e).elim
 |bool a=>cases v with
  |bool c=>exact s1 e▸kb a c
  |_=>exact(ns e).elim
 |int a=>cases v with
  |int c=>exact s1 e▸ki a c
  |_=>exact(ns e).elim
 |str a=>cases v with
  |str c=>exact s1 e▸ks a c
  |_=>exact(ns e).elim
 |bytes a=>cases v with
  |bytes c=>exact s1 e▸ky a c
  |_=>exact(ns e).elim
 |tup a=>cases v with
  |tup c=>exact kt a c e
  |_=>exact(ns e).elim
 |lst a=>cases v with
  |lst c=>exact kl a c e
  |_=>exact(ns e).elim
 |_=>exact(ns e).elim
theorem Tt {a c:Bool}{x:Value}(hu:Rv C g (.bool a) x)(hv:Rv C g (.bool c) x):a=c:=Value.bool.inj ((show x=.bool a from hu).symm.trans (show x=.bool c from hv))
theorem Xk {a c:Int}{x:Value}(hu:Rv C g (.int a) x)(hv:Rv C g (.int c) x):a=c:=AA hu λt e=>AA hv λt' e'=>(Value.int.inj (e.symm.trans e')).1
theorem WW {a c:List Nat}{x:Value}(hu:Rv C g (.str a) x)(hv:Rv C g (.str c) x):a=c:=AA hu.2 λt e=>AA hv.2 λt' e'=>congrArg Array.toList (Str.mk.inj (Value.str.inj (e.symm.trans e')).1)
theorem WI {a c:List Nat}{x:Value}(hu:Rv C g (.bytes a) x)(hv:Rv C g (.bytes c) x):a=c:=BH hu λ_ h e=>BH hv λ_ h' e'=>AA e λt e=>AA e' λt' e'=>OL h h' (congrArg Array.toList (Value.bytes.inj (e.symm.trans e')).1)
theorem WO {a c:List V}{x:Value}(hu:Rv C g (.tup a) x)(hv:Rv C g (.tup c) x):∃xs,Ak C g.F g.φ a xs/\Ak C g.F g.φ c xs:=AU hu λ_ h=>AU hv λ_ h'=>Co h λp xs e h1 h2=>Co h' λp' ys e' h3 h4=>⟨xs,h2,by
 rw[<-Value.ref.inj (e.symm.trans e')] at h3;rw[h1.unique h3];exact h4⟩
theorem WJ {a c:List V}{x:Value}(hu:Rv C g (.lst a) x)(hv:Rv C g (.lst c) x):∃xs,Ak C g.F g.φ a xs/\Ak C g.F g.φ c xs:=AU hu λ_ h=>AU hv λ_ h'=>Co h λp xs e h1 h2=>Co h' λp' ys e' h3 h4=>⟨xs,h2,by
 rw[<-Value.ref.inj (e.symm.trans e')] at h3;rw[h1.unique h3];exact h4⟩
theorem HP {v:V}{l:List V}{xs:List Value}{M:Prop}(h:Ak C g.F g.φ [] xs)(h':Ak C g.F g.φ (v::l) xs):M:=nomatch h.length.symm.trans h'.length
theorem Hs {f:V->V->Option Bool}(ih:∀u v x b,Rv C g u x->Rv C g v x->f u v=some b->b=true):∀{a c:List V}{xs:List Value}{b:Bool},Ak C g.F g.φ a xs->Ak C g.F g.φ c xs->CI f a c=some b->b=true
 |[],[],_,_,_,_,e=>(s1 e).symm
 |[],_::_,_,_,h,h',_=>HP h h'
 |_::_,[],_,_,h,h',_=>HP h' h
 |a::x,c::y,xs,b,h,h',e=>by
  revert h'
  refine BR h λz r h1 h2 h'=>?_
  refine JY e λd d' q q'=>?_
  rw[ih _ _ _ _ h1 h'.inv.1 q,Hs ih h2 h'.inv.2 q'];rfl
theorem Jj {f:V->V->Option Bool}(ih:∀u v c x b d,Rv C g u x->Rv C g v x->f u c=some b->f v c=some d->b=d):∀{a a' c:List V}{xs:List Value}{b d:Bool},Ak C g.F g.φ a xs->Ak C g.F g.φ a' xs->CI f a c=some b->CI f a' c=some d->b=d
 |[],[],_,_,_,_,_,_,e,e'=>s1 (e.symm.trans e')
 |[],_::_,_,_,_,_,h,h',_,_=>HP h h'
 |_::_,[],_,_,_,_,h,h',_,_=>HP h' h
 |_::_,_::_,[],_,_,_,_,_,e,e'=>(s1 e).symm.trans (s1 e')
 |a::x,a'::x',c::y,xs,b,d,h,h',e,e'=>by
  revert h'
  refine BR h λz r h1 h2 h'=>?_
  refine JY e λd d' q q'=>?_
  refine JY e' λd2 d2' q2 q2'=>?_
  rw[ih _ _ _ _ _ _ h1 h'.inv.1 q q2,Jj ih h2 h'.inv.2 q' q2']
theorem IW:∀(n:Nat){u v:V}{x:Value}{b:Bool},Rv C g u x->Rv C g v x->V.eqb n u v=some b->b=true
 |0,_,_,_,_,_,_,e=>(ns e).elim
 |n+1,u,v,x,b,hu,hv,e=>S5 (M:=λu v b=>Rv C g u x->Rv C g v x->b=true) e (λ_ _=>rfl) (λa c h h'=>beq_iff_eq.mpr (Tt h h')) (λa c h h'=>decide_eq_true (Xk h h')) (λa c h h'=>decide_eq_true (WW h h')) (λa c h h'=>decide_eq_true (WI h h'))
   (λa c e h h'=>Ac (WO h h') λxs q q'=>Hs (f:=V.eqb n) (λ_ _ _ _=>IW n) q q' e) (λa c e h h'=>Ac (WJ h h') λxs q q'=>Hs (f:=V.eqb n) (λ_ _ _ _=>IW n) q q' e) hu hv
theorem Mc:∀(n:Nat){u v c:V}{x:Value}{b d:Bool},Rv C g u x->Rv C g v x->V.eqb n u c=some b->V.eqb n v c=some d->b=d
 |0,_,_,_,_,_,_,_,_,e,_=>(ns e).elim
 |n+1,u,v,c,x,b,d,hu,hv,e,e'=>by
  refine S5 (M:=λu c b=>Rv C g u x->V.eqb (n+1) v c=some d->b=d) e (λh e'=>?_) (λa c h e'=>?_) (λa c h e'=>?_) (λa c h e'=>?_) (λa c h e'=>?_) (λa c e h e'=>?_) (λa c e h e'=>?_) hu e'
  ·cases v<;>first|exact(ns e').elim|exact s1 e'
  ·cases v<;>first|exact(ns e').elim|exact(Tt h hv)▸s1 e'
  ·cases v<;>first|exact(ns e').elim|exact(Xk h hv)▸s1 e'
  ·cases v<;>first|exact(ns e').elim|exact(WW h hv)▸s1 e'
  ·cases v<;>first|exact(ns e').elim|exact(WI h hv)▸s1 e'
  ·cases v<;>first|exact(ns e').elim|exact Ac (WO h hv) λxs q q'=>Jj (f:=V.eqb n) (λ_ _ _ _ _ _=>Mc n) q q' e e'
  ·cases v<;>first|exact(ns e').elim|exact Ac (WJ h hv) λxs q q'=>Jj (f:=V.eqb n) (λ_ _ _ _ _ _=>Mc n) q q' e e'
theorem Mb {u:V}{x:Value}(h:Rv C g u x):(x==.none)=ag u/\handedIn x=true/\∀b t,x≠.float b t:=by
 cases u with
 |none=>exact NO h ⟨rfl,rfl,λ_ _ e=>nomatch e⟩
 |bool b=>exact OM h ⟨rfl,rfl,λ_ _ e=>nomatch e⟩
 |int i=>exact AK h λ_=>⟨rfl,rfl,λ_ _ e=>nomatch e⟩
 |str l=>exact CL h λ_ _=>⟨rfl,rfl,λ_ _ e=>nomatch e⟩
 |bytes l=>exact Cs h λ_ _ _=>⟨rfl,rfl,λ_ _ e=>nomatch e⟩
 |tup l=>exact D3 h λ_ _ _ _ _=>⟨rfl,rfl,λ_ _ e=>nomatch e⟩
 |lst l=>exact BJ h λ_ _ _ _ _=>⟨rfl,rfl,λ_ _ e=>nomatch e⟩
 |dct l=>exact Hl h λa o q _=>q▸⟨rfl,rfl,λ_ _ e=>nomatch e⟩
 |obj c l=>exact WB h λa d m q _=>q▸⟨rfl,rfl,λ_ _ e=>nomatch e⟩
 |ref n=>exact Ac h λa _ q=>q▸⟨rfl,rfl,λ_ _ e=>nomatch e⟩
 |rng _ _ _=>exact Ac h.2 λa q _=>q▸⟨rfl,rfl,λ_ _ e=>nomatch e⟩
theorem Q5 {n:Nat}(h:A.units+(n+1)<cLine):A.in1.units+n<cLine:=by simp only[Around.in1_units];exact((BM 0x12111120133312112113013a) h)
theorem XF {a b:List Nat}:decide (a=b)=((⟨a.toArray⟩:Str)==⟨b.toArray⟩):=by
 rw[Bool.eq_iff_iff,decide_eq_true_iff,beq_iff_eq]
 exact⟨λh=>h▸rfl,λh=>congrArg Array.toList (Str.mk.inj h)⟩
theorem XW {a b:List Nat}(h:∀x∈a,x<256)(h':∀x∈b,x<256):decide (a=b)=((a.map Nat.toUInt8).toArray.toList==(b.map Nat.toUInt8).toArray.toList):=by
 rw[Bool.eq_iff_iff,decide_eq_true_iff,beq_iff_eq]
 exact⟨λh=>h▸rfl,OL h h'⟩
theorem QY (K:Ok C g σ s){n:Nat}(ih:∀{u v:V}{x y:Value}{b:Bool},Rv C g u x->Rv C g v y->V.eqb n u v=some b->SeqAt.EqAt A.in1 s x y b)(hA:A.units<cLine){u v:V}{x y:Value}{b:Bool}(hu:Rv C g u x)(hv:Rv C g v y)(e:V.eqb (n+1) u v=some b):
  SeqAt.RcAt A s x y b/\SeqAt.RcNeAt A s x y (!b):=by
 have hel:∀{us vs:List V}{xs ys:List Value},Ak C g.F g.φ us xs->Ak C g.F g.φ vs ys->(∀j,j<us.length->j<vs.length->∃d,V.eqb n (us.getD j .none) (vs.getD j .none)=some d)->
   ∀j (h1:j<xs.toArray.size)(h2:j<ys.toArray.size),SeqAt.EqAt A.in1 s xs.toArray[j] ys.toArray[j] ((V.eqb n (us.getD j .none) (vs.getD j .none)).getD false):=λ{us vs xs ys} hx hy h j h1 h2=>by
  have h1:j<us.length:=hx.length▸h1
  have h2:j<vs.length:=hy.length▸h2
  refine AA (h j h1 h2) λd hd=>AA (hx.getD h1) λh3 r1=>AA (hy.getD h2) λh4 r2=>?_
  rw[hd];exact ih r1 r2 hd
 refine S5 (M:=λu v b=>Rv C g u x->Rv C g v y->SeqAt.RcAt A s x y b/\SeqAt.RcNeAt A s x y (!b)) e (λhu hv=>?_) (λa c hu hv=>?_) (λa c hu hv=>?_) (λa c hu hv=>?_) (λa c hu hv=>?_) (λa c e hu hv=>?_) (λa c e hu hv=>?_) hu hv
 ·refine NO hu ?_
  refine NO hv ?_
  exact⟨λprog w E Q h=>PySem.EqNone.eq_none_none h,.none_none⟩
 ·refine OM hu ?_
  refine OM hv ?_
  exact⟨λprog w E Q h=>eq_bool h,.bool_bool _ _⟩
 ·refine AK hu λt=>?_
  refine AK hv λt'=>?_
  exact⟨λprog w E Q h=>eq_int h,.int_int _ _ _ _⟩
 ·refine CL hu λt _=>?_
  refine CL hv λt' _=>?_
  rw[XF]
  exact⟨λprog w E Q h=>eq_str h,.str_str _ _ _ _⟩
 ·refine Cs hu λt _ hb=>?_
  refine Cs hv λt' _ hb'=>?_
  rw[XW hb hb']
  exact⟨λprog w E Q h=>eq_bytes h,λprog w E Q h=>ne_bytes h⟩
 ·refine D3 hu λp xs _ ha hx=>?_
  refine D3 hv λp' ys _ hb hy=>?_
  refine AU (HF e) λh q=>?_
  rw[q,show(List.range (min a.length c.length))=List.range (min xs.toArray.size ys.toArray.size) by rw[List.size_toArray,List.size_toArray,hx.length,hy.length],show decide (a.length=c.length)=(xs.toArray.size==ys.toArray.size) by rw[List.size_toArray,List.size_toArray,hx.length,hy.length];rfl]
  exact⟨.tuples (K.isTup ha) (K.isTup hb) hA (hel hx hy h),.tuples (K.isTup ha) (K.isTup hb) hA (hel hx hy h)⟩
 ·refine BJ hu λp xs _ ha hx=>?_
  refine BJ hv λp' ys _ hb hy=>?_
  refine AU (HF e) λh q=>?_
  have hs:xs.toArray.size=a.length:=hx.length
  have hs':ys.toArray.size=c.length:=hy.length
  by_cases hl:a.length=c.length
  ·rw[q,decide_eq_true hl,Bool.and_true,<-hl,Nat.min_self,<-hs]
   exact⟨.lists (K.isList ha) (K.isList hb) (hs.trans (hl.trans hs'.symm)) hA (hel hx hy h),.lists (K.isList ha) (K.isList hb) (hs.trans (hl.trans hs'.symm)) hA (hel hx hy h)⟩
  ·have hne:(xs.toArray.size !=ys.toArray.size)=true:=bne_iff_ne.mpr λz=>hl (hs.symm.trans (z.trans hs'))
   rw[q,decide_eq_false hl,Bool.and_false]
   exact⟨.lists_lengths (K.isList ha) (K.isList hb) hne hA,.lists_lengths (K.isList ha) (K.isList hb) hne hA⟩
theorem KD (K:Ok C g σ s):∀(n:Nat){A:Around}{u v:V}{x y:Value}{b:Bool},A.units+n<cLine->Rv C g u x->Rv C g v y->V.eqb n u v=some b->
  SeqAt.RcAt A s x y b/\SeqAt.EqAt A s x y b
 |0,_,_,_,_,_,_,_,_,_,e=>(ns e).elim
 |n+1,A,u,v,x,y,b,hA,hu,hv,e=>by
  have h:SeqAt.RcAt A s x y b:=(QY K (λr1 r2 e=>(KD K n (Q5 hA) r1 r2 e).2) (Nat.lt_of_le_of_lt (Nat.le_add_right _ _) hA) hu hv e).1
  refine⟨h,?_⟩
  by_cases q:x=y
  ·subst q
   rw[IW (n+1) hu hv e]
   exact .same _
  ·exact λprog w E Q hq=>by
    skip
    refine wpAny_holding ?_
    refine wpAny_ite_split (λhab=>absurd (eq_of_beq hab) q) (λ_=>?_)
    cases x<;>first|exact wpAny_bind (h prog w E _ (wpAny_truthy_bool hq))|exact absurd rfl ((Mb hu).2.2 _ _)
noncomputable def GS.py:GS->CmpOp
 |.lt=>.Lt
 |.le=>.LtE
 |.gt=>.Gt
 |.ge=>.GtE
 |.eq=>.Eq
 |.ne=>.NotEq
 |.isIn=>.In
 |.notIn=>.NotIn
 |.isNone=>.Is
 |.isNotNone=>.IsNot
open Classical in
noncomputable def hit (C:Cx)(g:Gh)(u:V)(l:List V)(y:Value):Bool:=decide (∃v∈l,Rv C g v y/\V.eqb 8 v u=some true)
theorem fg {u y:V}{r:List V}{b:Bool}{M:Bool->Prop}(e:Hf u (y::r)=some b)(k:∀c d,V.eqb 8 y u=some c->Hf u r=some d->M (c||d)):M b:=by
 replace e:(match V.eqb 8 y u,Hf u r with|some a,some b=>some (a||b)|_,_=>none)=some b:=e
 cases h:V.eqb 8 y u with
 |none=>rw[h] at e;exact(ns e).elim
 |some d=>
  rw[h] at e
  cases h':Hf u r with
  |none=>rw[h'] at e;exact(ns e).elim
  |some d'=>rw[h'] at e;exact s1 e▸k d d' h h'
open Classical in
theorem ZS {u v:V}{l:List V}{y:Value}{d:Bool}(hv:v∈l)(r:Rv C g v y)(hd:V.eqb 8 v u=some d):hit C g u l y=d:=by
 skip
 cases d with
 |true=>exact decide_eq_true ⟨v,hv,r,hd⟩
 |false=>exact decide_eq_false λh=>CP h λw hw r' e'=>tf (Mc 8 r' r e' hd)
theorem QO {u:V}{jO:List V}:∀{l:List V}{xs:List Value}{b:Bool},(∀v∈l,v∈jO)->Ak C g.F g.φ l xs->Hf u l=some b->xs.any (hit C g u jO)=b/\∀y∈xs,∃v∈jO,Rv C g v y/\V.eqb 8 v u=some (hit C g u jO y)
 |[],xs,b,_,h,e=>by
  refine C9 h ?_
  exact s1 e▸⟨rfl,λy h=>nomatch h⟩
 |v::l,xs,b,hl,h,e=>by
  refine BR h λx r h1 h2=>?_
  have e:(match V.eqb 8 v u,Hf u l with|some a,some b=>some (a||b)|_,_=>none)=some b:=e
  refine fg (M:=λb=>(x::r).any (hit C g u jO)=b/\_) e λc d q q'=>?_
  have hx:=ZS (hl v List.mem_cons_self) h1 q
  refine AU (QO (λw hw=>hl w (List.mem_cons_of_mem _ hw)) h2 q') λa1 a2=>⟨by rw[List.any_cons,hx,a1],λy hy=>(List.mem_cons.1 hy).elim (λe=>?_) (a2 y)⟩
  rw[e,hx]
  exact⟨v,hl v List.mem_cons_self,h1,q⟩
theorem Yg {u:V}{l:List V}{xs:List Value}{b:Bool}(hl:Ak C g.F g.φ l xs)(e:Hf u l=some b):xs.any (hit C g u l)=b/\∀y∈xs,∃v∈l,Rv C g v y/\V.eqb 8 v u=some (hit C g u l y):=
 QO (λ_ h=>h) hl e
end
end Mine.Internal
end
section
set_option maxRecDepth 10000
namespace Mine.Internal
open PySem PySem.Calls PyProof.Rows PySem.W
section
variable {C:Cx}{A:Around}{g:Gh}{σ:St}{s:Shared}
noncomputable def Ga (C:Cx)(g:Gh){K:Type} [DecidableEq K] (kvs:List (K×Value))(k:K)(r:Option V):Prop:=
 match r with
 |none=>valueAt kvs k=none
 |some v=>∃x,valueAt kvs k=some x/\Rv C g v x
theorem Ce {K:Type} [DecidableEq K] (k k':K)(x:Value)(l:List (K×Value)):valueAt ((k,x)::l) k'=if k=k' then some x else valueAt l k':=by
 unfold valueAt
 rw[List.find?_cons]
 by_cases h:k=k'
 ·simp[h]
 ·simp[h]
theorem Hz {c:List Nat}:∀{l:List (V×V)}{kvs:List (Str×Value)}{r:Option V},BK C g.F g.φ l kvs->keyOf (.str c) l=some r->Ga C g kvs ⟨c.toArray⟩ r
 |[],kvs,r,h,e=>by
  have h:_=_:=h;subst h;refine AZ e ?_;rfl
 |(k,v)::l,kvs,r,h,e=>by
  obtain⟨k',x,rest,rfl,⟨d,rfl,hd,rfl⟩,hx,hr⟩:=h
  unfold keyOf at e
  have eb:V.eqb 8 (.str d) (.str c)=some (decide (d=c)):=rfl
  simp only[eb] at e
  by_cases q:d=c
  ·subst q
   simp only[decide_true] at e
   refine AZ e ?_
   exact⟨x,by rw[Ce,if_pos rfl],hx⟩
  ·simp only[decide_eq_false q] at e
   have ih:=Hz hr e
   have ne:¬(⟨d.toArray⟩:Str)=⟨c.toArray⟩:=λh=>q (by injection h with h;exact congrArg Array.toList h)
   unfold Ga at ih ⊢
   cases r with
   |none=>simp only[Ce,if_neg ne];exact ih
   |some v=>simp only[Ce,if_neg ne];exact ih
theorem He {c:Int}:∀{l:List (V×V)}{kvs:List (Int×Value)}{r:Option V},B6 C g.F g.φ l kvs->keyOf (.int c) l=some r->Ga C g kvs c r
 |[],kvs,r,h,e=>by
  have h:_=_:=h;subst h;refine AZ e ?_;rfl
 |(k,v)::l,kvs,r,h,e=>by
  obtain⟨k',x,rest,rfl,rfl,hx,hr⟩:=h
  unfold keyOf at e
  have eb:V.eqb 8 (.int k') (.int c)=some (decide (k'=c)):=rfl
  simp only[eb] at e
  by_cases q:k'=c
  ·subst q
   simp only[decide_true] at e
   refine AZ e ?_
   exact⟨x,by rw[Ce,if_pos rfl],hx⟩
  ·simp only[decide_eq_false q] at e
   have ih:=He hr e
   unfold Ga at ih ⊢
   cases r with
   |none=>simp only[Ce,if_neg q];exact ih
   |some v=>simp only[Ce,if_neg q];exact ih
theorem Jx {prog:Program}{w:World}{K K':Type} [DecidableEq K] [DecidableEq K'] {knd:PySem.KeyKind prog w K}{knd':PySem.KeyKind prog w K'}{o:Obj}(h:o.IsDictOf knd []):o.IsDictOf knd' []:=by
 refine IC h λes ep h1 h2 h3 h4 h5=>?_
 have e:es=#[]:=by
  have:=h4.length
  simpa using this
 subst e
 exact⟨_,ep,h1,h2,(λe he=>by simp at he),.nil,by simp⟩
theorem Rt {o:Obj}{c:List Nat}{l:List (V×V)}{r:Option V}(h:Cu C g o l)(e:keyOf (.str c) l=some r):∃kvs,o.IsDictOf (PySem.strKind C.prog C.w) kvs/\BK C g.F g.φ l kvs:=by
 rcases h with h|⟨kvs,hd,h⟩
 ·exact h
 ·cases l with
  |nil=>have h:_=_:=h;subst h;exact⟨[],Jx hd,by rfl⟩
  |cons p l=>
   refine iN h λk' x rest hk _ _=>?_
   unfold keyOf at e
   rw[hk] at e
   exact(ns e).elim
theorem QG {o:Obj}{c:Int}{l:List (V×V)}{r:Option V}(h:Cu C g o l)(e:keyOf (.int c) l=some r):∃kvs,o.IsDictOf (PySem.intKind C.prog C.w) kvs/\B6 C g.F g.φ l kvs:=by
 rcases h with⟨kvs,hd,h⟩|h
 ·cases l with
  |nil=>have h:_=_:=h;subst h;exact⟨[],Jx hd,by rfl⟩
  |cons p l=>
   obtain⟨k',x,rest,rfl,⟨_,hk,_⟩,_,_⟩:=h
   unfold keyOf at e
   rw[hk] at e
   exact(ns e).elim
 ·exact h
theorem Ga.isSome {K:Type} [DecidableEq K] {kvs:List (K×Value)}{k:K}{r:Option V}(h:Ga C g kvs k r):(valueAt kvs k).isSome=r.isSome:=by
 cases r with
 |none=>simp only[Ga] at h;rw[h];rfl
 |some v=>refine Ac h λx h _=>?_;rw[h];rfl
theorem TN (K:Ok C g σ s){u:V}{x:Value}(hx:Rv C g u x){a:Addr}{o:Obj}{l:List (V×V)}(ha:s.heap.get? a=some o)(hs:(a==sysModules)=false)(hd:Cu C g o l)(hk:D0 u=true){r:Option V}(e:keyOf u l=some r):
  Wp C A (compareOp .In x (.ref a)) (Aa C (Rv C) g s σ (.bool r.isSome)) s/\Wp C A (compareOp .NotIn x (.ref a)) (Aa C (Rv C) g s σ (.bool (!r.isSome))) s:=by
 cases u<;>simp only[D0] at hk<;>first|exact(ft hk).elim;done|skip
 ·rename_i i
  refine Ac (QG hd e) λkvs h1 h2=>?_
  refine AK hx λt=>?_
  have q:=He h2 e
  have m:=(Heap.dictOf_iff.mpr ⟨o,ha,h1⟩).mapOf
  exact⟨wpAny_in_of (show(PySem.intKind C.prog C.w).is i (.int i t)=true by simp[PySem.intKind,Value.isInt]) hs m (by rw[q.isSome];exact Aa.tok K _ A9),wpAny_notIn_of (show(PySem.intKind C.prog C.w).is i (.int i t)=true by simp[PySem.intKind,Value.isInt]) hs m (by rw[q.isSome];exact Aa.tok K _ A9)⟩
 ·rename_i i
  refine Ac (Rt hd e) λkvs h1 h2=>?_
  refine CL hx λt _=>?_
  have q:=Hz h2 e
  have m:=(Heap.dictOf_iff.mpr ⟨o,ha,h1⟩).mapOf
  exact⟨wpAny_in_of (show(PySem.strKind C.prog C.w).is ⟨i.toArray⟩ (.str ⟨i.toArray⟩ t)=true by simp[PySem.strKind,Value.isStrOf]) hs m (by rw[q.isSome];exact Aa.tok K _ A9),wpAny_notIn_of (show(PySem.strKind C.prog C.w).is ⟨i.toArray⟩ (.str ⟨i.toArray⟩ t)=true by simp[PySem.strKind,Value.isStrOf]) hs m (by rw[q.isSome];exact Aa.tok K _ A9)⟩
theorem ff (K:Ok C g σ s){u v:V}{x y:Value}{b:Bool}(hA:A.units+8<cLine)(hu:Rv C g u x)(hv:Rv C g v y)(e:V.eqb 8 u v=some b):SeqAt.RcNeAt A s x y (!b):=
 (QY K (λr1 r2 e=>(KD K 7 (Q5 hA) r1 r2 e).2) (Nat.lt_of_le_of_lt (Nat.le_add_right _ _) hA) hu hv e).2
theorem NU {f:Int->Int->Bool}{u v:V}{c:Bool}{x y:Value}{M:Value->Value->Bool->Prop}(hx:Rv C g u x)(hy:Rv C g v y)(e:Oq f u v=some c)(k:∀a t b u,M (.int a t) (.int b u) (f a b)):M x y c:=by
 cases u<;>first|exact(ns e).elim|skip
 cases v<;>first|exact(ns e).elim|skip
 refine AK hx λt=>?_
 refine AK hy λu=>?_
 exact s1 e▸k _ _ _ _
theorem Uu (K:Ok C g σ s)(hA:A.units+16<cLine){u v:V}{c:Bool}{x y:Value}(hx:Rv C g u x)(hy:Rv C g v y)(e:SD u v=some c):
  Wp C A (compareOp .In x y) (Aa C (Rv C) g s σ (.bool c)) s/\Wp C A (compareOp .NotIn x y) (Aa C (Rv C) g s σ (.bool !c)) s:=by
 have hin:∀{l:List V}{xs:List Value}{b:Bool},Ak C g.F g.φ l xs->Hf u l=some b->(xs.toArray.any (hit C g u l)=b)/\∀y∈xs.toArray,SeqAt.EqAt A.in1 s y x (hit C g u l y):=by
  intro l xs b hl e
  refine AU (Yg hl e) λh1 h2=>?_
  exact⟨List.any_toArray.trans h1,λy hy=>CP (h2 y (List.mem_toArray.1 hy)) λv hv r q=>(KD K 8 (by simp only[Around.in1_units];exact((AR 0x1111821201333111282013a) hA)) r hx q).2⟩
 cases v<;>first|exact(ns e).elim|skip
 ·refine D3 hy λa xs _ ha hl=>?_
  refine AU (hin hl e) λh1 h2=>?_
  exact⟨SeqAt.in_tupleAt _ (K.isTup ha) h2 (h1▸Aa.here K A9),SeqAt.notIn_tupleAt _ (K.isTup ha) h2 (h1▸Aa.here K A9)⟩
 ·refine BJ hy λa xs _ ha hl=>?_
  refine AU (hin hl e) λh1 h2=>?_
  exact⟨SeqAt.in_listAt _ (K.isList ha) h2 (h1▸Aa.here K A9),SeqAt.notIn_listAt _ (K.isList ha) h2 (h1▸Aa.here K A9)⟩
 ·refine AJ e λhk e=>Hl hy λa o q hy=>BH hy λhs hF hd=>?_
  refine CG e λr e1=>?_
  rw[q]
  exact TN K hx (K.fz _ _ hF) hs hd hk e1
theorem Pz (K:Ok C g σ s)(hA:A.units+16<cLine){o:GS}{u v:V}{c:Bool}{x y:Value}(hx:Rv C g u x)(hy:Rv C g v y)(e:Av o u v=some c):
  Wp C A (compareOp o.py x y) (Aa C (Rv C) g s σ (.bool c)) s:=by
 have no:∀{d}{M:Value->Bool->Prop},KJ u v=some d->M .none (x==.none)->M y d:=λ{d M} e k=>by
  cases v<;>first|exact(ns e).elim|skip
  refine NO hy ?_
  exact s1 e▸(Mb hx).1▸k
 cases o with
 |lt=>exact NU (M:=λx y c=>Wp C A (compareOp .Lt x y) (Aa C (Rv C) g s σ (.bool c)) s) hx hy e λ_ _ _ _=>lt_int (Aa.here K A9)
 |le=>exact NU (M:=λx y c=>Wp C A (compareOp .LtE x y) (Aa C (Rv C) g s σ (.bool c)) s) hx hy e λ_ _ _ _=>le_int (Aa.here K A9)
 |gt=>exact NU (M:=λx y c=>Wp C A (compareOp .Gt x y) (Aa C (Rv C) g s σ (.bool c)) s) hx hy e λ_ _ _ _=>gt_int (Aa.here K A9)
 |ge=>exact NU (M:=λx y c=>Wp C A (compareOp .GtE x y) (Aa C (Rv C) g s σ (.bool c)) s) hx hy e λ_ _ _ _=>ge_int (Aa.here K A9)
 |eq=>exact(KD K 8 (by exact((AR 0x1111820133111282013a) hA)) hx hy e).1 _ _ _ _ (Aa.here K A9)
 |ne=>
  refine CG (show(V.eqb 8 u v).map (!·)=some c from e) λb e1=>?_
  exact ff K (by exact((AR 0x1111820133111282013a) hA)) hx hy e1 _ _ _ _ (Aa.here K A9)
 |isIn=>exact(Uu K hA hx hy e).1
 |notIn=>
  refine CG (show(SD u v).map (!·)=some c from e) λb e1=>?_
  exact(Uu K hA hx hy e1).2
 |isNone=>exact no (M:=λy c=>Wp C A (compareOp .Is x y) (Aa C (Rv C) g s σ (.bool c)) s) (show KJ u v=some c from e) (is_none (Aa.here K A9))
 |isNotNone=>
  refine CG (show(KJ u v).map (!·)=some c from e) λb e1=>?_
  exact no (M:=λy c=>Wp C A (compareOp .IsNot x y) (Aa C (Rv C) g s σ (.bool !c)) s) e1 (isNot_none (Aa.here K A9))
end
end Mine.Internal
end
section
set_option maxRecDepth 10000
namespace Mine.Internal
open PySem PySem.Calls PyProof.Rows PySem.W
section
variable {C:Cx}{A:Around}{g:Gh}{σ:St}{s:Shared}
theorem CW {prog:Program}{w:World}{E:Value->Shared->Prop}{value slice:Expr}{o i:Value}{T id:String}{Q:Value->Shared->Prop}(hT:s.TypeIs o T)
  (hl:typeLookup (.type T) "__getitem__"=pure (some (.builtin id)))(h:wpAny (model prog w) A (getItem o i) Q E s):
  wpAny (model prog w) A (subscriptTail value slice o i) Q E s:=by
 skip
 refine wpAny_bind ?_
 rw[getitemInPython_of_ne hT.not_modules]
 refine wpAny_bind (wpAny_specialOf hT hl ?_)
 have fin:wpAny (model prog w) A (subscripted slice false o i) (λr jK=>wpAny (model prog w) A (letTemporaryGo value o r>>=λ_=>pure r) Q E jK) E s:=by
  have k:∀l,wpAny (model prog w) A (operate l (getItem o i)) (λr jK=>wpAny (model prog w) A (letTemporaryGo value o r>>=λ_=>pure r) Q E jK) E s:=λl=>
   wpAny_operating (wpAny_mono h (λr jK h₃=>wpAny_bind (wpAny_letTemporaryGo (wpAny_pure h₃))) λ_ _ x=>x)
  cases slice with
  |Slice a b c p=>cases c<;>exact k _
  |_=>exact k _
 first
  |exact wpAny_pure (wpAny_bind fin)
  |exact wpAny_bind (wpAny_pure (wpAny_bind fin))
  |exact wpAny_bind fin
theorem GA {i:Int}{n k:Nat}(e:place i n=some k):k<n/\seqIndex? i n=some k/\((0<=i/\k=i.toNat)\/(i<0/\ -(n:Int)<=i/\k=(i+n).toNat)):=by
 unfold place at e
 split at e
 ·rename_i h
  have h:=of_decide_eq_true h
  refine AJ e λh2 e=>?_
  refine AZ e ?_
  have h2:=Nat.le_of_ble_eq_true h2
  refine⟨h2,?_,.inl ⟨h,rfl⟩⟩
  have c:¬i<0:=by exact(Int.not_lt.mpr ((Aj 0x100020100025) h))
  simp only[seqIndex?,if_neg c]
  rw[if_pos]
  simp only[Bool.and_eq_true,decide_eq_true_eq]
  exact⟨h,((E9 0x11180011000188111120139) h2 (Int.toNat_of_nonneg h))⟩
 ·rename_i h
  have h:=of_decide_eq_false h
  refine AJ e λh2 e=>?_
  refine AZ e ?_
  have h2:=of_decide_eq_true h2
  refine⟨by exact((E9 0x11101310011830187102006) (Int.not_le.mp h) (Int.toNat_of_nonneg ((E0 0x100018302010001875) h2))),?_,.inr ⟨by exact((Aj 0x102001102006) (Int.not_le.mp h)),h2,by rw[Int.add_comm]⟩⟩
  have c:i<0:=by exact((Aj 0x102001102006) (Int.not_le.mp h))
  simp only[seqIndex?,if_pos c]
  rw[if_pos,Int.add_comm]
  skip
  lia
theorem QE {α:Type}:∀{l:List α}{n:Nat}{x:α},nth l n=some x->l[n]?=some x
 |[],_,_,e=>(ns e).elim
 |a::l,0,x,e=>e
 |a::l,n+1,x,e=>QE (l:=l) (n:=n) e
theorem G_ (K:Ok C g σ s){a:Addr}{xs:List Value}{l:List V}{i:Int}{t:Tok}{c:V}(hl:s.heap.IsList a xs.toArray)(hx:Ak C g.F g.φ l xs)(hz:l.length<=line)(e:(place i l.length).bind (nth l)=some c):
  Wp C A (getItem (.ref a) (.int i t)) (Aa C (Rv C) g s σ c) s:=by
 refine Ai e λk e1 e=>BH (GA e1) λh1 h2 h3=>Ac (hx.nth e) λx hxk r=>?_
 have hsz:xs.toArray.size=l.length:=hx.length
 have hxk:xs.toArray[k]?=some x:=List.getElem?_toArray.trans hxk
 simp only[line] at hz
 refine h3.elim (λh=>?_) λh=>?_
 ·exact wpAny_getItem_list hl h.1 (by lia) (h.2▸hxk) (Aa.here K r)
 ·exact wpAny_getItem_list_neg hl h.1 (by exact((E9 0x100018701001187511101c) hsz h.2.1)) (by lia) (by rw[hsz];exact h.2.2▸hxk) (Aa.here K r)
theorem dC {v:V}{M:V->Prop}(h:D0 v=true)(k1:∀i,M (.int i))(k2:∀i,M (.str i)):M v:=by
 cases v with
 |int i=>exact k1 i
 |str i=>exact k2 i
 |_=>exact(ft h).elim
theorem Ym (K:Ok C g σ s){value slice:Expr}{u v c:V}{x y:Value}(hx:Rv C g u x)(hy:Rv C g v y)(e:OO u v=some c):
  Wp C A (subscriptTail value slice x y) (Aa C (Rv C) g s σ c) s:=by
 cases u<;>first|exact(ns e).elim|skip
 ·cases v<;>first|exact(ns e).elim|skip
  rename_i l i
  refine Cs hx λt hz hb=>?_
  refine AK hy λu=>AJ e λh0 e=>?_
  have h0:=of_decide_eq_true h0
  refine CG e λb e1=>?_
  have e2:=QE e1
  have h1:i.toNat<l.length:=(List.getElem?_eq_some_iff.1 e2).1
  have hbm:b<256:=hb b (List.mem_of_getElem? e2)
  simp only[line] at hz
  refine CW (typeIs_bytes _ _ _) FB.slot_bytes_getitem.lookup (getItem_bytes (l:=l.map Nat.toUInt8) (by simp;exact((Ao 0x128888888888888201211888888882019) hz)) h0 (by simp;exact((E9 0x1118001100018811101a) h1 (Int.toNat_of_nonneg h0))) (Aa.tok K _ ?_))
  have e3:(l.map Nat.toUInt8).getD i.toNat 0=b.toUInt8:=by simp[List.getD,e2]
  have e4:b.toUInt8.toNat=b:=by simp only[Nat.toUInt8,UInt8.toNat_ofNat'];lia
  rw[e3,e4];exact AW
 ·cases v<;>first|exact(ns e).elim|skip
  refine D3 hx λa xs hz ha hl=>?_
  refine AK hy λu=>Ai e λk e1 e=>BH (GA e1) λh1 h2 h3=>Ac (hl.nth e) λx hxk r=>?_
  have hsz:xs.toArray.size=_:=hl.length
  simp only[line] at hz
  exact CW (K.isTup ha).typeIs slot_tuple_getitem.lookup (getItem_tuple (K.isTup ha) (by lia) (by lia) (by rw[hsz];exact h2) (by simpa using hxk) (Aa.here K r))
 ·cases v<;>first|exact(ns e).elim|skip
  refine BJ hx λa xs hz ha hl=>?_
  refine AK hy λt=>?_
  exact CW (K.isList ha).typeIs list_getitem_lookup (G_ K (K.isList ha) hl hz e)
 ·rename_i l
  refine AJ e λhk e=>Ai e λr e1 e2=>Hl hx λa o q hx=>BH hx λhs hF hd=>?_
  have e2:r=some c:=e2
  rw[q]
  rw[e2] at e1
  have hg:=K.fz _ _ hF
  refine dC (M:=λv=>Rv C g v y->keyOf v l=some (some c)->Wp C A (subscriptTail value slice (.ref a) y) (Aa C (Rv C) g s σ c) s) hk (λi hy e1=>?_) (λi hy e1=>?_) hy e1
  ·refine AK hy λt=>Ac (QG hd e1) λkvs h1 h2=>Ac (He h2 e1) λz q r=>?_
   have m:=Heap.dictOf_iff.mpr ⟨o,hg,h1⟩
   exact CW m.typeIs slot_dict_getitem.lookup (wpAny_getItem_of (show(PySem.intKind C.prog C.w).is i (.int i t)=true by simp[PySem.intKind,Value.isInt]) m.mapOf q (Aa.tok K _ r))
  ·refine CL hy λt _=>Ac (Rt hd e1) λkvs h1 h2=>Ac (Hz h2 e1) λz q r=>?_
   have m:=Heap.dictOf_iff.mpr ⟨o,hg,h1⟩
   exact CW m.typeIs slot_dict_getitem.lookup (wpAny_getItem_of (show(PySem.strKind C.prog C.w).is ⟨i.toArray⟩ (.str ⟨i.toArray⟩ t)=true by simp[PySem.strKind,Value.isStrOf]) m.mapOf q (Aa.tok K _ r))
theorem YI (i:Int)(n:Nat):((Dy i n:Nat):Int)=max 0 (min (if i<0 then i+n else i) n):=by
 unfold Dy
 cases h:decide (0<=i) with
 |true=>
  have h:=of_decide_eq_true h
  rw[if_neg (Int.not_lt.mpr h)]
  cases h2:Nat.blt i.toNat n with
  |true=>
   have h2:=Nat.le_of_ble_eq_true h2
   show(i.toNat:Int)=_
   rw[Int.min_eq_left (by exact((E9 0x11180001000188111120139) h2 (Int.toNat_of_nonneg h))),Int.max_eq_right h,Int.toNat_of_nonneg h]
  |false=>
   have h2:n<=i.toNat:=Nat.not_lt.mp λh3=>ft (h2.symm.trans (Nat.ble_eq_true_of_le h3))
   show(n:Int)=_
   rw[Int.min_eq_right (by exact((E9 0x10001801001187111019) h2 (Int.toNat_of_nonneg h))),Int.max_eq_right (Int.natCast_nonneg n)]
 |false=>
  have h:=Int.not_le.mp (of_decide_eq_false h)
  rw[if_pos h,Int.min_eq_left (by exact((E0 0x10180180030102006) h)),Int.add_comm,Int.max_comm]
  exact Int.toNat_eq_max _
noncomputable def OW (lo:Option Int)(n:Nat):Nat:=match lo with|some i=>Dy i n|none=>0
noncomputable def NY (hi:Option Int)(n:Nat):Nat:=match hi with|some i=>Dy i n|none=>n
theorem DH {α:Type}(l:List α)(lo hi:Option Int):cut l lo hi=(l.drop (OW lo l.length)).take (NY hi l.length - OW lo l.length):=by
 cases lo<;>cases hi<;>rfl
theorem FZ (lo hi:Option Int)(n:Nat):sliceBounds lo hi none n=((OW lo n:Int),(NY hi n:Int),1):=by
 unfold sliceBounds
 cases lo<;>cases hi<;>simp[OW,NY,YI]
theorem Vz (xs:List Value)(lo hi:Option Int):slicePick xs.toArray lo hi none=(cut xs lo hi).toArray:=by
 unfold slicePick
 rw[FZ,sliceRange_one,pick_run,DH]
 rfl
theorem JT (xs:List UInt8)(lo hi:Option Int):KBy.picked xs.toArray lo hi=(cut xs lo hi).toArray:=by
 unfold KBy.picked Builtin.Bytes.sliced
 rw[FZ,sliceRange_one,pick_run,DH]
 rfl
theorem Y8 {α β:Type}(f:α->β)(l:List α)(lo hi:Option Int):cut (l.map f) lo hi=(cut l lo hi).map f:=by
 rw[DH,DH];simp[List.map_take,List.map_drop]
theorem F0 {α:Type}(l:List α)(lo hi:Option Int):(cut l lo hi).length<=l.length:=by
 rw[DH,List.length_take,List.length_drop];exact Nat.le_trans (Nat.min_le_right _ _) (Nat.sub_le _ _)
theorem XC {α:Type}{l:List α}{lo hi:Option Int}{x:α}(h:x∈cut l lo hi):x∈l:=by
 rw[DH] at h
 exact List.mem_of_mem_drop (List.mem_of_mem_take h)
theorem Ak.drop:∀{l:List V}{xs:List Value}(n:Nat),Ak C g.F g.φ l xs->Ak C g.F g.φ (l.drop n) (xs.drop n)
 |_,_,0,h=>h
 |[],xs,n+1,h=>by refine C9 h ?_;rfl
 |v::l,xs,n+1,h=>by refine BR h λx r hx hr=>?_;exact hr.drop n
theorem Hj {v:V}{l:List V}{x:Value}{r:List Value}(h1:Rv C g v x)(h2:Ak C g.F g.φ l r):Ak C g.F g.φ (v::l) (x::r):=⟨x,r,rfl,h1,h2⟩
theorem Ak.take:∀{l:List V}{xs:List Value}(n:Nat),Ak C g.F g.φ l xs->Ak C g.F g.φ (l.take n) (xs.take n)
 |_,_,0,h=>rfl
 |[],xs,n+1,h=>by refine C9 h ?_;rfl
 |v::l,xs,n+1,h=>by refine BR h λx r hx hr=>?_;exact Hj hx (hr.take n)
theorem Ak.cut {l:List V}{xs:List Value}(h:Ak C g.F g.φ l xs)(lo hi:Option Int):Ak C g.F g.φ (Mine.Internal.cut l lo hi) (Mine.Internal.cut xs lo hi):=by
 rw[DH,DH,h.length]
 exact(h.drop _).take _
theorem Ak.reverse:∀{l:List V}{xs:List Value},Ak C g.F g.φ l xs->Ak C g.F g.φ l.reverse xs.reverse
 |[],xs,h=>by refine C9 h ?_;rfl
 |v::l,xs,h=>by
  refine BR h λx r hx hr=>?_
  rw[List.reverse_cons,List.reverse_cons]
  exact hr.reverse.append (Hj hx rfl)
theorem VP (xs:List Value):slicePick xs.toArray none none (some 1)=xs.toArray:=by
 have h:sliceBounds none none (some 1) xs.toArray.size=(((0:Nat):Int),((xs.length:Nat):Int),1):=by
  rfl
 unfold slicePick
 rw[h]
 simp only
 rw[sliceRange_one,pick_run]
 simp
theorem Rw (n:Nat):sliceRange ((n:Int) - 1) (-1) (-1)=(List.range n).map (λk=>n - 1 - k):=by
 unfold sliceRange
 have h:¬((-1:Int)>0):=by lia
 simp only[if_neg h]
 have e:(if(n:Int) - 1> -1 then((n:Int) - 1 - -1 - -1 - 1)/(- -1) else 0).toNat=n:=by
  split<;>simp<;>exact(Nat.le_antisymm (Ao 0x101022102014) ((Ao 0x10201211271201845) (Int.not_lt.mp ‹¬↑n - 1> -1›)))
 rw[e]
 apply List.map_congr_left
 intro k hk
 have:=List.mem_range.1 hk
 lia
theorem Mx (xs:List Value):∀n,n<=xs.length->((List.range n).map (λk=>n - 1 - k)).filterMap (xs.toArray[·]?)=(xs.take n).reverse
 |0,_=>by simp
 |n+1,h=>by
  rw[List.range_succ_eq_map,List.map_cons,List.filterMap_cons,List.map_map]
  have e:((λk=>n+1 - 1 - k)∘Nat.succ)=λk=>n - 1 - k:=by funext k;simp only[Function.comp];lia
  rw[e,Mx xs n (by exact((AR 0x111012111120139) h))]
  have h1:xs.toArray[n+1 - 1 - 0]?=some xs[n]:=by simp
  rw[h1,List.take_add_one,List.getElem?_eq_getElem (by exact((AR 0x111013111120139) h))]
  rw[Option.toList_some,List.reverse_append];rfl
theorem Vj (xs:List Value):slicePick xs.toArray none none (some (-1))=xs.reverse.toArray:=by
 have h:sliceBounds none none (some (-1)) xs.toArray.size=((xs.length:Int) - 1, -1, -1):=by
  rfl
 unfold slicePick
 rw[h]
 simp only
 rw[Rw,Mx xs _ (Nat.le_refl _)]
 simp
theorem X0 {c:Prop} [Decidable c] {X Y:Prop}(hc:c)(h:X):if c then X else Y:=by
 rw[if_pos hc]
 exact h
open Builtin in
theorem PW (b:Array UInt8)(t:Tok)(a:Addr){l u:Value}{lo hi:Option Int}(hl:IsPart l lo)(hu:IsPart u hi)(hne:KBy.whole b lo hi=true):
  Meets («bytes.__getitem__» ⟨[.bytes b t,.ref a],[]⟩) (λ_ R s=>s.heap.IsSliceOf a l u .none/\R (.ok (.ret (.bytes b t))) s):=by
 refine .of_wp λprog w A R s hS=>?_
 obtain⟨⟨o,ho,hc,hd⟩,h⟩:=hS
 have hT:s.TypeIs (.ref a) "slice":=⟨o,ho,hc⟩
 show wpAny _ _ (Bytes.payload (.bytes b t)>>=λr=>_) _ _ s
 refine wpAny_bind (wpAny_of_eq (a:=b) rfl ?_)
 show wpAny _ _ (Bytes.subscript? (.ref a)>>=λr=>_) _ _ s
 refine wpAny_bind ?_
 unfold Bytes.subscript?
 refine wpAny_bind (wpAny_specialOf hT slice_no_index (wpAny_pure ?_))
 refine wpAny_bind (wpAny_typeOf hT ?_)
 show wpAny _ _ (Bytes.sliceParts (.ref a)>>=λr=>_) _ _ s
 refine wpAny_bind ?_
 skip
 refine wpAny_bind (wpAny_field (x:=.none) ho hd rfl ?_)
 kby_none
 refine wpAny_ite (KBy.ite_no (show ¬((Value.none==rawInt 0)=true) from Bool.false_ne_true) ?_)
 refine wpAny_bind (wpAny_field (x:=l) ho hd rfl ?_)
 have go:wpAny (model prog w) A.in1 (sliceIndices (rawPart lo) (rawPart hi) (rawPart none) b.size) (λr s'=>r=sliceBounds lo hi none b.size/\s'=s) (λ_ _=>False) s:=
  wpAny_of_eq (sliceIndices_raw lo hi none b.size (λe=>nomatch e)) ⟨rfl,rfl⟩
 cases hl<;>cases hu<;>(first
  |(kby_none;(refine wpAny_bind (wpAny_field (x:=.none) ho hd rfl ?_));kby_none)
  |(kby_none;(refine wpAny_bind (wpAny_field (x:=.int _ _) ho hd rfl ?_));kby_int)
  |(kby_int;(refine wpAny_bind (wpAny_field (x:=.none) ho hd rfl ?_));kby_none)
  |(kby_int;(refine wpAny_bind (wpAny_field (x:=.int _ _) ho hd rfl ?_));kby_int))<;>refine wpAny_pure ?_
 all_goals
  refine wpAny_bind (wpAny_mono go (λr s' hr=>?_) λ_ _ e=>e.elim)
  obtain⟨hr1,hr2⟩:=hr
  subst hr1 hr2
  refine wpAny_ite (X0 hne ?_)
  refine wpAny_bind (wpAny_typeOf (typeIs_bytes _ b t) ?_)
  exact wpAny_bind (wpAny_rule (wpAny_pure ⟨_,rfl,h⟩))
theorem VF (K:Ok C g σ s){value slice:Expr}{u c:V}{x vl vu vs:Value}{lo hi st:Option Int}(hx:Rv C g u x)(pl:IsPart vl lo)(pu:IsPart vu hi)(ps:IsPart vs st)(e:FT u lo hi st=some c):
  Wp C A (subscriptTail value slice x (.ref s.heap.objs.size)) (Aa C (Rv C) g s σ c) {s with heap:=s.heap.push {cls:=.type "slice",data:=.fields #[vl,vu,vs]}}:=by
 refine Cz (K.push (s':={s with heap:=s.heap.push {cls:=.type "slice",data:=.fields #[vl,vu,vs]}}) rfl rfl rfl rfl) λK1 G1 r hg=>?_
 have hso:=Heap.IsSliceOf.new s.heap vl vu vs
 cases u<;>first|exact(ns e).elim|skip
 ·rename_i l
  cases st<;>first|exact(ns e).elim|skip
  refine AJ e λhsm e=>?_
  refine Cs hx λt hz hb=>?_
  rw[<-s1 e]
  cases ps
  have hres:∀t',Rv C g (.bytes (cut l lo hi)) (.bytes (cut (l.map Nat.toUInt8) lo hi).toArray t'):=λt'=>by
   rw[Y8];exact ES (Nat.le_trans (F0 _ _ _) hz) λb h=>hb b (XC h)
  have go:∀{S:PySem.Spec},Meets (Builtin.«bytes.__getitem__» ⟨[.bytes (l.map Nat.toUInt8).toArray t,.ref s.heap.objs.size],[]⟩) S->S A (wants (Aa C (Rv C) g s σ (.bytes (cut l lo hi))) λ_ _=>False) {s with heap:=s.heap.push {cls:=.type "slice",data:=.fields #[vl,vu,.none]}}->
    Wp C A (subscriptTail value slice (.bytes (l.map Nat.toUInt8).toArray t) (.ref s.heap.objs.size)) (Aa C (Rv C) g s σ (.bytes (cut l lo hi))) {s with heap:=s.heap.push {cls:=.type "slice",data:=.fields #[vl,vu,.none]}}:=λq h=>
   CW (typeIs_bytes _ _ _) FB.slot_bytes_getitem.lookup (getItem_meets (typeIs_bytes _ _ _) (by decide) FB.slot_bytes_getitem FB.entry_bytes_getitem (FB.args_bytes_getitem_2 _ _) q h)
  cases hw:KBy.whole (l.map Nat.toUInt8).toArray lo hi with
  |false=>
   refine go (KBy.meets_slice _ t _ pl pu hw) ⟨hso,?_,?_⟩
   ·rw[JT,AB]
    have:=F0 (l.map Nat.toUInt8) lo hi
    rw[List.length_map] at this
    exact Nat.le_trans this hz
   ·rw[JT]
    exact Aa.of G1 (Aa.tok K1 _ (hres _))
  |true=>
   refine go (PW _ t _ pl pu hw) ⟨hso,?_⟩
   have h2:=hres t
   have:cut (l.map Nat.toUInt8) lo hi=l.map Nat.toUInt8:=by
    unfold KBy.whole at hw
    rw[FZ] at hw
    refine Ab hw λhw _=>Ab hw λhw h1=>Ab hw λh0 _=>?_
    have h0:OW lo (l.map Nat.toUInt8).length=0:=Int.natCast_inj.mp (beq_iff_eq.mp h0)
    have h1:NY hi (l.map Nat.toUInt8).length=(l.map Nat.toUInt8).length:=Int.natCast_inj.mp (beq_iff_eq.mp h1)
    rw[DH,h0,h1,Nat.sub_zero,List.drop_zero,List.take_length]
   rw[this] at h2
   exact Aa.of G1 (Aa.here K1 h2)
 ·rename_i l
  refine BJ hx λa xs hz ha hl=>?_
  have hla:=K1.isList ha
  have go:∀{lo hi st:Option Int}{r:List Value}{d:List V},IsPart vl lo->IsPart vu hi->IsPart vs st->st≠some 0->slicePick xs.toArray lo hi st=r.toArray->d.length<=line->Ak C g.F g.φ d r->Wp C A (subscriptTail value slice (.ref a) (.ref s.heap.objs.size)) (Aa C (Rv C) g s σ (.lst d)) {s with heap:=s.heap.push {cls:=.type "slice",data:=.fields #[vl,vu,vs]}}:=λpl pu ps hn e hd hr=>
   CW hla.typeIs list_getitem_lookup (wpAny_getItem_list_slice hla hso pl pu ps hn (e▸Aa.of G1 (Aa.lst K1 (n:=0) rfl rfl rfl hd hr)) (by rw[AB,List.size_toArray,hl.length];exact hz))
  cases st with
  |none=>
   refine AJ e λhsm e=>?_
   rw[<-s1 e]
   exact go pl pu ps (λh=>nomatch h) (Vz xs lo hi) (Nat.le_trans (F0 _ _ _) hz) (hl.cut lo hi)
  |some k=>
   cases lo<;>first|exact(ns e).elim|skip
   cases hi<;>first|exact(ns e).elim|skip
   cases h1:decide (k=1) with
   |true=>
    have e:(match decide (k=1) with|true=>some (V.lst l)|false=>match decide (k= -1) with|true=>some (.lst l.reverse)|false=>none)=some c:=e
    rw[h1] at e
    rw[<-s1 e]
    have h1:=of_decide_eq_true h1
    subst h1
    exact go pl pu ps (λh=>nomatch h) (VP xs) hz hl
   |false=>
    have e:(match decide (k=1) with|true=>some (V.lst l)|false=>match decide (k= -1) with|true=>some (.lst l.reverse)|false=>none)=some c:=e
    rw[h1] at e
    refine AJ e λh2 e=>?_
    rw[<-s1 e]
    have h2:=of_decide_eq_true h2
    subst h2
    exact go pl pu ps (λh=>nomatch h) (Vj xs) (by rw[List.length_reverse];exact hz) hl.reverse
end
end Mine.Internal
end
section
set_option maxRecDepth 10000
namespace Mine.Internal
open PySem PySem.Calls PyProof.Rows PySem.W
structure Rm (A:Around)(n:Nat):Prop where
 hd:A.handled=none
 dp:A.depth+4*n+8<recursionLimit
 un:A.units+64*n+64<cLine
inductive Gl where
 |fn (f:Nat)
 |cls (c:Nat)
 |val (k:Nat)
noncomputable def E3:List Nat->List Nat->Bool
 |[],[]=>true
 |a::x,b::y=>Nat.beq a b&&E3 x y
 |[],_::_=>false
 |_::_,[]=>false
theorem EN:∀{a b:List Nat},E3 a b=true->a=b
 |[],[],_=>rfl
 |[],_::_,h=>(ft h).elim
 |_::_,[],h=>(ft h).elim
 |a::x,b::y,h=>Ab h λh1 h2=>by rw[Nat.eq_of_beq_eq_true h1,EN h2]
noncomputable def D_ (a b:Str):Bool:=E3 a.cps.toList b.cps.toList
theorem Lb {a b:Str}(h:D_ a b=true):a=b:=congrArg Str.mk (Array.toList_inj.mp (EN h))
noncomputable def lk {α:Type}(x:Str):List (Str×α)->Option α
 |[]=>none
 |p::r=>match D_ x p.1 with|true=>some p.2|false=>lk x r
theorem Dg:∀a:List Nat,E3 a a=true
 |[]=>rfl
 |a::x=>Bool.and_eq_true_iff.mpr ⟨Nat.beq_refl a,Dg x⟩
theorem KG {a b:Str}(h:D_ a b=false):a≠b:=λe=>tf (((congrArg (D_ a) e).symm.trans (Dg a.cps.toList)).symm.trans h)
theorem D1 {α:Type}{x:Str}:∀{l:List (Str×α)},lk x l=l.lookup x
 |[]=>rfl
 |p::r=>by
  show(match D_ x p.1 with|true=>some p.2|false=>lk x r)=match x==p.1 with|true=>some p.2|false=>r.lookup x
  cases e:D_ x p.1 with
  |true=>rw[beq_iff_eq.mpr (Lb e)]
  |false=>rw[beq_eq_false_iff_ne.mpr (KG e)];exact D1
structure Ck where
 sc:Scope
 vars:List (Str×Nat)
 n:Nat
structure Ah (env:PySem.Env)(k:Ck)(loc:Nat->Option AN):Prop where
 sc:env.scope=k.sc
 kind:k.sc.kind=.function
 glob:env.globals=mainGlobals
 blt:env.builtins=builtinsNs
 vars:∀x i,lk x k.vars=some i->(k.sc.names.lookup x=some .local/\loc i=some (.d env.locals x))\/
  ((k.sc.names.lookup x=some .cell\/k.sc.names.lookup x=some .free)/\∃c,env.cells.lookup x=some c/\loc i=some (.c c))
 top:∀i,k.n<=i->loc i=none
theorem Ah.go {env:PySem.Env}{k:Ck}{g g':Gh}{s s':Shared}(G:Go g s g' s')(h:Ah env k g.loc):Ah env k g'.loc:=by rw[G.loc];exact h
section
variable {C:Cx}{A:Around}{g:Gh}{σ:St}{s:Shared}{env:PySem.Env}{k:Ck}
noncomputable def Az (x:Str):Bool:=!D_ x "__debug__"&&!D_ x "__classdict__"
theorem EG {x:Str}(h:Az x=true):(x==("__debug__":Str))=false:=by
 exact beq_eq_false_iff_ne.mpr (KG (B_ (A8 h).1))
theorem Qj {x:Str}(h:Az x=true):(x==("__classdict__":Str))=false:=by
 exact beq_eq_false_iff_ne.mpr (KG (B_ (A8 h).2))
theorem AN.name {x:Str}{pos:Pos}{i:Nat}{v:Value}{Q:Value->Shared->Prop}{E:Value->Shared->Prop}{M:Model}(H:Ah env k g.loc)(hi:lk x k.vars=some i)(hd:Az x=true)
  (h:∀l,g.loc i=some l->l.has s.heap v)(q:Q v s):wpAny M A (eval (.Name x pos) env) Q E s:=by
 have hk:env.scope.kind=.function:=by rw[H.sc];exact H.kind
 refine wpAny_Name ?_ (EG hd)
 rcases H.vars x i hi with⟨h1,h2⟩|⟨h1,c,h2,h3⟩
 ·refine Ac (h _ h2) λm n e=>?_
  exact wpAny_loadName_local hk (by unfold Env.kindOf;rw[H.sc];exact h1) n e q
 ·have c1:=h _ h3
  rcases h1 with h1|h1
  ·exact wpAny_loadName_cell hk (by unfold Env.kindOf;rw[H.sc];exact h1) h2 c1 q
  ·exact wpAny_loadName_free hk (by unfold Env.kindOf;rw[H.sc];exact h1) h2 c1 q (Qj hd)
theorem Ah.at (H:Ah env k g.loc){x:Str}{i:Nat}(hi:lk x k.vars=some i):∃l,g.loc i=some l:=by
 rcases H.vars x i hi with⟨h1,h2⟩|⟨h1,c,h2,h3⟩
 ·exact⟨_,h2⟩
 ·exact⟨_,h3⟩
theorem Qp {r:Bf}{i:Nat}{v:V}(h:Es r i=some v):nth r i=some (.val v):=by
 unfold Es at h
 split at h
 ·rename_i e;refine AZ h ?_;exact e
 ·exact(ns h).elim
theorem ZX (H:Ah env k g.loc)(K:Ok C g σ s){x:Str}{pos:Pos}{i:Nat}{v:V}(hi:lk x k.vars=some i)(hd:Az x=true)(e:Es σ.r i=some v):
  Wp C A (eval (.Name x pos) env) (Aa C (Rv C) g s σ v) s:=by
 refine AA (H.at hi) λl hl=>?_
 refine Ac (K.slots i _ l (Qp e) hl) λy h1 h2=>?_
 exact AN.name H hi hd (λl' e'=>by cases hl.symm.trans e';exact h1) (Aa.here K h2)
theorem Zs {l r:Expr}{op:Operator}{pos:Pos}{o:Hu}{a b c:V}{jD jF:St}(ho:op=o.py)
  (h1:Wp C A (eval l env) (Aa C (Rv C) g s jD a) s)
  (h2:∀jE jC,Go g s jE jC->Ok C jE jD jC->Wp C A (eval r env) (Aa C (Rv C) jE jC jF b) jC)(e:AY o a b=some c):
  Wp C A (eval (.BinOp l op r pos) env) (Aa C (Rv C) g s jF c) s:=by
 subst ho
 refine wpAny_BinOp (h1.r λx jC jE G K rx=>(h2 jE jC G K).r λy jG jH G2 K2 ry=>?_)
 exact(cx K2 (rx.go G2) ry e).mono λz jK q=>(q.of G2).of G
noncomputable def BE:Expr->Bool
 |.Set ..=>true
 |_=>false
theorem Ff {op:CmpOp}{r:Expr}(h:BE r=false):behindInMarks op r=false:=by
 cases r<;>first|rfl|exact(tf h).elim
theorem Zu {l r:Expr}{op:CmpOp}{pos:Pos}{o:GS}{a b:V}{c:Bool}{jD jF:St}(ho:op=o.py)(hr:BE r=false)(hA:A.units+16<cLine)
  (h1:Wp C A (eval l env) (Aa C (Rv C) g s jD a) s)
  (h2:∀jE jC,Go g s jE jC->Ok C jE jD jC->Wp C A (eval r env) (Aa C (Rv C) jE jC jF b) jC)(e:Av o a b=some c):
  Wp C A (eval (.Compare l [op] [r] pos) env) (Aa C (Rv C) g s jF (.bool c)) s:=by
 subst ho
 refine wpAny_Compare1 (h1.r λx jC jE G K rx=>(h2 jE jC G K).r λy jG jH G2 K2 ry=>?_) (Ff hr)
 exact(Pz K2 hA (rx.go G2) ry e).mono λz jK q=>(q.of G2).of G
theorem bB {x:Expr}{pos:Pos}{i:Int}{jD:St}(h1:Wp C A (eval x env) (Aa C (Rv C) g s jD (.int i)) s):Wp C A (eval (.UnaryOp .USub x pos) env) (Aa C (Rv C) g s jD (.int (-i))) s:=by
 refine wpAny_UnaryOp (h1.r λy jC jE G K rx=>?_)
 refine AK rx λt=>?_
 exact P.neg_int ((Aa.tok K _ AW).of G)
noncomputable abbrev GK (C:Cx)(A:Around)(env:PySem.Env)(g:Gh)(e:Expr)(jD:St)(b:Bool)(s:Shared):Prop:=Wp C A (isTrue e env (eval e env)) (Aa C (λ_ (b:Bool) c=>c=b) g s jD b) s
theorem Aa.bool {jD:St}{b:Bool}{v:Value}{s':Shared}(h:Aa C (Rv C) g s jD (.bool b) v s'):v=.bool b/\Aa C (λ_ (b:Bool) c=>c=b) g s jD b b s':=by
 refine CP h λg' G K r=>?_
 exact⟨r,g',G,K,rfl⟩
theorem Zq {x:Expr}{pos:Pos}{b:Bool}{jD:St}(h1:GK C A env g x jD b s):GK C A env g (.UnaryOp .Not x pos) jD (!b) s:=
 isTrue_not (h1.r λc s' g' G K r=>⟨g',G,K,by rw[r]⟩)
theorem Gw {v:V}{b:Bool}(h:HZ v=some b):v=.bool b:=by
 cases v<;>simp_all [HZ]
theorem Hh {op:BoolOp}{x:Expr}{rest:List Expr}{b c:Bool}{jD jF:St}(h1:GK C A env g x jD b s)
  (h2:∀jE jC,Go g s jE jC->Ok C jE jD jC->if b=(match op with|.And=>true|.Or=>false) then Wp C A (allTrue op rest env) (Aa C (λ_ (b:Bool) c=>c=b) jE jC jF c) jC else c=b/\jF=jD):
  Wp C A (allTrue op (x::rest) env) (Aa C (λ_ (b:Bool) c=>c=b) g s jF c) s:=by
 rw[arm_allTrue_cons]
 refine wpAny_bind (h1.r λb' jC jE G K e=>?_)
 subst e
 have q:=h2 jE jC G K
 cases op<;>cases b'<;>skip<;>
  first|exact q.mono λy jG r=>r.of G|(obtain⟨rfl,rfl⟩:=q;exact wpAny_pure ⟨jE,G,K,rfl⟩)
theorem IH {op:BoolOp}(K:Ok C g σ s):Wp C A (allTrue op [] env) (Aa C (λ_ (b:Bool) c=>c=b) g s σ (match op with|.And=>true|.Or=>false)) s:=by
 rw[arm_allTrue_nil]
 exact wpAny_pure ⟨g,.refl g s,K,by cases op<;>rfl⟩
theorem IE {op:BoolOp}{pos:Pos}{x y:Sem Value}{rest:List (Sem Value)}{b:Bool}{w:V}{jD jF:St}(h1:Wp C A x (Aa C (Rv C) g s jD (.bool b)) s)
  (h2:∀jE jC,Go g s jE jC->Ok C jE jD jC->if b=(match op with|.And=>true|.Or=>false) then Wp C A (boolOp pos op (y::rest)) (Aa C (Rv C) jE jC jF w) jC else w=.bool b/\jF=jD):
  Wp C A (boolOp pos op (x::y::rest)) (Aa C (Rv C) g s jF w) s:=by
 show wpAny _ A (x>>=λv=>standAt pos>>=λ_=>holding [v] (truthy v)>>=_) _ _ s
 refine wpAny_bind (h1.mono λv jC r=>?_)
 obtain⟨rfl,jE,G,K,_⟩:=r.bool
 have q:=h2 jE jC G K
 refine wpAny_bind (wpAny_standAt (wpAny_bind (wpAny_holding (wpAny_truthy_bool ?_))))
 cases op<;>cases b<;>skip<;>
  first|exact q.mono λy jG r=>r.of G|(obtain⟨rfl,rfl⟩:=q;exact wpAny_pure ⟨jE,G,K,A9⟩)
noncomputable def FA:Expr->Bool
 |.Call ..=>true
 |.Name ..=>true
 |.Attribute ..=>true
 |.Subscript ..=>true
 |.Constant ..=>true
 |_=>false
theorem PL {e:Expr}(h:FA e=true)(whole:Sem Value):PySem.isTrue e env whole=(do let v <-whole;standAt e.pos;holding [v] (truthy v)):=by
 cases e<;>first|rfl|exact(ft h).elim
theorem UX {e:Expr}(hp:FA e=true){b:Bool}{jD:St}(h:Wp C A (eval e env) (Aa C (Rv C) g s jD (.bool b)) s):GK C A env g e jD b s:=
 isTrue_plain (h.mono λv jC r=>by obtain⟨rfl,r2⟩:=r.bool;exact wpAny_truthy_bool r2) (PL hp _)
theorem Ib {l r:Expr}{op:CmpOp}{pos:Pos}{M:Model}{E:Value->Shared->Prop}{whole:Sem Value}{Q:Bool->Shared->Prop}
  (h:wpAny M A (eval (.Compare l [op] [r] pos) env) (λv s'=>wpAny M A (truthy v) Q E s') E s):wpAny M A (isTrue (.Compare l [op] [r] pos) env whole) Q E s:=by
 have e:isTrue (.Compare l [op] [r] pos) env whole=(eval (.Compare l [op] [r] pos) env>>=λc=>holding [c] (truthy c)):=by
  rw[isTrue_Compare1,eval_Compare1]
  simp only[bind_assoc]
 rw[e]
 exact wpAny_bind (wpAny_mono h (λv s' h'=>wpAny_holding h') λ_ _ x=>x)
theorem XY {l r:Expr}{op:CmpOp}{pos:Pos}{b:Bool}{jD:St}(h:Wp C A (eval (.Compare l [op] [r] pos) env) (Aa C (Rv C) g s jD (.bool b)) s):GK C A env g (.Compare l [op] [r] pos) jD b s:=
 Ib (h.mono λv jC r=>by obtain⟨rfl,r2⟩:=r.bool;exact wpAny_truthy_bool r2)
theorem bU {t a b:Expr}{pos:Pos}{c:Bool}{v:V}{jD jF:St}(h1:GK C A env g t jD c s)
  (h2:∀jE jC,Go g s jE jC->Ok C jE jD jC->Wp C A (eval (if c then a else b) env) (Aa C (Rv C) jE jC jF v) jC):Wp C A (eval (.IfExp t a b pos) env) (Aa C (Rv C) g s jF v) s:=by
 refine wpAny_IfExp (h1.r λc' jC jE G K e=>?_)
 subst e
 have q:=h2 jE jC G K
 cases c'<;>exact q.mono λy jG r=>r.of G
theorem VA {M:Model}{E:Value->Shared->Prop}{vs keep:List Value}{Q:Unit->Shared->Prop}(h:Q () s):wpAny M A (release vs keep) Q E s:=fun Γ p hΓ=>by rw[Sem.wp_release];exact h
theorem O0 {a b c:Expr}{o p:CmpOp}{o' p':GS}{pos:Pos}{u v w:V}{c1 c2:Bool}{jD jF jN:St}(ho:o=o'.py)(hp:p=p'.py)(hc:BE c=false)(hA:A.units+16<cLine)
  (h1:Wp C A (eval a env) (Aa C (Rv C) g s jD u) s)
  (h2:∀jE jC,Go g s jE jC->Ok C jE jD jC->Wp C A (eval b env) (Aa C (Rv C) jE jC jF v) jC)
  (h3:∀jE jC,Go g s jE jC->Ok C jE jF jC->if c1=true then(Wp C A (eval c env) (Aa C (Rv C) jE jC jN w) jC/\Av p' v w=some c2) else c2=false/\jN=jF)(e1:Av o' u v=some c1):
  GK C A env g (.Compare a [o,p] [b,c] pos) jN c2 s:=by
 subst ho hp
 show wpAny _ _ (isTrue _ _ _) _ _ _
 rw[arm_isTrue_Compare]
 refine wpAny_bind (h1.r λx jC jE G K rx=>?_)
 show Wp C A (testChain pos x [o'.py,p'.py] [eval b env,markedBehindIn p'.py c (eval c env)]) _ jC
 rw[markedBehindIn_of_false (Ff hc)]
 show wpAny _ A (holding [x] (eval b env)>>=λrv=>standAt pos>>=λ_=>holding [x,rv] (compareOp o'.py x rv)>>=λc=>release [x,rv] [c]>>=λ_=>holding [c,rv] (truthy c)>>=_) _ _ jC
 ·refine wpAny_bind (wpAny_holding ((h2 jE jC G K).r λy jG jH G2 K2 ry=>wpAny_bind (wpAny_standAt (wpAny_bind (wpAny_holding ?_)))))
  refine(Pz K2 hA (rx.go G2) ry e1).mono λz jK r=>?_
  obtain⟨rfl,jP,G3,K3,_⟩:=r.bool
  have q:=h3 jP jK ((G.trans G2).trans G3) K3
  refine wpAny_bind (VA (wpAny_bind (wpAny_holding (wpAny_truthy_bool ?_))))
  cases c1 with
  |false=>
   simp only[Bool.false_eq_true,if_false] at q ⊢
   obtain⟨rfl,rfl⟩:=q
   exact wpAny_pure ⟨jP,(G.trans G2).trans G3,K3,rfl⟩
  |true=>
   simp only[if_true] at q ⊢
   show wpAny _ A (holding [y] (eval c env)>>=λrv=>standAt pos>>=λ_=>operate [y,rv] (compareOp p'.py y rv)>>=λc=>holding [c] (truthy c)) _ _ jK
   refine wpAny_bind (wpAny_holding (q.1.r λt jR g₄ G4 K4 rt=>wpAny_bind (wpAny_standAt (wpAny_bind (wpAny_operating ?_)))))
   refine(Pz K4 hA ((ry.go G3).go G4) rt q.2).mono λz j7 r=>?_
   obtain⟨rfl,r2⟩:=r.bool
   exact wpAny_holding (wpAny_truthy_bool (r2.of (((G.trans G2).trans G3).trans G4)))
noncomputable def HU (v:V)(c:Const):Bool:=match v with
 |.none=>(match c with|.none=>true|_=>false)
 |.bool b=>(match c with|.bool c=>b==c|_=>false)
 |.int i=>(match c with|.int j=>decide (i=j)|_=>false)
 |.str l=>(match c with|.str x=>E3 l x.cps.toList&&Nat.ble l.length 1000|_=>false)
 |.bytes l=>(match c with|.bytes b=>E3 l (b.map UInt8.toNat)&&Nat.ble l.length 1000|_=>false)
 |_=>false
theorem N0:∀b:List UInt8,(b.map UInt8.toNat).map Nat.toUInt8=b
 |[]=>rfl
 |a::l=>by simp only[List.map_cons,N0 l];simp
theorem Ub (K:Ok C g σ s){v:V}{c:Const}{kk:Nat}{pos:Pos}(h:HU v c=true):Wp C A (eval (.Constant c kk pos) env) (Aa C (Rv C) g s σ v) s:=by
 cases v<;>first|exact(ft h).elim|skip
 ·cases c<;>first|exact(ft h).elim|skip
  exact wpAny_Constant_none (Aa.here K QF)
 ·cases c<;>first|exact(ft h).elim|skip
  rw[beq_iff_eq.mp h]
  exact wpAny_Constant_bool (Aa.here K A9)
 ·cases c<;>first|exact(ft h).elim|skip
  rw[of_decide_eq_true h]
  exact wpAny_Constant_int (Aa.tok K _ AW)
 ·cases c<;>first|exact(ft h).elim|skip
  refine Ab h λh1 h2=>wpAny_Constant_str (Aa.tok K _ ?_)
  exact⟨Nat.le_trans (Nat.le_of_ble_eq_true h2) (by decide),s.toks,by rw[EN h1]⟩
 ·cases c<;>first|exact(ft h).elim|skip
  refine Ab h λh1 h2=>Constant_bytes (Aa.tok K _ ?_)
  rw[EN h1]
  rw[EN h1] at h2
  refine⟨Nat.le_trans (Nat.le_of_ble_eq_true h2) (by decide),λx hx=>?_,s.toks,by rw[N0]⟩
  refine Ac (List.mem_map.1 hx) λy _ e=>e▸y.toNat_lt
noncomputable def A5 (C:Cx)(g:Gh)(vs:List V)(xs:List Value):Prop:=Ak C g.F g.φ vs xs
noncomputable def Ar:Expr->Bool
 |.Starred ..=>false
 |_=>true
theorem Bp {e:Expr}{r:List Expr}(h:Ar e=true):starEach (e::r) env=(false,eval e env)::starEach r env:=by
 cases e<;>first|rfl|exact(ft h).elim
theorem Q_ {pos:Pos}(K:Ok C g σ s):Wp C A (spliced (backTo pos (starEach [] env))) (Aa C (A5 C) g s σ []) s:=
 spliced_nil ⟨g,.refl g s,K,by rfl⟩
theorem Vo {pos:Pos}{e:Expr}{r:List Expr}{v:V}{vs:List V}{jD jF:St}(he:Ar e=true)(h1:Wp C A (eval e env) (Aa C (Rv C) g s jD v) s)
  (h2:∀jE jC,Go g s jE jC->Ok C jE jD jC->Wp C A (spliced (backTo pos (starEach r env))) (Aa C (A5 C) jE jC jF vs) jC):
  Wp C A (spliced (backTo pos (starEach (e::r) env))) (Aa C (A5 C) g s jF (v::vs)) s:=by
 rw[Bp he]
 refine spliced_cons (h1.r λx jC jE G K rx=>(h2 jE jC G K).r λxs jG jH G2 K2 rxs=>⟨jH,G.trans G2,K2,?_⟩)
 skip
 exact⟨x,xs,rfl,rx.go G2,rxs⟩
theorem B0 {pos:Pos}:∀{as:List Expr},as.all Ar=true->(backTo pos (starEach as env)).any (·.1)=false
 |[],_=>rfl
 |e::r,h=>by
  obtain⟨h1,h2⟩:=Bool.and_eq_true_iff.mp (show(Ar e&&r.all Ar)=true from h)
  rw[Bp h1]
  show(false||(backTo pos (starEach r env)).any (·.1))=false
  rw[B0 h2];rfl
theorem Eu {pos:Pos}{f:Value}{as:List Expr}{M:Model}{E:Value->Shared->Prop}{Q:List Value->Shared->Prop}(hs:as.all Ar=true)(h:wpAny M A (spliced (backTo pos (starEach as env))) Q E s):
  wpAny M A (evalArgs f true (backTo pos (starEach as env)) []) (λa s'=>a.kw=[]/\Q a.pos s') E s:=by
 cases as with
 |nil=>
  skip
  show wpAny M A (spliced []>>=_) _ E s
  refine wpAny_bind (wpAny_mono (show wpAny M A (spliced []) Q E s from h) (λvs s' q=>wpAny_bind (wpAny_pure ?_)) λ_ _ x=>x)
  refine wpAny_holding ?_
  exact wpAny_bind (wpAny_pure (wpAny_pure ⟨rfl,q⟩))
 |cons e r=>
  have h1:Ar e=true:=by rw[List.all_cons,Bool.and_eq_true] at hs;exact hs.1
  rw[Bp h1] at h ⊢
  exact evalArgs_plain (wpAny_mono h (λvs s' q=>⟨rfl,q⟩) λ_ _ x=>x)
theorem Zp {es:List Expr}{kk:Nat}{pos:Pos}{vs:List V}{jD:St}(hz:AO vs.length=true)(h1:Wp C A (spliced (backTo pos (starEach es env))) (Aa C (A5 C) g s jD vs) s):
  Wp C A (eval (.Tuple es kk pos) env) (Aa C (Rv C) g s jD (.tup vs)) s:=by
 refine wpAny_Tuple (h1.r λxs jC jE G K r=>⟨?_,?_⟩)
 ·rw[AB,Ak.length r];exact Bo hz
 ·exact Aa.of G (Aa.tup K (n:=0) rfl rfl rfl (Bo hz) r)
theorem cU {es:List Expr}{pos:Pos}{vs:List V}{v:V}{jD:St}(hz:DJ vs=some v)(h1:Wp C A (spliced (backTo pos (starEach es env))) (Aa C (A5 C) g s jD vs) s):
  Wp C A (eval (.List es pos) env) (Aa C (Rv C) g s jD v) s:=by
 obtain⟨rfl,hz2⟩:=Dc hz
 refine wpAny_List (h1.r λxs jC jE G K r=>⟨?_,?_⟩)
 ·rw[AB,Ak.length r];exact hz2
 ·exact Aa.of G (Aa.lst K (n:=0) rfl rfl rfl hz2 r)
theorem aW {a i:Expr}{pos:Pos}{u v w:V}{jD jF:St}(h1:Wp C A (eval a env) (Aa C (Rv C) g s jD u) s)
  (h2:∀jE jC,Go g s jE jC->Ok C jE jD jC->Wp C A (eval i env) (Aa C (Rv C) jE jC jF v) jC)
  (e:OO u v=some w):Wp C A (eval (.Subscript a i pos) env) (Aa C (Rv C) g s jF w) s:=
 Subscript_ (h1.r λx jC jE G K rx=>(h2 jE jC G K).r λy jG jH G2 K2 ry=>(Ym K2 (rx.go G2) ry e).mono λz jK q=>(q.of G2).of G)
theorem Y5 {a i:Expr}{pos:Pos}{n:Nat}{j:Int}{l:List V}{w:V}{jD jF:St}(h1:Wp C A (eval a env) (Aa C (Rv C) g s jD (.ref n)) s)
  (h2:∀jE jC,Go g s jE jC->Ok C jE jD jC->Wp C A (eval i env) (Aa C (Rv C) jE jC jF (.int j)) jC)
  (hn:nth jF.h n=some (.lst l))(e:(place j l.length).bind (nth l)=some w):Wp C A (eval (.Subscript a i pos) env) (Aa C (Rv C) g s jF w) s:=by
 refine Subscript_ (h1.r λx jC jE G K rx=>(h2 jE jC G K).r λy jG jH G2 K2 ry=>?_)
 have rx:=rx.go G2
 refine J_ rx λb hb=>?_
 refine AK ry λt=>?_
 obtain⟨hz,b',xs,hb',_,hl,hx⟩:=K2.cells n _ hn
 cases hb.symm.trans hb'
 have hl:jG.heap.IsList b xs.toArray:=let ⟨o,e,c,_,n,d⟩:=hl;⟨o,e,c,n,d⟩
 exact CW hl.typeIs list_getitem_lookup ((G_ K2 hl hx hz e).mono λz jK q=>(q.of G2).of G)
noncomputable def O5 (v:Option Int)(x:Value):Prop:=IsPart x v
theorem TF (K:Ok C g σ s):Wp C A (evalPart none env) (Aa C (λ_=>O5) g s σ none) s:=wpAny_evalPart_none ⟨g,.refl g s,K,.none⟩
theorem Tq {e:Expr}{i:Int}{jD:St}(h:Wp C A (eval e env) (Aa C (Rv C) g s jD (.int i)) s):Wp C A (evalPart (some e) env) (Aa C (λ_=>O5) g s jD (some i)) s:=
 wpAny_evalPart_some (h.r λx jC jE G K r=>by
  refine AK r λt=>?_
  exact⟨jE,G,K,.int _ _⟩)
theorem ZY {a:Expr}{lo hi st:Option Expr}{p pos:Pos}{u w:V}{l h t:Option Int}{jD jF jN j4:St}(h1:Wp C A (eval a env) (Aa C (Rv C) g s jD u) s)
  (h2:∀jE jC,Go g s jE jC->Ok C jE jD jC->Wp C A (evalPart lo env) (Aa C (λ_=>O5) jE jC jF l) jC)
  (h3:∀jE jC,Go g s jE jC->Ok C jE jF jC->Wp C A (evalPart hi env) (Aa C (λ_=>O5) jE jC jN h) jC)
  (h4:∀jE jC,Go g s jE jC->Ok C jE jN jC->Wp C A (evalPart st env) (Aa C (λ_=>O5) jE jC j4 t) jC)(e:FT u l h t=some w):
  Wp C A (eval (.Subscript a (.Slice lo hi st p) pos) env) (Aa C (Rv C) g s j4 w) s:=by
 refine Subscript_ (h1.r λx jC jE G K rx=>wpAny_Slice ((h2 jE jC G K).r λvl jG jH G2 K2 pl=>(h3 jH jG (G.trans G2) K2).r λvh jK jP G3 K3 ph=>
  (h4 jP jK ((G.trans G2).trans G3) K3).r λvt jR g₄ G4 K4 pt=>?_))
 exact(VF K4 (((rx.go G2).go G3).go G4) pl ph pt e).mono λz j7 q=>(((q.of G4).of G3).of G2).of G
end
end Mine.Internal
end
section
set_option maxRecDepth 10000
namespace Mine.Internal
open PySem PySem.Calls PyProof.Rows PySem.W
noncomputable def BI.val:BI->Value
 |.len=>.builtin "len"
 |.range=>.type "range"
 |.bytes=>.type "bytes"
 |.list=>.type "list"
 |.tuple=>.type "tuple"
 |.int=>.type "int"
 |.ord=>.builtin "ord"
 |.chr=>.builtin "chr"
 |.min=>.builtin "min"
 |.max=>.builtin "max"
 |.sum=>.builtin "sum"
 |.sorted=>.builtin "sorted"
noncomputable def DL (K:Frag)(a:Addr):Bool:=
 findIn K (.ref a) "__getattribute__"==some (some (.builtin "object.__getattribute__"))&&findIn K (.ref a) "__getattr__"==some none&&
 findIn K (.ref a) "__setattr__"==some (some (.builtin "object.__setattr__"))&&plainOver K a&&(clsIn K a).any (·.hasDict)
structure Px (C:Cx)(T:Tab) where
 K:Frag
 kin:∀a o,K.lookup a=some o->C.base a=some o
 fad:Nat->Addr
 mnm:Nat->Str
 gl:Str->Option Gl
 glF:∀x f,gl x=some (.fn f)->nsIn K mainGlobals x=some (some (.ref (fad f)))/\keepIn K (.ref (fad f))=true
 glC:∀x c,gl x=some (.cls c)->nsIn K mainGlobals x=some (some (.ref (C.cad c)))/\keepIn K (.ref (C.cad c))=true
 glV:∀x j,gl x=some (.val j)->∃v,nsIn K mainGlobals x=some (some v)/\∀u,T.glb j=some u->Rp C C.base [] u v
 bn:Str->Option BI
 bnok:∀x b,bn x=some b->nsIn K mainGlobals x=some none/\nsIn K builtinsNs x=some (some b.val)
 bty:nsIn K mainGlobals "int"=some none/\nsIn K builtinsNs "int"=some (some (.type "int"))
 mods:∃o,C.base sysModules=some o
 fok:T.fok=C.fok
 fld:∀c f,C.fok c f=true->DL K (C.cad c)=true/\findIn K (.ref (C.cad c)) (C.fld f)=some none
 mth:∀c m f,T.mth c m=some f->DL K (C.cad c)=true/\findIn K (.ref (C.cad c)) (mnm m)=some (some (.ref (fad f)))/\typeIn K (.ref (fad f))=some (.type "function")/\keepIn K (.ref (fad f))=true/\
  ∀j,C.fok c j=true->C.fld j≠mnm m
 frm:findCls K (.type "int") (.type "type") (PySem.Str.ofString "from_bytes")=some (.get (.builtin "classmethod_descriptor.__get__") (.builtin "int.from_bytes") .none (.type "int"))
 nolim:∀h:Heap,Bk C.base h.get?->h.NoLimit
section
variable {C:Cx}{T:Tab}(P:Px C T){A:Around}{g:Gh}{σ:St}{s:Shared}{env:PySem.Env}{k:Ck}
include P
theorem Px.kIn (K:Ok C g σ s):P.K.In s.heap:=λa o e=>K.fz _ _ (K.base _ _ (P.kin a o e))
theorem Px.name (K:Ok C g σ s)(H:Ah env k g.loc){x:Str}{pos:Pos}{v:Value}{M:Model}{E:Value->Shared->Prop}{Q:Value->Shared->Prop}(hd:Az x=true)(hk:k.sc.names.lookup x=some .globalImplicit)
  (h:nsIn P.K mainGlobals x=some (some v)\/(nsIn P.K mainGlobals x=some none/\nsIn P.K builtinsNs x=some (some v)))(q:Q v s):wpAny M A (eval (.Name x pos) env) Q E s:=by
 refine Name_function_global (by rw[H.sc];exact H.kind) (by unfold Env.kindOf;rw[H.sc];exact hk) ?_ (EG hd)
 unfold loadGlobal
 rw[H.glob,H.blt]
 rcases h with h|⟨h,h'⟩
 ·exact wpAny_bind ((looks_nsIn (P.kIn K) h).here (wpAny_pure q))
 ·exact wpAny_bind ((looks_nsIn (P.kIn K) h).here (wpAny_bind ((looks_nsIn (P.kIn K) h').here (wpAny_pure q))))
theorem Z8 (K:Ok C g σ s)(H:Ah env k g.loc){x:Str}{pos:Pos}{j:Nat}{u:V}(hd:Az x=true)(hk:k.sc.names.lookup x=some .globalImplicit)(hg:P.gl x=some (.val j))(hu:T.glb j=some u):
  Wp C A (eval (.Name x pos) env) (Aa C (Rv C) g s σ u) s:=by
 refine Ac (P.glV x j hg) λv h1 h2=>?_
 exact P.name K H hd hk (.inl h1) (Aa.here K (Rp.mono K.base ⟨g.φ,rfl⟩ (h2 u hu)))
theorem Px.fn (K:Ok C g σ s)(H:Ah env k g.loc){x:Str}{pos:Pos}{f:Nat}{M:Model}{E:Value->Shared->Prop}{Q:Value->Shared->Prop}(hd:Az x=true)(hk:k.sc.names.lookup x=some .globalImplicit)
  (hg:P.gl x=some (.fn f))(q:Q (.ref (P.fad f)) s):wpAny M A (eval (.Name x pos) env) Q E s:=P.name K H hd hk (.inl (P.glF x f hg).1) q
theorem Px.cls (K:Ok C g σ s)(H:Ah env k g.loc){x:Str}{pos:Pos}{f:Nat}{M:Model}{E:Value->Shared->Prop}{Q:Value->Shared->Prop}(hd:Az x=true)(hk:k.sc.names.lookup x=some .globalImplicit)
  (hg:P.gl x=some (.cls f))(q:Q (.ref (C.cad f)) s):wpAny M A (eval (.Name x pos) env) Q E s:=P.name K H hd hk (.inl (P.glC x f hg).1) q
omit P in
theorem Ms {o:Obj}{es:Array DictEntry}{n:Nat}{m:Str->Option Value}{name:Str}(hd:o.data=.dict es n)(hk:StrKeys es)(hm:∀name,nsFind es name=m name):lookIn name o=some (m name):=by
 unfold lookIn
 rw[hd]
 dsimp only
 rw[<-hm name,Array.find?_toList]
 have:es.toList.any (·.refKey)=false:=by
  rw[Array.any_toList,Array.any_eq_false'];intro e he;refine Ez (hk e he) λn t h=>?_;simp[DictEntry.refKey,h]
 unfold nsFind findBy
 cases es.find? (·.key.isStr name) with
 |none=>simp only[this,Bool.false_eq_true,if_false,Option.map_none]
 |some e=>rfl
omit P in
theorem OI {v:V}{x:Value}(h:Rv C g v x):handedIn x=true:=(Mb h).2.1
omit P in
theorem GV {K:Frag}{a:Addr}(h:DL K a=true):findIn K (.ref a) "__getattribute__"=some (some (.builtin "object.__getattribute__"))/\findIn K (.ref a) "__getattr__"=some none/\
  findIn K (.ref a) "__setattr__"=some (some (.builtin "object.__setattr__"))/\plainOver K a=true/\(clsIn K a).any (·.hasDict)=true:=by
 unfold DL at h
 simp only[Bool.and_eq_true,beq_iff_eq] at h
 exact⟨h.1.1.1.1,h.1.1.1.2,h.1.1.2,h.1.2,h.2⟩
omit P in
theorem Mg {h:Heap}{a d c:Addr}{o:Obj}(ha:h.get? a=some (instObj c d))(hd:h.get? d=some o):InstAt h a (instObj c d) c (some o):=⟨ha,rfl,rfl,hd⟩
theorem Px.get (K:Ok C g σ s){c f n:Nat}{a d:Addr}{m:Str->Option Value}{x:Value}{expr:Bool}{E:Value->Shared->Prop}{Q:Value->Shared->Prop}(hf:C.fok c f=true)
  (ha:s.heap.get? a=some (instObj (C.cad c) d))(hd:DG C c s.heap.get? d n m)(hx:m (C.fld f)=some x)(hh:handedIn x=true)(q:Q x {s with toks:=s.toks+1}):
  wpAny (model C.prog C.w) A (getAttr (.ref a) (C.fld f) expr) Q E s:=by
 refine AU (P.fld c f hf) λh1 h2=>?_
 refine Wz (GV h1) λp1 p2 p3 p4 p5=>?_
 obtain⟨⟨o,es,ep,e1,e2,e3,e4,e5⟩,_⟩:=hd
 refine Ac (any_some p5) λcd hc Eb=>?_
 refine get_value (P.kIn K) (Mg ha e1) p1 ?_ hh q
 unfold findObj
 rw[hc,h2]
 simp only[Option.bind_some]
 have:W.ownOf cd (some o) (C.fld f)=some (some x):=by
  unfold W.ownOf
  rw[Eb,if_pos rfl]
  show lookIn (C.fld f) o=_
  rw[Ms e2 e3 e4,hx]
 rw[this]
 rfl
noncomputable def Bw:Expr->Bool
 |.Call f as kw _=>(match f with
  |.Name _ _=>(match as with
   |[]=>(match kw with|[]=>false|_::_=>true)
   |_::_=>true)
  |_=>true)
 |_=>true
omit P in
theorem QB {o:Expr}{attr:Str}{whole:Sem Value}(h:Bw o=true):attributeBase o attr env whole=whole:=by
 cases o with
 |Call f as kw p=>
  cases f with
  |Name x q=>
   cases as with
   |nil=>cases kw with
    |nil=>exact(ft h).elim
    |cons=>rfl
   |cons=>rfl
  |_=>rfl
 |_=>rfl
omit P in
theorem Lj {e:Expr}{pos:Pos}{E:Value->Shared->Prop}{f:Str}{Q:Value->Shared->Prop}(hn:Bw e=true)(h:wpAny (model C.prog C.w) A (eval e env) (λx jC=>wpAny (model C.prog C.w) A (getAttr x f true) (λy jG=>Q y jG) E jC) E s):wpAny (model C.prog C.w) A (eval (.Attribute e f pos) env) Q E s:=by
 rw[arm_eval_Attribute,QB hn]
 refine wpAny_bind (wpAny_mono h (λx jC q=>?_) λ_ _ x=>x)
 refine wpAny_bind (wpAny_standAt (wpAny_bind (wpAny_holding (wpAny_mono q (λy jG q=>?_) λ_ _ x=>x))))
 exact wpAny_bind (wpAny_letTemporaryGo (wpAny_pure q))
theorem Zi {e:Expr}{pos:Pos}{c f:Nat}{fs:List (Nat×V)}{v:V}{jD:St}(hn:Bw e=true)(h1:Wp C A (eval e env) (Aa C (Rv C) g s jD (.obj c fs)) s)(hf:T.fok c f=true)(hv:BG f fs=some v):
  Wp C A (eval (.Attribute e (C.fld f) pos) env) (Aa C (Rv C) g s jD v) s:=by
 refine Lj hn (h1.r λx jC jE G K r=>?_)
 refine Wx r λa d m ha hd hm=>Ac (hm.get hv) λx hx r=>?_
 exact P.get K (P.fok▸hf) (K.fz _ _ ha) (hd.mono K.fz) hx (OI r) ((Aa.tok K _ r).of G)
theorem Za {e:Expr}{pos:Pos}{n c f:Nat}{fs:List (Nat×V)}{v:V}{jD:St}(hn:Bw e=true)(h1:Wp C A (eval e env) (Aa C (Rv C) g s jD (.ref n)) s)(hc:nth jD.h n=some (.ins c fs))(hf:T.fok c f=true)(hv:BG f fs=some v):
  Wp C A (eval (.Attribute e (C.fld f) pos) env) (Aa C (Rv C) g s jD v) s:=by
 refine Lj hn (h1.r λx jC jE G K r=>?_)
 refine J_ r λb hb=>Q9 (K.cells n _ hc) λa d m ha0 _ _ ha hd hm=>Ac (hm.get hv) λx hx r=>?_
 rw[s1 (hb.symm.trans ha0)]
 exact P.get K (P.fok▸hf) ha hd hx (OI r) ((Aa.tok K _ r).of G)
theorem VL (H:Ah env k g.loc)(K:Ok C g σ s){x:Str}{np pos:Pos}{i c f:Nat}{fs:List (Nat×V)}{v:V}(hi:lk x k.vars=some i)(hdn:Az x=true)(hs:nth σ.r i=some (.uo c fs))(hf:T.fok c f=true)(hv:BG f fs=some v):
  Wp C A (eval (.Attribute (.Name x np) (C.fld f) pos) env) (Aa C (Rv C) g s σ v) s:=by
 refine Lj rfl (AA (H.at hi) λl hl=>?_)
 obtain⟨a,d,m,h0,_,_,ha,hd,hm,_⟩:=K.slots i _ l hs hl
 refine AN.name H hi hdn (λl' e'=>s1 (hl.symm.trans e')▸h0) (Ac (hm.get hv) λx hx r=>?_)
 exact P.get K (P.fok▸hf) ha hd hx (OI r) (Aa.tok K _ r)
omit P in
theorem Yj {α:Type}{t:Sem α}{d n c f:Nat}{m:Str->Option Value}{v:Value}{M:Model}{E:Value->Shared->Prop}{Q:α->Shared->Prop}(hd:DG C c s.heap.get? d n m)(hf:C.fok c f=true)(hz:n<1000)
  (h:∀h',DG C c h'.get? d (if(m (C.fld f)).isSome then n else n+1) (λy=>if y=C.fld f then some v else m y)->Heap.SameBut d s.heap h'->wpAny M A t Q E {s with heap:=h',toks:=s.toks+1}):
  wpAny M A (do nsSet d (C.fld f) v;lookBehind d (some (.str (C.fld f) 0));t) Q E s:=by
 obtain⟨⟨o,es,ep,ho,hdt,hk,hm,hsz⟩,hown⟩:=hd
 have own':∀name x,(λy=>if y=C.fld f then some v else m y) name=some x->∃j,C.fok c j=true/\name=C.fld j:=λname x e=>by
  by_cases q:name=C.fld f
  ·exact⟨f,hf,q⟩
  ·simp only[if_neg q] at e;exact hown _ _ e
 have hany:es.any (·.refKey)=false:=by
  rw[Array.any_eq_false'];intro e he;refine Ez (hk e he) λn t h=>?_;simp[DictEntry.refKey,h]
 unfold nsSet strHash
 refine wpAny_bind (wpAny_bind (wpAny_bind (wpAny_askSetting (wpAny_pure (wpAny_bind (wpAny_mkText (wpAny_bind (wpAny_loadPart ho ?_))))))))
 rw[hdt]
 dsimp only
 rw[aRefKeyMayBeTheName_at,hany,Bool.and_false]
 skip
 refine wpAny_updatePart ho (wpAny_bind ?_)
 obtain⟨cl,d',dt,sl⟩:=o
 subst hdt
 cases hi:es.findIdx? (·.key.isStr (C.fld f)) with
 |some i=>
  have hsome:(m (C.fld f)).isSome=true:=by
   rw[<-hm];unfold nsFind findBy
   rw[Option.isSome_map]
   refine Ac (Array.findIdx?_eq_some_iff_getElem.1 hi) λh1 h2 _=>?_
   exact Array.find?_isSome.2 ⟨es[i],Array.getElem_mem h1,h2⟩
  have g1:=Heap.get?_update_self (f:=Obj.putName (C.fld f) (PyData.keyHash M.w.params (C.fld f)) (.str (C.fld f) s.toks) v) ho (by simp only[Obj.putName_eq,Obj.putNameByArray,hi];rfl)
  refine wpAny_lookBehind g1 ?_ (h _ ⟨⟨_,_,ep,g1,by simp only[Obj.putName_eq,Obj.putNameByArray,hi];rfl,hk.modify _ _,λx=>?_,?_⟩,own'⟩ (Heap.SameBut.update ..))
  ·simp only[Obj.putName_eq,Obj.putNameByArray,hi]
   exact pastItsLine_dict (by rw[sizeLine_eq];simp;exact((AR 0x1188888889211210111911fd8201a) hz hsz))
  ·show _=if x=C.fld f then some v else m x
   rw[<-hm];exact findBy_modify (λn v=>v.isStr n) Value.isStr_inj es _ x v i hi
  ·rw[hsome];simpa using hsz
 |none=>
  have g1:=Heap.get?_update_self (f:=Obj.putName (C.fld f) (PyData.keyHash M.w.params (C.fld f)) (.str (C.fld f) s.toks) v) ho (by simp only[Obj.putName_eq,Obj.putNameByArray,hi];rfl)
  have hnone:(m (C.fld f)).isSome=false:=by
   rw[<-hm];unfold nsFind findBy
   have:=Array.findIdx?_eq_none_iff.1 hi
   have:es.find? (·.key.isStr (C.fld f))=none:=by
    rw[Array.find?_eq_none];intro x hx;simp[this x hx]
   rw[this];rfl
  refine wpAny_lookBehind g1 ?_ (h _ ⟨⟨_,_,ep+1,g1,by simp only[Obj.putName_eq,Obj.putNameByArray,hi];rfl,hk.push _ _ _ _,λx=>?_,?_⟩,own'⟩ (Heap.SameBut.update ..))
  ·simp only[Obj.putName_eq,Obj.putNameByArray,hi]
   exact pastItsLine_dict (by rw[sizeLine_eq];simp;exact((AR 0x1188888888211210111911fd8201a) hz hsz))
  ·show _=if x=C.fld f then some v else m x
   rw[<-hm]
   exact findBy_push (λn v=>v.isStr n) es _ x _ _ v (λy=>by
    show(C.fld f==y)=decide (y=C.fld f)
    by_cases h:y=C.fld f
    ·subst h;rfl
    ·have:¬C.fld f=y:=λe=>h e.symm
     simp[h,this]) hi
  ·rw[hnone];simpa using hsz
theorem Px.set (K:Ok C g σ s){c f n:Nat}{a d:Addr}{m:Str->Option Value}{x:Value}{E:Value->Shared->Prop}{Q:Unit->Shared->Prop}(hf:C.fok c f=true)(hz:n<1000)
  (ha:s.heap.get? a=some (instObj (C.cad c) d))(hd:DG C c s.heap.get? d n m)
  (h:∀h' tk,DG C c h'.get? d (if(m (C.fld f)).isSome then n else n+1) (λy=>if y=C.fld f then some x else m y)->Heap.SameBut d s.heap h'->Q () {s with heap:=h',toks:=tk}):
  wpAny (model C.prog C.w) A (setAttr (.ref a) (C.fld f) x) Q E s:=by
 refine AU (P.fld c f hf) λh1 h2=>?_
 refine Wz (GV h1) λp1 p2 p3 p4 p5=>?_
 refine Ac (any_some p5) λcd hc Eb=>?_
 have hd':=hd
 obtain⟨⟨o,es,ep,e1,e2,e3,e4,e5⟩,_⟩:=hd'
 have I:=Mg ha e1
 have K':=K.tok (s.toks+1)
 refine set_plain (P.kIn K) I p3 (osa_open (P.kIn K') (s:={s with toks:=s.toks+1}) I p4 (r:=none) (by unfold takerIn;rw[h2];rfl) λb=>?_)
 refine wpAny_bind (wpAny_pure (wpAny_bind (wpAny_bind (wpAny_loadPart ha (wpAny_bind ((looks_clsIn (P.kIn K') hc).here ?_))))))
 rw[Eb]
 refine wpAny_pure (a:=some d) (wpAny_bind (wpAny_pure ?_))
 exact Yj (s:={s with toks:=s.toks+1}) hd hf hz λh' q1 q2=>wpAny_pure (h h' _ q1 q2)
end
noncomputable def Ka (z:Bool)(r:Bf)(h:Hp)(c:Nat)(fs:List (Nat×V)):St:=match z with
 |true=>⟨r,h⟩
 |false=>⟨r,h++[.ins c fs]⟩
noncomputable def Oe (z:Bool)(h:Hp)(c:Nat)(fs:List (Nat×V)):V:=match z with
 |true=>.obj c fs
 |false=>.ref h.length
structure DOk {C:Cx}{T:Tab}(P:Px C T)(D:Den)(n:Nat):Prop where
 fn:∀A,Rm A n->∀f vs h v h',D.fn f vs h=some (v,h')->∀g σ s xs,σ.h=h->Ok C g σ s->A5 C g vs xs->Wp C A (call (.ref (P.fad f)) xs) (Aa C (Rv C) g s ⟨σ.r,h'⟩ v) s
 new:∀A,Rm A n->∀c z vs h fs h',T.frz c=some z->D.ini c vs h=some (fs,h')->∀g σ s xs,σ.h=h->Ok C g σ s->A5 C g vs xs->
  Wp C A (call (.ref (C.cad c)) xs) (Aa C (Rv C) g s (Ka z σ.r h' c fs) (Oe z h' c fs)) s
section
variable {C:Cx}{T:Tab}(P:Px C T){A:Around}{g:Gh}{σ:St}{s:Shared}{env:PySem.Env}{k:Ck}
include P
theorem SQ {pos:Pos}{f:Value}{first:List Value}{as:List Expr}{w:V}{vs:List V}{jD jF:St}(hs:as.all Ar=true)(hk:keepIn P.K f=true)
  (h1:Wp C A (spliced (backTo pos (starEach as env))) (Aa C (A5 C) g s jD vs) s)
  (h2:∀jE jC xs,Go g s jE jC->Ok C jE jD jC->A5 C jE vs xs->Wp C A (call f (first++xs)) (Aa C (Rv C) jE jC jF w) jC):
  Wp C A (callWith pos f first (backTo pos (starEach as env)) []) (Aa C (Rv C) g s jF w) s:=by
 refine callWith_of (by rw[B0 hs];rfl) (keeps_K hk) (wpAny_mono (Eu hs h1) (λa jC q=>?_) λ_ _ x=>x)
 obtain⟨hkw,jE,G,K,r⟩:=q
 rw[hkw]
 exact⟨P.kIn K,(h2 jE jC a.pos G K r).mono λy jG q=>q.of G⟩
theorem YN {D:Den}{n:Nat}(hD:DOk P D n)(hA:Rm A n)(K:Ok C g σ s)(H:Ah env k g.loc){x:Str}{np pos:Pos}{f:Nat}{as:List Expr}{vs:List V}{v:V}{h':Hp}{jD:St}
  (hd:Az x=true)(hk:k.sc.names.lookup x=some .globalImplicit)(hg:P.gl x=some (.fn f))(hs:as.all Ar=true)
  (h1:Wp C A (spliced (backTo pos (starEach as env))) (Aa C (A5 C) g s jD vs) s)(e:D.fn f vs jD.h=some (v,h')):
  Wp C A (eval (.Call (.Name x np) as [] pos) env) (Aa C (Rv C) g s ⟨jD.r,h'⟩ v) s:=
 wpAny_Call_NameR (P.fn K H hd hk hg (SQ P hs (P.glF x f hg).2 h1 λjE jC xs G K r=>hD.fn A hA f vs _ v h' e jE jD jC xs rfl K r))
theorem cG {D:Den}{n:Nat}(hD:DOk P D n)(hA:Rm A n)(K:Ok C g σ s)(H:Ah env k g.loc){x:Str}{np pos:Pos}{c:Nat}{z:Bool}{as:List Expr}{vs:List V}{fs:List (Nat×V)}{h':Hp}{jD:St}
  (hd:Az x=true)(hk:k.sc.names.lookup x=some .globalImplicit)(hg:P.gl x=some (.cls c))(hs:as.all Ar=true)
  (h1:Wp C A (spliced (backTo pos (starEach as env))) (Aa C (A5 C) g s jD vs) s)(hz:T.frz c=some z)(e:D.ini c vs jD.h=some (fs,h')):
  Wp C A (eval (.Call (.Name x np) as [] pos) env) (Aa C (Rv C) g s (Ka z jD.r h' c fs) (Oe z h' c fs)) s:=
 wpAny_Call_NameR (P.cls K H hd hk hg (SQ P hs (P.glC x c hg).2 h1 λjE jC xs G K r=>hD.new A hA c z vs _ fs h' hz e jE jD jC xs rfl K r))
omit P in
theorem E1 {o:Expr}{name:Str}{apos pos:Pos}{as:List Expr}{M:Model}{E:Value->Shared->Prop}{Q:Value->Shared->Prop}(hn:Bw o=true)(hs:as.all Ar=true)(hl:Nat.blt as.length 29=true)(hline:(apos.endLine==pos.line)=true)
  (h:wpAny M A (eval o env) (λov jC=>∀pl,wpAny M A (getMethod ov name pl) (λp jG=>wpAny M A (callWith pos p.1 p.2 (backTo pos (starEach as env)) []) Q E jG) E jC) E s):
  wpAny M A (eval (.Call (.Attribute o name apos) as [] pos) env) Q E s:=by
 rw[arm_eval_Call,QB hn]
 refine wpAny_bind (wpAny_mono h (λov jC jS=>wpAny_bind (wpAny_standAt ?_)) λ_ _ x=>x)
 have hform:methodCallForm (as.length+([]:List Keyword).length) (backTo pos (starEach as env)) (backToKw pos (keywordEach [] env))=true:=by
  have hp:=B0 (env:=env) (pos:=pos) hs
  have hl:=Nat.le_of_ble_eq_true hl
  unfold methodCallForm
  rw[Bool.and_eq_true,Bool.and_eq_true]
  refine⟨⟨?_,rfl⟩,?_⟩
  ·rw[List.all_eq_not_any_not]
   simp only[Bool.not_not]
   rw[hp];rfl
  ·show decide (as.length+0+0<30)=true
   exact decide_eq_true (by exact((Ao 0x13e202020133313d2120139) hl))
 have hpos:methodCallPos true o env apos pos=pure pos:=by unfold methodCallPos;simp[hline]
 unfold methodCall
 rw[hform]
 show wpAny M A (holding [ov] (getMethod ov name _)>>=_) Q E jC
 refine wpAny_bind (wpAny_holding (wpAny_mono (jS _) (λp jG h₂=>?_) λ_ _ x=>x))
 exact wpAny_bind (wpAny_of_eq hpos h₂)
theorem Px.meth (K:Ok C g σ s){c m f n:Nat}{a d:Addr}{mm:Str->Option Value}{pl:Sem Bool}{E:Value->Shared->Prop}{Q:Value×List Value->Shared->Prop}(hm:T.mth c m=some f)
  (ha:s.heap.get? a=some (instObj (C.cad c) d))(hd:DG C c s.heap.get? d n mm)(q:Q (.ref (P.fad f),[.ref a]) s):
  wpAny (model C.prog C.w) A (getMethod (.ref a) (P.mnm m) pl) Q E s:=by
 refine Wz (P.mth c m f hm) λh1 h2 h3 h4 h5=>?_
 refine Wz (GV h1) λp1 p2 p3 p4 p5=>?_
 obtain⟨⟨o,es,ep,e1,e2,e3,e4,e5⟩,own⟩:=hd
 refine method_fn (P.kIn K) (Mg ha e1) p1 p2 h2 h3 ?_ q
 show(lookIn (P.mnm m) o).map (·.isSome)=some false
 rw[Ms e2 e3 e4]
 have:mm (P.mnm m)=none:=by
  cases e:mm (P.mnm m) with
  |none=>rfl
  |some x=>refine Ac (own _ _ e) λj q1 q2=>?_;exact absurd q2.symm (h5 j q1)
 rw[this];rfl
theorem cy {D:Den}{n:Nat}(hD:DOk P D n)(hA:Rm A n){o:Expr}{m:Nat}{apos pos:Pos}{f:Nat}{as:List Expr}{u v:V}{vs:List V}{h':Hp}{jD jF:St}
  (hn:Bw o=true)(hs:as.all Ar=true)(hl:Nat.blt as.length 29=true)(hline:(apos.endLine==pos.line)=true)
  (h1:Wp C A (eval o env) (Aa C (Rv C) g s jD u) s)
  (h2:∀jE jC,Go g s jE jC->Ok C jE jD jC->Wp C A (spliced (backTo pos (starEach as env))) (Aa C (A5 C) jE jC jF vs) jC)
  (hm:CX T u m jD.h=some f)(e:D.fn f (u::vs) jF.h=some (v,h')):
  Wp C A (eval (.Call (.Attribute o (P.mnm m) apos) as [] pos) env) (Aa C (Rv C) g s ⟨jF.r,h'⟩ v) s:=by
 refine E1 hn hs hl hline (h1.r λx jC jE G K r pl=>?_)
 have fin:∀a,Rv C jE u (.ref a)->keepIn P.K (.ref (P.fad f))=true->Wp C A (callWith pos (.ref (P.fad f)) [.ref a] (backTo pos (starEach as env)) []) (Aa C (Rv C) g s ⟨jF.r,h'⟩ v) jC:=λa r hk=>
  (SQ P hs hk (h2 jE jC G K) λjH jG xs G2 K2 r2=>hD.fn A hA f (u::vs) _ v h' e jH jF jG (.ref a::xs) rfl K2 (Hj (r.go G2) r2)).mono λy jG q=>q.of G
 have r':=r
 cases u<;>first|exact(ns hm).elim|skip
 ·revert r
  refine Wx r' λa d mm ha hd _ r=>?_
  exact P.meth K hm (K.fz _ _ ha) (hd.mono K.fz) (fin a r (P.mth _ _ _ hm).2.2.2.1)
 ·revert r
  refine J_ r' λb hb r=>?_
  rename_i n
  have hm:(match nth jD.h n with|some (.ins c _)=>T.mth c m|_=>none)=some f:=hm
  cases hc:nth jD.h n with
  |none=>rw[hc] at hm;exact(ns hm).elim
  |some cl=>
   rw[hc] at hm
   cases cl with
   |lst=>exact(ns hm).elim
   |ins c fs=>
    refine Q9 (K.cells _ _ hc) λa d mm ha0 _ _ ha hd _=>?_
    rw[s1 (hb.symm.trans ha0)] at r ⊢
    exact P.meth K hm ha hd (fin _ r (P.mth _ _ _ hm).2.2.2.1)
end
end Mine.Internal
end
section
set_option maxRecDepth 10000
namespace Mine.Internal
open PySem PySem.Calls PyProof.Rows PySem.W
theorem ND (n:Int)(t:Tok)(h0:0<=n)(h1:n<64):
  Meets (Builtin.«bytes.__new__» ⟨[.type "bytes",.int n t],[]⟩) (λ_ R s=>∀t' k,R (.ok (.ret (.bytes (Array.replicate n.toNat 0) t'))) {s with toks:=k}):=
 .of_wp λprog w A R s h=>by
  unfold Builtin.«bytes.__new__»
  refine wpAny_bind (wpAny_of_eq (a:=true) rfl ?_)
  refine bm_if_false rfl ?_
  refine wpAny_bind (wpAny_of_eq F.bm_sub ?_)
  refine bm_if_false rfl ?_
  refine wpAny_bind (wpAny_of_eq (F.bm_bind _) ?_)
  refine wpAny_bind (wpAny_of_eq (a:=()) rfl ?_)
  refine wpAny_bind (wpAny_of_eq (a:=()) rfl ?_)
  refine bm_if_false rfl ?_
  refine wpAny_bind (wpAny_specialOf (T:="int") (r:=none) (typeIs_int s n t) (by rw[typeLookup_type,builtinLookup_eq_fast];kernel_rfl) ?_)
  refine wpAny_bind (wpAny_of_eq (a:=false) rfl ?_)
  refine bm_if_false rfl ?_
  refine wpAny_bind (wpAny_specialOf (T:="int") (r:=some (.builtin "int.__index__")) (typeIs_int s n t) (by rw[typeLookup_type,builtinLookup_eq_fast];kernel_rfl) ?_)
  refine bm_if_false rfl ?_
  refine wpAny_bind (wpAny_attempt (wpAny_of_eq (a:=n) rfl ?_))
  have c1:(!Builtin.Bytes.fitsIndex n)=false:=by
   unfold Builtin.Bytes.fitsIndex
   simp only[Bool.not_eq_false',Bool.and_eq_true,decide_eq_true_eq]
   lia
  refine bm_if_false c1 ?_
  have c2:¬n<0:=by exact(Int.not_lt.mpr ((Aj 0x100020100025) h0))
  have c3:¬n>2 ^ 63 - 34:=by lia
  have c4:Builtin.Bytes.tooLong n.toNat=false:=by
   unfold Builtin.Bytes.tooLong
   rw[sizeLine_eq]
   skip
   lia
  show wpAny _ _ (if n<0 then _ else _) _ _ _
  rw[if_neg c2]
  show wpAny _ _ (if n>2 ^ 63 - 34 then _ else _) _ _ _
  rw[if_neg c3]
  refine bm_if_false c4 (wpAny_bind (wpAny_rule (wpAny_bind (wpAny_mkBytes ?_ ?_))))
  ·exact wpAny_of_eq (a:=.done (.ret (.bytes (Array.replicate n.toNat 0) s.toks))) (by kernel_rfl) ⟨_,rfl,h _ _⟩
  ·rw[sizeLine_eq];simp;exact((Aj 0x1188888888200011882006) h1)
theorem KU (b:Array UInt8)(t:Tok):
  Meets (Builtin.«bytes.__new__» ⟨[.type "bytes",.bytes b t],[]⟩) (λ_ R s=>R (.ok (.ret (.bytes b t))) s):=
 .of_wp λprog w A R s h=>by
  unfold Builtin.«bytes.__new__»
  refine wpAny_bind (wpAny_of_eq (a:=true) rfl ?_)
  refine bm_if_false rfl ?_
  refine wpAny_bind (wpAny_of_eq F.bm_sub ?_)
  refine bm_if_false rfl ?_
  refine wpAny_bind (wpAny_of_eq (F.bm_bind _) ?_)
  refine wpAny_bind (wpAny_of_eq (a:=()) rfl ?_)
  refine wpAny_bind (wpAny_of_eq (a:=()) rfl ?_)
  refine bm_if_false rfl ?_
  refine wpAny_bind (wpAny_specialOf (T:="bytes") (r:=some (.builtin "bytes.__bytes__")) (typeIs_bytes s b t) (by rw[typeLookup_type,builtinLookup_eq_fast];kernel_rfl) ?_)
  refine wpAny_bind (wpAny_rule (wpAny_bind (wpAny_typeOf (typeIs_bytes s b t) ?_)))
  refine bm_if_true rfl ?_
  exact wpAny_of_eq (a:=.done (.ret _)) (by kernel_rfl) ⟨_,rfl,h⟩
theorem Mi {prog:Program}{w:World}{A:Around}{E:Value->Shared->Prop}{s:Shared}{n:Int}{t:Tok}{Q:Value->Shared->Prop}(h0:0<=n)(h1:n<64)
  (h:∀t' k,Q (.bytes (Array.replicate n.toNat 0) t') {s with toks:=k}):wpAny (model prog w) A (call (.type "bytes") [.int n t]) Q E s:=
 callType_new F.bm_called (by decide) (F.bm_typeCall _) (F.bm_newCall _) (λobj=>F.args_object_init_2 obj _) F.bm_entry (ND n t h0 h1) λt' k=>⟨typeIs_bytes _ _ _,h t' k⟩
theorem IM {prog:Program}{w:World}{A:Around}{E:Value->Shared->Prop}{s:Shared}{b:Array UInt8}{t:Tok}{Q:Value->Shared->Prop}
  (h:Q (.bytes b t) s):wpAny (model prog w) A (call (.type "bytes") [.bytes b t]) Q E s:=
 callType_new F.bm_called (by decide) (F.bm_typeCall _) (F.bm_newCall _) (λobj=>F.args_object_init_2 obj _) F.bm_entry (KU b t) ⟨typeIs_bytes _ _ _,h⟩
section
variable {C:Cx}{A:Around}{g:Gh}{σ:St}{s:Shared}
theorem Aa.grown (K:Ok C g σ s){h':Heap}{tk:Tok}{v:V}{x:Value}(k:BA s.heap h')(h:Rv C g v x):Aa C (Rv C) g s σ v x {s with heap:=h',toks:=tk}:=
 ⟨g,.grow g k,K.grow k rfl rfl,h⟩
@[elab_as_elim] theorem Ej {f:V->Option V}{vs:List V}{c:V}{M:List V->Prop}(e:Iu f vs=some c)(k:∀v,f v=some c->M [v]):M vs:=by
 cases vs with
 |nil=>exact(ns e).elim
 |cons v r=>cases r with
  |nil=>exact k v e
  |cons=>exact(ns e).elim
@[elab_as_elim] theorem Wt {f:Int->Option V}{v c:V}{M:V->Prop}(e:ZC f v=some c)(k:∀i,f i=some c->M (.int i)):M v:=by
 cases v with
 |int i=>exact k i e
 |_=>exact(ns e).elim
@[elab_as_elim] theorem NI {f:List V->Option V}{v c:V}{M:V->Prop}(e:TA f v=some c)(k:∀i,f i=some c->M (.lst i)):M v:=by
 cases v with
 |lst i=>exact k i e
 |_=>exact(ns e).elim
@[elab_as_elim] theorem WM {f:V->Option V}{h:Int->Int->Option V}{vs:List V}{c:V}{M:List V->Prop}(e:aA f h vs=some c)(k1:∀v,f v=some c->M [v])(k2:∀a b,h a b=some c->M [.int a,.int b]):M vs:=by
 cases vs with
 |nil=>exact(ns e).elim
 |cons v r=>cases r with
  |nil=>exact k1 v e
  |cons w t=>cases t with
   |cons=>exact(ns e).elim
   |nil=>
    cases v<;>first|exact(ns e).elim|skip
    cases w<;>first|exact(ns e).elim|skip
    exact k2 _ _ e
@[elab_as_elim] theorem DO {v:V}{xs:List Value}{M:List Value->Prop}(h:A5 C g [v] xs)(k:∀x,Rv C g v x->M [x]):M xs:=by
 refine BR h λx r h1 h2=>?_
 refine C9 h2 ?_
 exact k x h1
theorem MH:∀{l:List V}{xs:List Value}{is:List Int},Ak C g.F g.φ l xs->D5 l=some is->IntsAre xs is
 |[],xs,is,h,e=>by
  refine C9 h ?_
  exact s1 (show some []=some is from e)▸.nil
 |v::l,xs,is,h,e=>by
  refine BR h λx r h1 h2=>?_
  cases v with
  |int i=>
   refine AK h1 λt=>?_
   refine CG (show(D5 l).map (i::·)=some is from e) λjs e=>?_
   exact .cons _ _ (MH h2 e)
  |_=>exact(ns e).elim
theorem Mw:∀{l:List V}{xs:List Value}{bs:List Nat},Ak C g.F g.φ l xs->FV l=some bs->IntsAre xs (bs.map Int.ofNat)/\∀b∈bs,b<256
 |[],xs,is,h,e=>by
  refine C9 h ?_
  exact s1 (show some []=some is from e)▸⟨.nil,λb h=>nomatch h⟩
 |v::l,xs,is,h,e=>by
  refine BR h λx r h1 h2=>?_
  cases v with
  |int i=>
   refine AK h1 λt=>?_
   refine AJ (show(match decide (0<=i)&&decide (i<256) with|true=>(FV l).map (i.toNat::·)|false=>none)=some is from e) λhb e=>Ab hb λh0 h3=>?_
   have h0:=of_decide_eq_true h0;have h3:=of_decide_eq_true h3
   refine CG e λjs e=>?_
   refine AU (Mw h2 e) λq1 q2=>⟨?_,λb hm=>(List.mem_cons.1 hm).elim (λe=>e▸by exact((E0 0x14882013100018714882006) h3 (Int.toNat_of_nonneg h0))) (q2 b)⟩
   rw[List.map_cons,show Int.ofNat i.toNat=i from Int.toNat_of_nonneg h0]
   exact .cons _ _ q1
  |_=>exact(ns e).elim
theorem Hv:∀(r:List Int)(a:Int),II a r∈a::r/\∀x∈a::r,II a r<=x
 |[],a=>⟨List.mem_cons_self,λx h=>(List.mem_singleton.1 h)▸Int.le_refl _⟩
 |b::r,a=>AU (Hv r (if b<a then b else a)) λh1 h2=>by
  have h3:=h2 _ List.mem_cons_self
  have h4:=λx hx=>h2 x (List.mem_cons_of_mem _ hx)
  refine⟨(List.mem_cons.1 h1).elim (λh=>?_) λh=>List.mem_cons_of_mem _ (List.mem_cons_of_mem _ h),λx hx=>(List.mem_cons.1 hx).elim (λe=>?_) λhx=>(List.mem_cons.1 hx).elim (λe=>?_) (h4 x)⟩
  ·rw[II,h];split
   ·exact List.mem_cons_of_mem _ List.mem_cons_self
   ·exact List.mem_cons_self
  ·rw[e,II];split at h3<;>split<;>lia
  ·rw[e,II];split at h3<;>split<;>lia
theorem Hn:∀(r:List Int)(a:Int),Jr a r∈a::r/\∀x∈a::r,x<=Jr a r
 |[],a=>⟨List.mem_cons_self,λx h=>(List.mem_singleton.1 h)▸Int.le_refl _⟩
 |b::r,a=>AU (Hn r (if a<b then b else a)) λh1 h2=>by
  have h3:=h2 _ List.mem_cons_self
  have h4:=λx hx=>h2 x (List.mem_cons_of_mem _ hx)
  refine⟨(List.mem_cons.1 h1).elim (λh=>?_) λh=>List.mem_cons_of_mem _ (List.mem_cons_of_mem _ h),λx hx=>(List.mem_cons.1 hx).elim (λe=>?_) λhx=>(List.mem_cons.1 hx).elim (λe=>?_) (h4 x)⟩
  ·rw[Jr,h];split
   ·exact List.mem_cons_of_mem _ List.mem_cons_self
   ·exact List.mem_cons_self
  ·rw[e,Jr];split at h3<;>split<;>lia
  ·rw[e,Jr];split at h3<;>split<;>lia
theorem QS:∀l:List Int,PK l=l.sum
 |[]=>rfl
 |a::l=>by simp[PK,QS l]
theorem LV (K:Ok C g σ s){s':Shared}{a b c:Int}{t u v:Tok}(hr:Eg a b c=true)(hs:s'.heap=s.heap.push {cls:=.type "range",data:=.fields #[.int a t,.int b u,.int c v]})(hg:s'.gens=s.gens)(ho:s'.os=s.os):
  Aa C (Rv C) g s σ (.rng a b c) (.ref s.heap.objs.size) s':=by
 refine Cz (K.push (o:={cls:=.type "range",data:=.fields #[.int a t,.int b u,.int c v]}) rfl hs hg ho) λK' G r h=>?_
 refine AU (K'.chill r h) λK2 e=>?_
 refine⟨_,G.chill r (Bg (Nat.le_refl _)),K2,?_⟩
 skip
 exact⟨hr,_,rfl,t,u,v,e⟩
theorem Q1 (K:Ok C g σ s){h':Heap}{tk:Tok}{a:Addr}{xs:List Value}{n:Nat}{T:String}(ha:¬As s a)(k:BA s.heap h')(e:h'.get? a=some {cls:=.type T,data:=.seq xs.toArray n,slots:=#[]}):
  ∃g',Go g s g' {s with heap:=h',toks:=tk}/\Ok C g' σ {s with heap:=h',toks:=tk}/\A6 T g'.F a xs:=by
 have q:=K.none_of_fresh ha
 have K1:Ok C g σ {s with heap:=h',toks:=tk}:=K.grow k rfl rfl
 have r:AX g {s with heap:=h',toks:=tk} a:=⟨q.1,q.2,_,e⟩
 obtain⟨K2,e2⟩:=K1.chill r e
 exact⟨_,(Go.grow g k).chill r ha,K2,_,e2,rfl,rfl,n,rfl⟩
theorem UP {l:List V}{xs:List Value}(h:l.length<=line)(hx:Ak C g.F g.φ l xs):xs.toArray.size<=sizeLine:=by rw[AB,List.size_toArray,hx.length];exact h
theorem Ot {n:Nat}(h:n<=line):¬((n:Int)≥2 ^ 63):=by simp only[line] at h;lia
theorem ZR (K:Ok C g σ s)(hh:A.handled=none){vs:List V}{xs:List Value}{c:V}(hx:A5 C g vs xs)(e:Zr vs=some c):Wp C A (call (BI.val .len) xs) (Aa C (Rv C) g s σ c) s:=by
 revert hx;refine Ej e λv e hx=>?_
 refine DO hx λx h=>?_
 cases v<;>first|exact(ns e).elim|skip
 ·refine CL h λt hz=>?_
  rw[<-s1 e]
  exact P.len_str (Ot hz) (Aa.tok K _ AW)
 ·refine Cs h λt hz hb=>?_
  rw[<-s1 e,<-List.length_map (f:=Nat.toUInt8)]
  exact len_bytes (Nat.le_trans (by rw[List.size_toArray,List.length_map];exact hz) (show line<=_ by decide)) (Aa.tok K _ AW)
 ·refine D3 h λa ys hz ha hl=>?_
  rw[<-s1 e,<-hl.length]
  exact len_tuple (K.isTup ha) (Int.not_le.mp (Ot (show ys.length<=line by rw[hl.length];exact hz))) (Aa.tok K _ AW)
 ·refine BJ h λa ys hz ha hl=>?_
  rw[<-s1 e,<-hl.length]
  exact call_len_list (K.isList ha) (Int.not_le.mp (Ot (show ys.length<=line by rw[hl.length];exact hz))) (Aa.tok K _ AW)
@[elab_as_elim] theorem OH {a b c:Int}{v:V}{M:V->Prop}(e:Sw a b c=some v)(k:Eg a b c=true->M (.rng a b c)):M v:=AJ e λh e=>s1 e▸k h
theorem VG (K:Ok C g σ s)(hh:A.handled=none){vs:List V}{xs:List Value}{c:V}(hx:A5 C g vs xs)(e:UB vs=some c):Wp C A (call (BI.val .range) xs) (Aa C (Rv C) g s σ c) s:=by
 cases vs with
 |nil=>exact(ns e).elim
 |cons u l=>
 refine BR hx λx r h h1=>?_
 clear hx
 cases u<;>first|exact(ns e).elim|skip
 refine AK h λt=>?_
 clear h
 cases l with
 |nil=>
  refine C9 h1 ?_
  refine OH e λq=>?_
  exact call_range_1 (LV K q rfl rfl rfl)
 |cons u l=>
 refine BR h1 λx r h h2=>?_
 clear h1
 cases u<;>first|exact(ns e).elim|skip
 refine AK h λt'=>?_
 clear h
 cases l with
 |nil=>
  refine C9 h2 ?_
  refine OH e λq=>?_
  exact call_range_2 (LV K q rfl rfl rfl)
 |cons u l=>
 refine BR h2 λx r h h3=>?_
 clear h2
 cases u<;>first|exact(ns e).elim|skip
 refine AK h λt''=>?_
 clear h
 cases l with
 |cons=>exact(ns e).elim
 |nil=>
  refine C9 h3 ?_
  refine OH e λq0=>?_
  have q:=q0
  simp only[Eg,LW,Bool.and_eq_true,decide_eq_true_eq] at q
  exact call_range_3 (by exact(Int.ne_of_gt ((Aj 0x100021100026) q.1.2))) (LV K q0 rfl rfl rfl) (.inl (PyProof.noPylong_of_log2 ((Nat.log2_lt (by lia)).2 (Nat.lt_trans (show _<2 ^ 63 by lia) (Nat.pow_lt_pow_right (by decide) (by decide))))))
theorem Wl (K:Ok C g σ s)(hh:A.handled=none){vs:List V}{xs:List Value}{c:V}(hx:A5 C g vs xs)(e:TK vs=some c):Wp C A (call (BI.val .bytes) xs) (Aa C (Rv C) g s σ c) s:=by
 revert hx;refine Ej e λv e hx=>?_
 refine DO hx λx h=>?_
 cases v<;>first|exact(ns e).elim|skip
 ·rename_i n
  refine AK h λt=>AJ e λq e=>Ab q λq0 q1=>?_
  refine Ko e λhz=>?_
  refine Mi (of_decide_eq_true q0) (of_decide_eq_true q1) λt' k=>Aa.tok K _ ?_
  have:=ES (C:=C) (g:=g) (t:=t') hz λb hb=>by rw[(List.mem_replicate.1 hb).2];decide
  rw[List.map_replicate] at this
  exact this
 ·refine Cs h λt hz hb=>?_
  rw[<-s1 e]
  exact IM (Aa.here K (ES hz hb))
 ·refine BJ h λa ys hz ha hl=>Ai e λbs e1 e=>?_
  refine Ko e λhz2=>AU (Mw hl e1) λq1 q2=>?_
  refine call_bytes_ints (K.isList ha) q1 (λn hn=>?_) (by rw[AB,hl.length];exact hz) hh λh' t k hk=>Aa.grown K hk ?_
  ·refine Ac (List.mem_map.1 hn) λb hb e=>e▸⟨Int.natCast_nonneg b,Int.ofNat_lt.mpr (q2 b hb)⟩
  ·have:byteArr (bs.map Int.ofNat)=(bs.map Nat.toUInt8).toArray:=by
    unfold byteArr
    rw[List.map_map]
    rfl
   rw[this]
   exact ES hz2 q2
theorem Yh (K:Ok C g σ s)(hh:A.handled=none){vs:List V}{xs:List Value}{c:V}(hx:A5 C g vs xs)(e:WU vs=some c):Wp C A (call (BI.val .list) xs) (Aa C (Rv C) g s σ c) s:=by
 revert hx;refine Ej e λv e hx=>?_
 refine DO hx λx h=>?_
 have go:∀{l:List V}{a:Addr}{ys:List Value}{T:String},T="list"\/T="tuple"->l.length<=line->A6 T g.F a ys->Ak C g.F g.φ l ys->Wp C A (call (BI.val .list) [.ref a]) (Aa C (Rv C) g s σ (.lst l)) s:=λ{l a ys T} hT hz ha hl=>
  Ez (B9 (K.seq ha)) λn sl ea=>call_list_seq a hT ea rfl rfl (λh' c' k e=>CP (Q1 (tk:=s.toks) K (Bg (Nat.le_refl _)) k e) λg' G K' f=>⟨g',G,K',aS hz f (hl.go G)⟩) (UP hz hl)
 cases v<;>first|exact(ns e).elim|skip
 ·refine D3 h λa ys hz ha hl=>s1 e▸go (.inr rfl) hz ha hl
 ·refine BJ h λa ys hz ha hl=>s1 e▸go (.inl rfl) hz ha hl
theorem V5 (K:Ok C g σ s)(hh:A.handled=none){vs:List V}{xs:List Value}{c:V}(hx:A5 C g vs xs)(e:Ue vs=some c):Wp C A (call (BI.val .tuple) xs) (Aa C (Rv C) g s σ c) s:=by
 revert hx;refine Ej e λv e=>NI e λl e hx=>?_
 refine DO hx λx h=>?_
 refine BJ h λa ys hz ha hl=>?_
 rw[<-s1 e]
 refine call_tuple_list (K.isList ha) (λh' k=>?_) (UP hz hl)
 exact Aa.of (jC:={s with heap:=h'}) (Go.grow g k) (Aa.tup (K.grow k rfl rfl:Ok C g σ {s with heap:=h'}) (n:=0) rfl rfl rfl hz hl)
theorem cR (K:Ok C g σ s)(hh:A.handled=none){vs:List V}{xs:List Value}{c:V}(hx:A5 C g vs xs)(e:cg vs=some c):Wp C A (call (BI.val .int) xs) (Aa C (Rv C) g s σ c) s:=by
 revert hx;refine Ej e λv e=>Wt e λl e hx=>?_
 refine DO hx λx h=>?_
 refine AK h λt=>?_
 exact s1 e▸call_int_int (Aa.here K AW)
theorem ZL (K:Ok C g σ s)(hh:A.handled=none){vs:List V}{xs:List Value}{c:V}(hx:A5 C g vs xs)(e:WR vs=some c):Wp C A (call (BI.val .ord) xs) (Aa C (Rv C) g s σ c) s:=by
 revert hx;refine Ej e λv e hx=>?_
 refine DO hx λx h=>?_
 cases v<;>first|exact(ns e).elim|skip
 rename_i l
 cases l with
 |nil=>exact(ns e).elim
 |cons z r=>cases r with
  |cons=>exact(ns e).elim
  |nil=>
   refine CL h λt hz=>?_
   exact s1 e▸P.ord_of_char (Aa.tok K _ AW)
theorem aB (K:Ok C g σ s)(hh:A.handled=none){vs:List V}{xs:List Value}{c:V}(hx:A5 C g vs xs)(e:cc vs=some c):Wp C A (call (BI.val .chr) xs) (Aa C (Rv C) g s σ c) s:=by
 revert hx;refine Ej e λv e=>Wt e λl e hx=>AJ e λq e=>Ab q λq0 q1=>?_
 refine DO hx λx h=>?_
 refine AK h λt=>?_
 rw[<-s1 e]
 exact chr_of_range (of_decide_eq_true q0) (by have:=of_decide_eq_true q1;exact((Aj 0x149fffff200012882006) this)) (Aa.tok K _ (UR (show 1<=line by decide)))
@[elab_as_elim] theorem W7 {f:Int->List Int->Int}{o:Option (List Int)}{c:V}{M:V->Prop}(e:ZA f o=some c)(k:∀a r,o=some (a::r)->M (.int (f a r))):M c:=by
 cases o with
 |none=>exact(ns e).elim
 |some l=>cases l with
  |nil=>exact(ns e).elim
  |cons a r=>exact s1 e▸k a r rfl
theorem QK {i z:Int}{r:List Int}{ys:Array (Int×Tok)}{n:Nat}{le:Int->Int->Prop}(anti:∀a b,le a b->le b a->a=b)(hns:i::r=ys.toList.map (·.1))(h1:n<ys.size)(h2:∀j,j<ys.size->le (numAt ys n) (numAt ys j))(m1:z∈i::r)(m2:∀x∈i::r,le z x):numAt ys n=z:=by
 refine anti _ _ ?_ (m2 _ ?_)
 ·rw[hns] at m1
  refine Ac (mem_getD m1) λj hj e=>?_
  rw[List.length_map,Array.length_toList] at hj
  rw[<-e,<-numAt_eq];exact h2 j hj
 ·rw[hns,numAt_eq];exact getD_mem (by rw[List.length_map,Array.length_toList];exact h1)
theorem LK {l:List V}{xs:List Value}{is:List Int}{a:Addr}(K:Ok C g σ s)(ha:A6 "list" g.F a xs)(hl:Ak C g.F g.φ l xs)(e:D5 l=some is):∃ys:Array (Int×Tok),is=ys.toList.map (·.1)/\s.heap.IsList a (intItems ys):=
 have hi:=MH hl e
 AA hi.allInts.items λys e2=>⟨ys,by rw[<-hi.numsOf,<-nums_intItems,<-e2],e2▸K.isList ha⟩
theorem Gb {i:Int}{r:List Int}{ys:Array (Int×Tok)}(h:i::r=ys.toList.map (·.1)):0<ys.size:=by
 have h3:0<(i::r).length:=Nat.succ_pos _
 rw[h,List.length_map,Array.length_toList] at h3;exact h3
theorem Zv (K:Ok C g σ s)(hh:A.handled=none){vs:List V}{xs:List Value}{c:V}(hx:A5 C g vs xs)(e:cI vs=some c):Wp C A (call (BI.val .min) xs) (Aa C (Rv C) g s σ c) s:=by
 revert hx;refine WM e ?_ ?_
 ·intro v e
  refine NI e λl e hx=>?_
  refine DO hx λx h=>?_
  refine BJ h λa ys hz ha hl=>W7 e λi r e1=>Ac (LK K ha hl e1) λys hns hla=>?_
  refine min_intList hh hla (Gb hns) λv h' tk hv hk=>Aa.grown K hk ?_
  refine AA (intItems_at hv) λt ht=>?_
  have hp:=Gb hns
  refine AU (argBest_lt (numAt ys) (ys.size - 1)) λh1 h2=>?_
  rw[ht,QK (le:=(·<=·)) (λ_ _=>Int.le_antisymm) hns (by exact((BM 0x12101312112113b111019) h1 (Nat.sub_add_cancel ((Ao 0x10112210102a) hp)))) (λj hj=>h2 j (by exact((BM 0x12101211112213c11101a) hj (Nat.sub_add_cancel ((Ao 0x10112210102a) hp))))) (Hv r i).1 (Hv r i).2]
  exact AW
 ·intro a b e hx
  refine BR hx λx r h1 h3=>?_
  refine DO h3 λy h2=>?_
  refine AK h1 λt=>?_
  refine AK h2 λu=>?_
  rw[<-s1 e]
  refine min_two_ints hh λh' tk k=>Aa.grown K k ?_
  split<;>exact AW
theorem bI (K:Ok C g σ s)(hh:A.handled=none){vs:List V}{xs:List Value}{c:V}(hx:A5 C g vs xs)(e:cN vs=some c):Wp C A (call (BI.val .max) xs) (Aa C (Rv C) g s σ c) s:=by
 revert hx;refine WM e ?_ ?_
 ·intro v e
  refine NI e λl e hx=>?_
  refine DO hx λx h=>?_
  refine BJ h λa ys hz ha hl=>W7 e λi r e1=>Ac (LK K ha hl e1) λys hns hla=>?_
  refine max_intList hh hla (Gb hns) λv h' tk hv hk=>Aa.grown K hk ?_
  refine AA (intItems_at hv) λt ht=>?_
  have hp:=Gb hns
  refine AU (argBest_gt (numAt ys) (ys.size - 1)) λh1 h2=>?_
  rw[ht,QK (le:=(·≥·)) (λ_ _ a b=>Int.le_antisymm b a) hns (by exact((BM 0x12101312112113b111019) h1 (Nat.sub_add_cancel ((Ao 0x10112210102a) hp)))) (λj hj=>h2 j (by exact((BM 0x12101211112213c11101a) hj (Nat.sub_add_cancel ((Ao 0x10112210102a) hp))))) (Hn r i).1 (Hn r i).2]
  exact AW
 ·intro a b e hx
  refine BR hx λx r h1 h3=>?_
  refine DO h3 λy h2=>?_
  refine AK h1 λt=>?_
  refine AK h2 λu=>?_
  rw[<-s1 e]
  refine max_two_ints hh λh' tk k=>Aa.grown K k ?_
  split<;>exact AW
theorem Z6 (K:Ok C g σ s)(hh:A.handled=none){vs:List V}{xs:List Value}{c:V}(hx:A5 C g vs xs)(e:ax vs=some c):Wp C A (call (BI.val .sum) xs) (Aa C (Rv C) g s σ c) s:=by
 revert hx;refine Ej e λv e=>NI e λl e hx=>?_
 refine DO hx λx h=>?_
 refine BJ h λa ys hz ha hl=>?_
 refine CG e λis e1=>Ac (LK K ha hl e1) λys hns hla=>?_
 refine sum_intListG hh hla λh' tk t' hk=>Aa.grown K hk ?_
 have:preSum (numAt ys) ys.size=PK is:=by
  rw[preSum_eq,QS,hns,List.take_of_length_le (by simp)]
 rw[this];exact AW
theorem dg (K:Ok C g σ s)(hh:A.handled=none){b:BI}(hb:b≠.sorted){vs:List V}{xs:List Value}{c:V}(hx:A5 C g vs xs)(e:Be b vs=some c):
  Wp C A (call b.val xs) (Aa C (Rv C) g s σ c) s:=by
 cases b with
 |len=>exact ZR K hh hx e
 |range=>exact VG K hh hx e
 |bytes=>exact Wl K hh hx e
 |list=>exact Yh K hh hx e
 |tuple=>exact V5 K hh hx e
 |int=>exact cR K hh hx e
 |ord=>exact ZL K hh hx e
 |chr=>exact aB K hh hx e
 |min=>exact Zv K hh hx e
 |max=>exact bI K hh hx e
 |sum=>exact Z6 K hh hx e
 |sorted=>exact absurd rfl hb
end
end Mine.Internal
end
section
set_option maxRecDepth 10000
namespace Mine.Internal
open PySem PySem.Calls PyProof.Rows PySem.W
section
variable {C:Cx}{A:Around}{g:Gh}{σ:St}{s:Shared}{env:PySem.Env}{k:Ck}
noncomputable def Gh.melt (g:Gh)(a:Addr)(o:Obj):Gh:={g with F:=λb=>if b=a then some o else g.F b,Ω:=λb=>if b=a then none else g.Ω b}
theorem Ok.melt (K:Ok C g σ s){i:Nat}{l:AN}{a:Addr}{o:Obj}{v:V}(hl:g.loc i=some l)(ha:g.Ω a=some (.uq i))(ho:s.heap.get? a=some o)(hh:l.has s.heap (.ref a))
  (hv:Rp C (g.melt a o).F g.φ v (.ref a)):Ok C (g.melt a o) ⟨put σ.r i (.val v),σ.h⟩ s/\Go g s (g.melt a o) s/\Rv C (g.melt a o) v (.ref a):=by
 have hF:Bk g.F (g.melt a o).F:=λb x e=>by
  show(if b=a then some o else g.F b)=some x
  rw[if_neg λq=>by subst q;rw[(K.own _ _ ha).1] at e;cases e];exact e
 have ne:∀b t,g.Ω b=some t->t≠.uq i->(g.melt a o).Ω b=some t:=λb t e q=>by
  show(if b=a then none else g.Ω b)=some t
  rw[if_neg λz=>by subst z;rw[ha] at e;(have z1:=s1 e;clear e;subst z1);exact q rfl];exact e
 have no:∀b t,(g.melt a o).Ω b=some t->b≠a/\g.Ω b=some t:=λb t e=>by
  have e:(if b=a then none else g.Ω b)=some t:=e
  by_cases q:b=a
  ·rw[if_pos q] at e;exact(ns e).elim
  ·rw[if_neg q] at e;exact⟨q,e⟩
 refine⟨{
  fz:=λb x e=>by
   have e:(if b=a then some o else g.F b)=some x:=e
   by_cases q:b=a
   ·subst q;rw[if_pos rfl] at e;refine AZ e ?_;exact ho
   ·rw[if_neg q] at e;exact K.fz _ _ e
  base:=K.base.trans hF
  own:=λb t e=>by
   obtain⟨q,e⟩:=no b t e
   refine⟨?_,(K.own b t e).2⟩
   show(if b=a then some o else g.F b)=none
   rw[if_neg q];exact(K.own b t e).1
  len:=K.len
  cells:=λn c e=>BX.mono (g:=g) (h:=s.heap) hF (.refl g.φ) (λb q=>⟨by rcases q with q|q<;>rw[q,ne _ _ q (λh=>by cases h)],λ_ h=>h⟩) (K.cells n c e)
  slots:=λj sl l' e el=>?_
  locs:=λj l' e=>by
   have q:=K.locs j l' e
   cases l' with
   |d L x=>exact⟨ne _ _ q.1 (λh=>by cases h),q.2⟩
   |c L=>exact⟨ne _ _ q.1 (λh=>by cases h),q.2⟩
  inj:=K.inj
  gens:=K.gens
  os:=K.os},⟨⟨hF,.refl _,rfl,rfl,λ_ h=>h,λb x e q=>⟨e,?_,?_⟩⟩,λ_ _ _ _ h=>h⟩,hv⟩
 ·rcases FC e with⟨rfl,rfl⟩|⟨q,e⟩
  ·cases hl.symm.trans el
   exact⟨_,hh,hv⟩
  ·refine Bs.mono (g:=g) (h:=s.heap) hF (.refl g.φ) rfl (λ_ h=>h) (λb z=>⟨?_,λ_ h=>h⟩) (K.slots j sl l' e el)
   rcases z with z|z
   ·rw[z,ne _ _ z (λh=>by cases h;exact q rfl)]
   ·rw[z,ne _ _ z (λh=>by cases h)]
 ·show(if b=a then some o else g.F b)=g.F b
  rw[if_neg λz=>by subst z;rw[ha] at q;cases q]
 ·show(if b=a then none else g.Ω b)=none
  by_cases z:b=a
  ·rw[if_pos z]
  ·rw[if_neg z];exact q
theorem fY (H:Ah env k g.loc)(K:Ok C g σ s){x:Str}{pos:Pos}{i:Nat}{v:V}{jI:St}(hi:lk x k.vars=some i)(hd:Az x=true)
  (e:(match nth σ.r i with|some (.val v)=>some (v,σ)|some (.ul l)=>some (.lst l,⟨put σ.r i (.val (.lst l)),σ.h⟩)|some (.ud l)=>some (.dct l,⟨put σ.r i (.val (.dct l)),σ.h⟩)|_=>none)=some (v,jI)):
  Wp C A (eval (.Name x pos) env) (Aa C (Rv C) g s jI v) s:=by
 refine AA (H.at hi) λl hl=>?_
 split at e
 ·rename_i u e1
  refine BU e ?_
  refine Ac (K.slots i _ l e1 hl) λy h1 h2=>?_
  exact AN.name H hi hd (λl' e'=>by cases hl.symm.trans e';exact h1) (Aa.here K h2)
 ·rename_i vs e1
  refine BU e ?_
  obtain⟨hz,a,xs,h1,h2,h3,h4⟩:=K.slots i _ l e1 hl
  refine Ac (id h3) λo h5 h6=>?_
  have hF:Bk g.F (g.melt a o).F:=λb x e=>by
   show(if b=a then some o else g.F b)=some x
   rw[if_neg λq=>by subst q;rw[(K.own _ _ h2).1] at e;cases e];exact e
  obtain⟨K',G,r⟩:=K.melt (v:=.lst vs) hl h2 h5 h1 (by skip;exact⟨hz,a,xs,rfl,⟨o,if_pos rfl,h6⟩,h4.mono hF (.refl _)⟩)
  exact AN.name H hi hd (λl' e'=>by cases hl.symm.trans e';exact h1) ⟨_,G,K',r⟩
 ·rename_i vs e1
  refine BU e ?_
  refine IC (K.slots i _ l e1 hl) λa o h1 h2 h3 h5 h6=>?_
  have hF:Bk g.F (g.melt a o).F:=λb x e=>by
   show(if b=a then some o else g.F b)=some x
   rw[if_neg λq=>by subst q;rw[(K.own _ _ h2).1] at e;cases e];exact e
  obtain⟨K',G,r⟩:=K.melt (v:=.dct vs) hl h2 h5 h1 (by
   skip
   refine⟨a,o,rfl,h3,if_pos rfl,?_⟩
   rcases h6 with⟨kv,q1,q2⟩|⟨kv,q1,q2⟩
   ·exact .inl ⟨kv,q1,BK.mono hF (.refl _) q2⟩
   ·exact .inr ⟨kv,q1,B6.mono hF (.refl _) q2⟩)
  exact AN.name H hi hd (λl' e'=>by cases hl.symm.trans e';exact h1) ⟨_,G,K',r⟩
 ·exact(ns e).elim
theorem OX {α:Type}:∀{l:List α}{n:Nat}{x y:α},nth (l++[x]) n=some y->nth l n=some y\/(n=l.length/\y=x)
 |[],0,_,_,e=>by cases e;exact .inr ⟨rfl,rfl⟩
 |[],n+1,_,_,e=>by cases e
 |a::l,0,_,_,e=>by cases e;exact .inl rfl
 |a::l,n+1,x,y,e=>by
  rcases OX (l:=l) e with h|⟨h,h'⟩
  ·exact .inl h
  ·exact .inr ⟨by simp[h],h'⟩
theorem EL {α:Type}:∀{l:List α}{x:α},nth (l++[x]) l.length=some x
 |[],_=>rfl
 |_::l,_=>EL (l:=l)
theorem Ok.cell (K:Ok C g σ s){a:Addr}{c:Cell}{j3:Addr->Option Tag}(h1:∀b t,g.Ω b=some t->j3 b=some t)(h2:∀b t,j3 b=some t->g.Ω b=some t\/AX g s b)
  (hc:BX C {g with φ:=g.φ++[a],Ω:=j3} s.heap σ.h.length c):Ok C {g with φ:=g.φ++[a],Ω:=j3} ⟨σ.r,σ.h++[c]⟩ s where
 fz:=K.fz
 base:=K.base
 own:=λb t e=>by
  rcases h2 b t e with q|q
  ·exact K.own b t q
  ·exact⟨q.f,q.lt⟩
 len:=by simp[K.len]
 cells:=λn c' e=>by
  rcases OX e with e|⟨rfl,rfl⟩
  ·exact BX.mono (g:=g) (h:=s.heap) (.refl _) ⟨[a],rfl⟩ (λb q=>⟨by rcases q with q|q<;>exact(h1 _ _ q).trans q.symm,λ_ h=>h⟩) (K.cells n c' e)
  ·exact hc
 slots:=λj sl l' e el=>Bs.mono (g:=g) (h:=s.heap) (.refl _) ⟨[a],rfl⟩ rfl (λ_ h=>h) (λb q=>⟨by rcases q with q|q<;>exact(h1 _ _ q).trans q.symm,λ_ h=>h⟩) (K.slots j sl l' e el)
 locs:=λj l' e=>by
  have q:=K.locs j l' e
  cases l' with
  |d L x=>exact⟨h1 _ _ q.1,q.2⟩
  |c L=>exact⟨h1 _ _ q.1,q.2⟩
 inj:=K.inj
 gens:=K.gens
 os:=K.os
theorem Go.cell {g g':Gh}{s s':Shared}(G:Go g s g' s'){a:Addr}{j3:Addr->Option Tag}(h:∀b,As s b->g'.Ω b=none->j3 b=none):
  Go g s {g' with φ:=g'.φ++[a],Ω:=j3} s':=
 ⟨⟨G.F,G.φ.trans ⟨[a],rfl⟩,G.loc,G.me,G.live,λb x e q=>let ⟨x,y,z⟩:=G.keep b x e q;⟨x,y,h b ⟨_,e⟩ z⟩⟩,G.kl⟩
theorem Y7 {es:List Expr}{pos:Pos}{vs:List V}{jD:St}(hz:AO vs.length=true)(h1:Wp C A (spliced (backTo pos (starEach es env))) (Aa C (A5 C) g s jD vs) s):
  Wp C A (eval (.List es pos) env) (Aa C (Rv C) g s ⟨jD.r,jD.h++[.lst vs]⟩ (.ref jD.h.length)) s:=by
 refine wpAny_List (h1.r λxs jC jE G K r=>⟨?_,?_⟩)
 ·rw[AB,Ak.length r];exact Bo hz
 ·refine Cz (K.push (s':={jC with heap:=jC.heap.push {cls:=.type "list",data:=.seq xs.toArray}}) rfl rfl rfl rfl) λK1 G1 R1 e1=>?_
  have nl:¬As jC jC.heap.objs.size:=Bg (Nat.le_refl _)
  have h2:∀b t,(λb=>if b=jC.heap.objs.size then some (Tag.ho jD.h.length) else jE.Ω b) b=some t->jE.Ω b=some t\/AX jE {jC with heap:=jC.heap.push {cls:=.type "list",data:=.seq xs.toArray}} b:=λb t e=>by
   by_cases q:b=jC.heap.objs.size
   ·subst q;exact .inr R1
   ·simp only[if_neg q] at e;exact .inl e
  have K2:=K1.cell (a:=jC.heap.objs.size) (c:=.lst vs) (j3:=λb=>if b=jC.heap.objs.size then some (.ho jD.h.length) else jE.Ω b)
   (λb t e=>by rw[if_neg λq=>by subst q;rw[R1.o] at e;cases e];exact e) h2
   ⟨Bo hz,jC.heap.objs.size,xs,by rw[<-K1.len];exact EL,if_pos rfl,⟨_,e1,rfl,rfl,_,rfl⟩,Ak.mono (.refl _) ⟨_,rfl⟩ r⟩
  refine⟨_,G.trans (G1.cell λb hb q=>?_),K2,?_⟩
  ·show(if b=jC.heap.objs.size then some (Tag.ho jD.h.length) else jE.Ω b)=none
   rw[if_neg λz=>nl (by rw[<-z];exact hb)];exact q
  ·exact⟨_,(by rw[<-K1.len];exact EL),rfl⟩
end
end Mine.Internal
end
section
set_option maxRecDepth 10000
namespace Mine.Internal
open PySem PySem.Calls PyProof.Rows PySem.W
section
variable {C:Cx}{T:Tab}(P:Px C T){A:Around}{g:Gh}{σ:St}{s:Shared}{env:PySem.Env}{k:Ck}
theorem AN.has_det {h:Heap}{u v:Value}:∀(l:AN),l.has h u->l.has h v->u=v
 |.d L x,⟨m,a,b⟩,⟨m',a',b'⟩=>by have:=a.agree a' x;rw[b,b'] at this;exact Option.some.inj this
 |.c a,⟨o,h1,h2⟩,⟨o',h1',h2'⟩=>by
  rw[h1] at h1';(have z1:=s1 h1';clear h1';subst z1)
  rw[h2] at h2';cases h2';rfl
noncomputable def DP (C:Cx)(g:Gh)(s:Shared)(jI:St)(l:List V)(x:Value)(s':Shared):Prop:=
 ∃g' a xs,x=.ref a/\Go g s g' s'/\Ok C g' jI s'/\AX g' s' a/\A6 "list" s'.heap.get? a xs/\Ak C g'.F g'.φ l xs/\l.length<=line/\¬As s a
noncomputable def Dk (C:Cx)(g:Gh)(s:Shared)(jI:St)(l:List (V×V))(x:Value)(s':Shared):Prop:=
 ∃g' a o,x=.ref a/\Go g s g' s'/\Ok C g' jI s'/\AX g' s' a/\s'.heap.get? a=some o/\Cu C g' o l/\(a==sysModules)=false/\¬As s a
theorem Dk.of {jE:Gh}{jC s':Shared}{jI:St}{l:List (V×V)}{x:Value}(G:Go g s jE jC)(h:Dk C jE jC jI l x s'):Dk C g s jI l x s':=
 let ⟨g',a,xs,h1,h2,h3,h4,h5,h6,h7,h8⟩:=h;⟨g',a,xs,h1,G.trans h2,h3,h4,h5,h6,h7,λq=>h8 (G.live a q)⟩
theorem DP.frz {s':Shared}{jI:St}{l:List V}{x:Value}(h:DP C g s jI l x s'):Aa C (Rv C) g s jI (.lst l) x s':=by
 obtain⟨g',a,xs,rfl,G,K,r,⟨o,e,h1⟩,hx,hz,hn⟩:=h
 refine AU (K.chill r e) λK2 e2=>?_
 have hF:Bk g'.F (g'.frz a o).F:=.frz (.inl r.f)
 exact⟨_,G.chill r hn,K2,by skip;exact⟨hz,a,xs,rfl,⟨o,e2,h1⟩,hx.mono hF (.refl _)⟩⟩
theorem Dk.frz {s':Shared}{jI:St}{l:List (V×V)}{x:Value}(h:Dk C g s jI l x s'):Aa C (Rv C) g s jI (.dct l) x s':=by
 obtain⟨g',a,o,rfl,G,K,r,e,h1,hs,hn⟩:=h
 refine AU (K.chill r e) λK2 e2=>?_
 have hF:Bk g'.F (g'.frz a o).F:=.frz (.inl r.f)
 refine⟨_,G.chill r hn,K2,?_⟩
 skip
 refine⟨a,o,rfl,hs,e2,?_⟩
 rcases h1 with⟨kv,q1,q2⟩|⟨kv,q1,q2⟩
 ·exact .inl ⟨kv,q1,BK.mono hF (.refl _) q2⟩
 ·exact .inr ⟨kv,q1,B6.mono hF (.refl _) q2⟩
theorem Qz {es:List Expr}{pos:Pos}{vs:List V}{jD:St}(hz:AO vs.length=true)(h1:Wp C A (spliced (backTo pos (starEach es env))) (Aa C (A5 C) g s jD vs) s):
  Wp C A (eval (.List es pos) env) (DP C g s jD vs) s:=by
 refine wpAny_List (h1.r λxs jC jE G K r=>⟨?_,?_⟩)
 ·rw[AB,Ak.length r];exact Bo hz
 ·refine Cz (K.push (s':={jC with heap:=jC.heap.push {cls:=.type "list",data:=.seq xs.toArray}}) rfl rfl rfl rfl) λK1 G1 R1 e1=>?_
  exact⟨jE,_,xs,rfl,G.trans G1,K1,R1,⟨_,e1,rfl,rfl,_,rfl⟩,r,Bo hz,λq=>Bg (Nat.le_refl _) (G.live _ q)⟩
theorem Px.fresh_mods (P:Px C T)(K:Ok C g σ s){a:Addr}(h:¬As s a):(a==sysModules)=false:=by
 refine AA P.mods λo e=>?_
 have:As s sysModules:=⟨o,K.fz _ _ (K.base _ _ e)⟩
 exact beq_eq_false_iff_ne.mpr λq=>h (q▸this)
theorem I6 (K:Ok C g σ s){pos:Pos}(P:Px C T):Wp C A (eval (.Dict [] [] pos) env) (Dk C g s σ []) s:=by
 rw[eval_Dict_empty]
 refine wpAny_bind (wpAny_standAt ?_)
 skip
 refine wpAny_newObj_type ?_
 refine Cz (K.push (s':={s with heap:=s.heap.push {cls:=.type "dict",data:=.dict #[]}}) rfl rfl rfl rfl) λK1 G1 R1 e1=>?_
 refine⟨g,_,_,rfl,G1,K1,R1,e1,?_,P.fresh_mods K (Bg (Nat.le_refl _)),Bg (Nat.le_refl _)⟩
 refine Ac (Heap.dictOf_iff.mp (Heap.DictOf.new (knd:=strKind C.prog C.w) s.heap)) λo e2 h=>?_
 have:o=_:=Option.some.inj (e2.symm.trans e1)
 subst this
 exact .inl ⟨[],h,by rfl⟩
theorem BI.kinds (b:BI):(∃id,b.val=.builtin id)\/∃T,b.val=.type T:=by cases b<;>first|exact .inl ⟨_,rfl⟩|exact .inr ⟨_,rfl⟩
theorem XG {b:BI}{pos:Pos}{as:List Expr}{vs:List V}{c:V}{jD:St}(hh:A.handled=none)(hb:b≠.sorted)(hs:as.all Ar=true)
  (h1:Wp C A (spliced (backTo pos (starEach as env))) (Aa C (A5 C) g s jD vs) s)(e:Be b vs=some c):
  Wp C A (callWith pos b.val [] (backTo pos (starEach as env)) []) (Aa C (Rv C) g s jD c) s:=by
 have fin:wpAny (model C.prog C.w) A (evalArgs b.val true (backTo pos (starEach as env)) []) (λa jC=>wpAny (model C.prog C.w) A (call b.val ([]++a.pos) a.kw) (Aa C (Rv C) g s jD c) (λ_ _=>False) jC) (λ_ _=>False) s:=
  wpAny_mono (Eu hs h1) (λa jC ⟨hkw,jE,G,K,r⟩=>by rw[hkw];exact(dg K hh hb r e).mono λy jG q=>q.of G) λ_ _ x=>x
 have hp:=B0 (env:=env) (pos:=pos) hs
 rcases b.kinds with⟨id,q⟩|⟨T,q⟩<;>rw[q] at fin ⊢
 ·exact callWith_builtin hp fin
 ·exact PySem.callWith_type hp fin
theorem dB (P:Px C T)(K:Ok C g σ s)(H:Ah env k g.loc){b:BI}{x:Str}{np pos:Pos}{as:List Expr}{vs:List V}{c:V}{jD:St}(hh:A.handled=none)(hb:b≠.sorted)(hd:Az x=true)
  (hk:k.sc.names.lookup x=some .globalImplicit)(hg:P.bn x=some b)(hs:as.all Ar=true)
  (h1:Wp C A (spliced (backTo pos (starEach as env))) (Aa C (A5 C) g s jD vs) s)(e:Be b vs=some c):
  Wp C A (eval (.Call (.Name x np) as [] pos) env) (Aa C (Rv C) g s jD c) s:=
 wpAny_Call_NameR (P.name K H hd hk (.inr (P.bnok x b hg)) (XG hh hb hs h1 e))
theorem Vw (P:Px C T)(K:Ok C g σ s)(H:Ah env k g.loc){x y:Str}{np np' pos:Pos}{i:Nat}{l:List V}(hd:Az x=true)(hd':Az y=true)
  (hk:k.sc.names.lookup x=some .globalImplicit)(hg:P.bn x=some .len)(hi:lk y k.vars=some i)(e:nth σ.r i=some (.ul l)):
  Wp C A (eval (.Call (.Name x np) [.Name y np'] [] pos) env) (Aa C (Rv C) g s σ (.int l.length)) s:=by
 refine AA (H.at hi) λlc hl=>?_
 obtain⟨hz,a,xs,h1,h2,⟨o,e1,e2,_,n,e3⟩,h4⟩:=K.slots i _ lc e hl
 refine wpAny_Call_NameR (P.name K H hd hk (.inr (P.bnok x _ hg)) (callWith_builtin rfl (evalArgs_plain (spliced_cons ?_))))
 refine AN.name H hi hd' (λl' e'=>by cases hl.symm.trans e';exact h1) (spliced_nil ?_)
 refine call_len_list (items:=xs.toArray) ⟨o,e1,e2,n,e3⟩ (by have:=h4.length;simp only[line] at hz;simp;exact((AR 0x118888888888888888888882118110111b11888888882019) hz this)) (Aa.tok K _ ?_)
 rw[List.size_toArray,h4.length];exact AW
theorem VU (K:Ok C g σ s)(H:Ah env k g.loc){y:Str}{np pos:Pos}{ix:Expr}{i:Nat}{j:Int}{l:List V}{w:V}{jD:St}(hd':Az y=true)(hi:lk y k.vars=some i)
  (e0:∃jO,nth σ.r i=some (.ul jO))
  (h1:Wp C A (eval ix env) (Aa C (Rv C) g s jD (.int j)) s)(e:nth jD.r i=some (.ul l))(e1:(place j l.length).bind (nth l)=some w):
  Wp C A (eval (.Subscript (.Name y np) ix pos) env) (Aa C (Rv C) g s jD w) s:=by
 refine AA (H.at hi) λlc hl=>?_
 refine AA e0 λjO e0=>?_
 obtain⟨_,a,_,q63_⟩:=K.slots i _ lc e0 hl
 refine Subscript_ (AN.name H hi hd' (λl' e'=>by cases hl.symm.trans e';exact q63_.1) (h1.r λx jC jE G K1 r=>?_))
 obtain⟨hz,a',xs,h1,h2,⟨o,z1,z2,_,n,z3⟩,h4⟩:=K1.slots i _ lc e (by rw[G.loc];exact hl)
 have:a=a':=Value.ref.inj (lc.has_det (G.kl i lc _ hl q63_.1) h1)
 subst this
 refine AK r λt=>?_
 have hla:jC.heap.IsList a xs.toArray:=⟨o,z1,z2,n,z3⟩
 exact CW hla.typeIs list_getitem_lookup ((G_ K1 hla h4 hz e1).mono λz jG q=>q.of G)
theorem Yq (K:Ok C g σ s)(H:Ah env k g.loc){y:Str}{np pp pos:Pos}{i:Nat}{l:List V}(hA:A.units+16<cLine)(hd':Az y=true)(hi:lk y k.vars=some i)(e:nth σ.r i=some (.ul l)):
  Wp C A (eval (.Compare (.Name y np) [.NotEq] [.List [] pp] pos) env) (Aa C (Rv C) g s σ (.bool !l.isEmpty)) s:=by
 refine AA (H.at hi) λlc hl=>?_
 obtain⟨hz,a,xs,q92_⟩:=K.slots i _ lc e hl
 refine wpAny_Compare1 (AN.name H hi hd' (λl' e'=>by cases hl.symm.trans e';exact q92_.1) (wpAny_List (spliced_nil ⟨by simp,?_⟩)))
 refine Cz (K.push (s':={s with heap:=s.heap.push {cls:=.type "list",data:=.seq ([]:List Value).toArray}}) rfl rfl rfl rfl) λK1 G1 R1 e1=>?_
 obtain⟨o,z1,z2,_,n,z3⟩:=q92_.2.2.1
 have h1:({s with heap:=s.heap.push {cls:=.type "list",data:=.seq ([]:List Value).toArray}}:Shared).heap.IsList a xs.toArray:=⟨o,BA.push _ _ _ _ z1,z2,n,z3⟩
 have h2:({s with heap:=s.heap.push {cls:=.type "list",data:=.seq ([]:List Value).toArray}}:Shared).heap.IsList s.heap.objs.size ([]:List Value).toArray:=⟨_,e1,rfl,_,rfl⟩
 cases l with
 |nil=>
  have:xs=[]:=List.eq_nil_of_length_eq_zero (by have:=q92_.2.2.2.length;exact this)
  subst this
  have h3:=SeqAt.RcNeAt.lists (A:=A) (e:=λ_=>true) h1 h2 rfl (by exact((AR 0x111013111282013a) hA)) (λj h1=>by simp at h1)
  exact h3 _ _ _ _ (Aa.of G1 (Aa.here K1 A9))
 |cons v l=>
  exact SeqAt.RcNeAt.lists_lengths h1 h2 (by simp[q92_.2.2.2.length]) (by exact((AR 0x111013111282013a) hA)) _ _ _ _ (Aa.of G1 (Aa.here K1 A9))
noncomputable def JR (C:Cx)(g:Gh):List (V×V)->List (Value×Value)->Prop
 |[],xs=>xs=[]
 |p::l,xs=>∃k x r,xs=(k,x)::r/\Rv C g p.1 k/\Rv C g p.2 x/\JR C g l r
theorem Yn {pos:Pos}(K:Ok C g σ s):Wp C A (evalPairs (pairTrees [] [] env pos)) (Aa C (JR C) g s σ []) s:=evalPairs_nil ⟨g,.refl g s,K,rfl⟩
theorem Wf {pos:Pos}{a b:Expr}{ks:List (Option Expr)}{vs:List Expr}{u v:V}{ps:List (V×V)}{jD jF jN:St}(h1:Wp C A (eval a env) (Aa C (Rv C) g s jD u) s)
  (h2:∀jE jC,Go g s jE jC->Ok C jE jD jC->Wp C A (eval b env) (Aa C (Rv C) jE jC jF v) jC)
  (h3:∀jE jC,Go g s jE jC->Ok C jE jF jC->Wp C A (evalPairs (pairTrees ks vs env pos)) (Aa C (JR C) jE jC jN ps) jC):
  Wp C A (evalPairs (pairTrees (some a::ks) (b::vs) env pos)) (Aa C (JR C) g s jN ((u,v)::ps)) s:=by
 refine evalPairs_cons (h1.r λx jC jE G K rx=>wpAny_bind ((h2 jE jC G K).r λy jG jH G2 K2 ry=>wpAny_bind (wpAny_standAt (wpAny_pure ?_))))
 exact(h3 jH jG (G.trans G2) K2).r λzs jK jP G3 K3 rz=>⟨jP,(G.trans G2).trans G3,K3,x,y,zs,rfl,(rx.go G2).go G3,ry.go G3,rz⟩
theorem IF {K:Type} [DecidableEq K] {k k':K}{x v:Value}{l:List (K×Value)}(hk:k≠k'):stored ((k,x)::l) k' v=(k,x)::stored l k' v:=by
 unfold stored
 simp only[List.any_cons,hk,decide_false,Bool.false_or]
 split<;>simp[hk]
theorem JU {K:Type} [DecidableEq K] {k:K}{x v:Value}{l:List (K×Value)}(hn:k∉l.map (·.1)):stored ((k,x)::l) k v=(k,v)::l:=by
 unfold stored
 simp only[List.any_cons,decide_true,Bool.true_or,if_true,List.map_cons]
 congr 1
 refine(List.map_congr_left λp hp=>?_).trans (List.map_id l)
 have:p.1≠k:=λe=>hn (by rw[<-e];exact List.mem_map_of_mem hp)
 simp[this]
theorem ED {K:Type} [DecidableEq K] {k:K}{v:Value}{l:List (K×Value)}(h:(l.map (·.1)).Nodup):((stored l k v).map (·.1)).Nodup:=by
 unfold stored
 split
 ·have:(l.map λkv=>if kv.1=k then(kv.1,v) else kv).map (·.1)=l.map (·.1):=by
   rw[List.map_map]
   refine List.map_congr_left λp _=>?_
   show(if p.1=k then(p.1,v) else p).1=p.1
   split<;>rfl
  rw[this];exact h
 ·rename_i q
  rw[List.map_append,List.nodup_append]
  refine⟨h,by simp,λa ha b hb e=>q ?_⟩
  simp only[List.map_cons,List.map_nil,List.mem_singleton] at hb
  subst hb;subst e
  obtain⟨p,hp,rfl⟩:=List.mem_map.1 ha
  exact List.any_eq_true.2 ⟨p,hp,by simp⟩
theorem O4 {v:V}(h:isStr v=true):∃c,v=.str c:=by cases v<;>first|exact⟨_,rfl⟩|exact(ft h).elim
theorem Vi {v:V}(h:isInt v=true):∃c,v=.int c:=by cases v<;>first|exact⟨_,rfl⟩|exact(ft h).elim
theorem Em {c:List Nat}{v:V}{x:Value}(hc:c.length<=line)(hv:Rv C g v x):∀{l l':List (V×V)}{kvs:List (Str×Value)},(kvs.map (·.1)).Nodup->BK C g.F g.φ l kvs->Cj (.str c) v l=some l'->
  BK C g.F g.φ l' (stored kvs ⟨c.toArray⟩ x)
 |[],l',kvs,_,h,e=>by
  have h:_=_:=h;subst h;refine AZ e ?_
  skip
  exact⟨_,_,_,rfl,⟨c,rfl,hc,rfl⟩,hv,rfl⟩
 |p::l,l',kvs,hn,h,e=>by
  obtain⟨pk,pv⟩:=p
  obtain⟨k',y,r,rfl,⟨d,rfl,hd,rfl⟩,h1,h2⟩:=h
  simp only[List.map_cons,List.nodup_cons] at hn
  unfold Cj at e
  have eb:V.eqb 8 (.str d) (.str c)=some (decide (d=c)):=rfl
  simp only[eb] at e
  by_cases q:d=c
  ·subst q
   simp only[decide_true] at e
   refine AZ e ?_
   rw[JU hn.1]
   exact⟨_,_,_,rfl,⟨d,rfl,hd,rfl⟩,hv,h2⟩
  ·simp only[decide_eq_false q] at e
   obtain⟨l2,e2,rfl⟩:=Option.map_eq_some_iff.1 e
   rw[IF (λz=>q (by simpa using congrArg (λt:Str=>t.cps.toList) z))]
   exact⟨_,_,_,rfl,⟨d,rfl,hd,rfl⟩,h1,Em hc hv hn.2 h2 e2⟩
theorem J9 {c:Int}{v:V}{x:Value}(hv:Rv C g v x):∀{l l':List (V×V)}{kvs:List (Int×Value)},(kvs.map (·.1)).Nodup->B6 C g.F g.φ l kvs->Cj (.int c) v l=some l'->
  B6 C g.F g.φ l' (stored kvs c x)
 |[],l',kvs,_,h,e=>by
  have h:_=_:=h;subst h;refine AZ e ?_
  skip
  exact⟨_,_,_,rfl,rfl,hv,rfl⟩
 |p::l,l',kvs,hn,h,e=>by
  obtain⟨pk,pv⟩:=p
  obtain⟨k',y,r,rfl,rfl,h1,h2⟩:=h
  simp only[List.map_cons,List.nodup_cons] at hn
  unfold Cj at e
  have eb:V.eqb 8 (.int k') (.int c)=some (decide (k'=c)):=rfl
  simp only[eb] at e
  by_cases q:k'=c
  ·subst q
   simp only[decide_true] at e
   refine AZ e ?_
   rw[JU hn.1]
   exact⟨_,_,_,rfl,rfl,hv,h2⟩
  ·simp only[decide_eq_false q] at e
   obtain⟨l2,e2,rfl⟩:=Option.map_eq_some_iff.1 e
   rw[IF q]
   exact⟨_,_,_,rfl,rfl,h1,J9 hv hn.2 h2 e2⟩
theorem S8 {ps:List (V×V)}{d l:List (V×V)}{zs:List (Value×Value)}{acc:List (Str×Value)}(hz:JR C g ps zs)(hl:∀p∈ps,∃c,p.1=.str c)(ha:BK C g.F g.φ l acc)(hn:(acc.map (·.1)).Nodup)
  (e:BD ps l=some d):∃kvs,Carries (strKind C.prog C.w) zs kvs/\BK C g.F g.φ d (merged acc kvs):=by
 induction ps generalizing l zs acc with
 |nil=>cases hz;refine AZ e ?_;exact⟨[],trivial,ha⟩
 |cons p ps ih=>
  obtain⟨k,x,r,rfl,h1,h2,h3⟩:=hz
  refine AA (hl p (List.mem_cons_self ..)) λc hc=>?_
  rw[hc] at h1
  skip
  refine CL h1 λt hcl=>?_
  unfold BD at e
  rw[hc] at e
  refine Ai (show(Cj (.str c) p.2 l).bind (BD ps)=some d from e) λl2 e1 e2=>?_
  have q:=Em hcl h2 hn ha e1
  refine Ac (ih h3 (λp hp=>hl p (List.mem_cons_of_mem _ hp)) q (ED hn) e2) λkvs q1 q2=>?_
  exact⟨(⟨c.toArray⟩,x)::kvs,⟨strKind_is _ _ _ _,rfl,q1⟩,q2⟩
theorem SF {ps:List (V×V)}{d l:List (V×V)}{zs:List (Value×Value)}{acc:List (Int×Value)}(hz:JR C g ps zs)(hl:∀p∈ps,∃c,p.1=.int c)(ha:B6 C g.F g.φ l acc)(hn:(acc.map (·.1)).Nodup)
  (e:BD ps l=some d):∃kvs,Carries (intKind C.prog C.w) zs kvs/\B6 C g.F g.φ d (merged acc kvs):=by
 induction ps generalizing l zs acc with
 |nil=>cases hz;refine AZ e ?_;exact⟨[],trivial,ha⟩
 |cons p ps ih=>
  obtain⟨k,x,r,rfl,h1,h2,h3⟩:=hz
  refine AA (hl p (List.mem_cons_self ..)) λc hc=>?_
  rw[hc] at h1
  skip
  refine AK h1 λt=>?_
  unfold BD at e
  rw[hc] at e
  refine Ai (show(Cj (.int c) p.2 l).bind (BD ps)=some d from e) λl2 e1 e2=>?_
  have q:=J9 h2 hn ha e1
  refine Ac (ih h3 (λp hp=>hl p (List.mem_cons_of_mem _ hp)) q (ED hn) e2) λkvs q1 q2=>?_
  exact⟨(c,x)::kvs,⟨intKind_is _ _ _ _,rfl,q1⟩,q2⟩
theorem Y6 (P:Px C T)(K:Ok C g σ s){keys:List (Option Expr)}{vals:List Expr}{pos:Pos}{ps d:List (V×V)}{jD:St}(hall:keys.all (·.isSome)=true)(hl:keys.length=vals.length)(h0:keys≠[])(hlen:keys.length<=15)
  (h1:∀jE jC,Go g s jE jC->Ok C jE σ jC->Wp C A (evalPairs (pairTrees keys vals env pos)) (Aa C (JR C) jE jC jD ps) jC)(hk:DT ps=true)(e:BD ps []=some d):
  Wp C A (eval (.Dict keys vals pos) env) (Dk C g s jD d) s:=by
 refine Cz (K.push (s':={s with heap:=s.heap.push {cls:=.type "dict",data:=.dict #[]}}) rfl rfl rfl rfl) λK1 G1 R1 e1=>?_
 have nl:¬As s s.heap.objs.size:=Bg (Nat.le_refl _)
 have hm:=P.fresh_mods K nl
 have hq:=h1 _ _ G1 K1
 have fin:∀{KT:Type} [DecidableEq KT] (knd:PySem.KeyKind C.prog C.w KT),(∀zs (jE:Gh) jC,Go g _ jE jC->JR C jE ps zs->∃kvs,Carries knd zs kvs/\∀(o:Obj),o.IsDictOf knd (merged [] kvs)->Cu C jE o d)->
   Wp C A (eval (.Dict keys vals pos) env) (Dk C g s jD d) s:=λknd hz=>by
  refine wpAny_Dict_walk (knd:=knd) hall hl h0 hlen (hq.r λzs jC jE G K2 r=>?_)
  refine Ac (hz zs jE jC G r) λkvs c1 c2=>?_
  obtain⟨R2,e2⟩:=G.raw R1 e1
  refine⟨kvs,c1,(Heap.DictOf.new (knd:=knd) s.heap).at λo e=>by rw[e1] at e;refine AZ e ?_;exact e2,λh' hd hs=>?_⟩
  refine Ac (Heap.dictOf_iff.mp hd) λo q1 q2=>?_
  have K3:Ok C jE jD {jC with heap:=h',toks:=jC.toks+zs.length}:=K2.raw_upd R2 hs rfl rfl
  exact⟨jE,_,o,rfl,(G1.trans G).raw_upd K2 R2 nl hs,K3,⟨R2.f,R2.o,_,q1⟩,q1,c2 o q2,hm,nl⟩
 unfold DT at hk
 rcases Bool.or_eq_true_iff.1 hk with hk|hk
 ·refine fin (strKind C.prog C.w) λzs jE jC G r=>?_
  obtain⟨kvs,c1,c2⟩:=S8 (l:=[]) (acc:=[]) r (λp hp=>O4 (List.all_eq_true.1 hk p hp)) (by rfl) (by decide) e
  exact⟨kvs,c1,λo h=>.inl ⟨_,h,c2⟩⟩
 ·refine fin (intKind C.prog C.w) λzs jE jC G r=>?_
  obtain⟨kvs,c1,c2⟩:=SF (l:=[]) (acc:=[]) r (λp hp=>Vi (List.all_eq_true.1 hk p hp)) (by rfl) (by decide) e
  exact⟨kvs,c1,λo h=>.inr ⟨_,h,c2⟩⟩
end
end Mine.Internal
end
section
set_option maxRecDepth 10000
namespace Mine.Internal
open PySem PySem.Calls PyProof.Rows PySem.W
noncomputable def U6:List String:=["enumerate","zip","dict_itemiterator","dict_reverseitemiterator","odict_iterator","itertools.zip_longest","itertools.pairwise"]
noncomputable def Ex (h:Heap)(I:Addr):Prop:=∃o n,h.get? I=some o/\o.cls=.type n/\U6.contains n=false
section
variable {C:Cx}{A:Around}{g:Gh}{σ:St}{s:Shared}{env:PySem.Env}{k:Ck}
theorem GB {M:Model}{E:Value->Shared->Prop}{Q:Unit->Shared->Prop}{t:Expr}{I:Addr}{v:Value}(h:Ex s.heap I)(q:Q () s):wpAny M A (letOwnedTupleGo t (.ref I) v) Q E s:=by
 refine Co h λo n e1 e2 e3=>?_
 have body:∀a,wpAny M A (load I>>=λo=>match o.cls,o.data with
   |.type n,.fields vs=>(if U6.contains n&&vs[0]?==some (rawInt a) then(do rule "for.unpacks-the-owned-tuple";updateField I 0 .none) else pure ():Sem Unit)
   |_,_=>pure ()) Q E s:=λa=>by
  refine wpAny_bind (wpAny_load e1 ?_)
  rw[e2]
  split
  ·rename_i z1 z2
   cases z1
   rw[e3]
   exact wpAny_pure q
  ·exact wpAny_pure q
 cases t<;>first
  |exact wpAny_pure q
  |(cases v<;>first|exact wpAny_pure q|exact body _)
inductive Src (C:Cx)(A:Around)(g:Gh)(s:Shared)(σ:St)(l:List V)(s':Shared):Value->Prop where
 |mk (I:Addr)(fp:List Addr)(P:Nat->Value->Prop)(St:Nat->Heap->Prop)(W:Walks C.prog C.w A I fp [I] l.length P St)(h0:St 0 s'.heap)(hp:∀i h,St i h->Ex h I)(hf:∀b∈fp,b=I\/∃o,g.F b=some o)
  (hP:∀i v',i<l.length->P i v'->∃u,nth l i=some u/\Rv C g u v')(hz:l.length<=line)(R:AX g s' I)(n:¬As s I)(G:Go g s g s')(K:Ok C g σ s'):Src C A g s σ l s' (.ref I)
theorem F_ {α:Type}:∀{l:List α}{n:Nat}{x:α},l[n]?=some x->nth l n=some x
 |[],_,_,e=>by simp at e
 |a::l,0,x,e=>e
 |a::l,n+1,x,e=>F_ (l:=l) (n:=n) e
theorem Ow:∀{l:List V}{xs:List Value}{i:Nat}{v:Value},Ak C g.F g.φ l xs->xs[i]?=some v->∃u,nth l i=some u/\Rv C g u v
 |[],xs,i,v,h,e=>by have h:_=_:=h;subst h;exact(ns e).elim
 |u::l,xs,i,v,h,e=>by
  obtain⟨x,r,rfl,h1,h2⟩:=h
  cases i with
  |zero=>simp at e;subst e;exact⟨u,rfl,h1⟩
  |succ i=>refine Ac (Ow (i:=i) h2 (by simpa using e)) λw q1 q2=>?_;exact⟨w,q1,q2⟩
theorem DY {α β:Type}(f:α->β):∀(l:List α)(n:Nat),nth (l.map f) n=(nth l n).map f
 |[],_=>rfl
 |_::_,0=>rfl
 |_::l,n+1=>DY f l n
theorem FH (st:Int):∀(n:Nat)(lo:Int),(CF lo st n).length=n
 |0,_=>rfl
 |n+1,lo=>by simp[CF,FH st n]
theorem Iw (st:Int):∀(n:Nat)(lo:Int)(i:Nat),i<n->nth (CF lo st n) i=some (.int (lo+i*st))
 |0,_,_,h=>by omega
 |n+1,lo,0,_=>by simp[CF,nth]
 |n+1,lo,i+1,h=>by
  simp only[CF,nth]
  rw[Iw st n (lo+st) i (by exact((AR 0x11101311211312013a) h))]
  congr 2
  rw[show((i+1:Nat):Int)=(i:Int)+1 from by exact(Int.le_antisymm (Ao 0x11201831201380) (Ao 0x11201381201830)),Int.add_mul]
  exact(Int.le_antisymm (FI 0x11015203003201000330) (FI 0x11020003320151030030))
theorem EF (K:Ok C g σ s){o:Obj}{l:List V}{fp:List Addr}{P:Nat->Value->Prop}{St:Nat->Heap->Prop}(hf:o.isFreed=false)
  (W:Walks C.prog C.w A s.heap.objs.size fp [s.heap.objs.size] l.length P St)(h0:St 0 (s.heap.push o))(hp:∀i h,St i h->Ex h s.heap.objs.size)(hfp:∀b∈fp,b=s.heap.objs.size\/∃o,g.F b=some o)
  (hP:∀i v',i<l.length->P i v'->∃u,nth l i=some u/\Rv C g u v')(hz:l.length<=line){tk:Tok}:Src C A g s σ l {s with heap:=s.heap.push o,toks:=tk} (.ref s.heap.objs.size):=by
 refine Cz (K.push (s':={s with heap:=s.heap.push o,toks:=tk}) hf rfl rfl rfl) λK1 G1 R1 e1=>?_
 exact⟨_,fp,P,St,W,h0,hp,hfp,hP,hz,R1,Bg (Nat.le_refl _),G1,K1⟩
theorem VE (K:Ok C g σ s)(hh:A.handled=none){x:Value}{l:List V}(hx:Rv C g (.lst l) x):Wp C A (pyIter x) (λit s'=>Src C A g s σ l s' it) s:=by
 obtain⟨hz,a,xs,rfl,ha,hl⟩:=hx
 have hla:=K.isList ha
 have hlt:a≠s.heap.objs.size:=by refine Ac hla λ_ z _=>?_;exact Nat.ne_of_lt (Heap.lt_size z)
 refine Ac ha λoa hoa _=>?_
 have W:=Walks.list (prog:=C.prog) (w:=C.w) (A:=A) hh s.heap.objs.size a hlt xs.toArray
 rw[show xs.toArray.size=l.length from(List.size_toArray ..).trans (Ak.length hl)] at W
 refine wpAny_pyIter_list hla (EF K (tk:=s.toks) rfl W ⟨⟨_,Heap.get?_push_size _ rfl,rfl,rfl⟩,hla.push _⟩ (λi h q=>?_) (λb hb=>?_) (λi v' _ hv=>Ow hl (by simpa using hv)) hz)
 ·obtain⟨⟨o,q1,q2,_⟩,_⟩:=q;exact⟨o,_,q1,q2,by decide⟩
 ·simp only[List.mem_cons,List.not_mem_nil,or_false] at hb
  rcases hb with rfl|rfl
  ·exact .inl rfl
  ·exact .inr ⟨_,hoa⟩
theorem YU (K:Ok C g σ s)(hh:A.handled=none){x:Value}{l:List V}(hx:Rv C g (.tup l) x):Wp C A (pyIter x) (λit s'=>Src C A g s σ l s' it) s:=by
 obtain⟨hz,a,xs,rfl,ha,hl⟩:=hx
 refine Ez (B9 (K.seq ha)) λn sl ea=>?_
 have hla:s.heap.IsTuple a xs.toArray:=⟨_,ea,rfl,n,rfl⟩
 have hlt:a≠s.heap.objs.size:=Nat.ne_of_lt (Heap.lt_size ea)
 refine Ac ha λoa hoa _=>?_
 have W:=Walks.tuple (prog:=C.prog) (w:=C.w) (A:=A) hh s.heap.objs.size a hlt xs.toArray
 rw[show xs.toArray.size=l.length from(List.size_toArray ..).trans (Ak.length hl)] at W
 refine wpAny_pyIter_tuple hla (EF K (tk:=s.toks) rfl W ⟨⟨_,Heap.get?_push_size _ rfl,rfl,rfl⟩,hla.push _⟩ (λi h q=>?_) (λb hb=>?_) (λi v' _ hv=>Ow hl (by simpa using hv)) hz)
 ·obtain⟨⟨o,q1,q2,_⟩,_⟩:=q;exact⟨o,_,q1,q2,by decide⟩
 ·simp only[List.mem_cons,List.not_mem_nil,or_false] at hb
  rcases hb with rfl|rfl
  ·exact .inl rfl
  ·exact .inr ⟨_,hoa⟩
theorem YF (K:Ok C g σ s)(hh:A.handled=none){x:Value}{lo hi st:Int}(hx:Rv C g (.rng lo hi st) x)(hz:AO (CC lo hi st)=true):Wp C A (pyIter x) (λit s'=>Src C A g s σ (CT lo hi st) s' it) s:=by
 obtain⟨hok,a,rfl,t,u,v,hr⟩:=hx
 have hsz:(CT lo hi st).length=CC lo hi st:=FH _ _ _
 simp only[Eg,LW,Bool.and_eq_true,decide_eq_true_eq] at hok
 have hrs:Builtin.Range.rangeSize lo hi st=CC lo hi st:=by
  unfold Builtin.Range.rangeSize CC
  rw[if_pos (by exact((Aj 0x100021100026) hok.1.2))]
  by_cases q:lo<hi
  ·rw[if_pos q,decide_eq_true q]
   have:=Int.ediv_nonneg (a:=hi - lo - 1) (b:=st) (by exact((Fx 0x112001044020110006) q)) (by exact((Aj 0x100020100026) hok.1.2))
   dsimp only
   exact(Int.le_antisymm ((E0 0x10181200301120030188) (Int.toNat_of_nonneg ((Aj 0x112003020100025) this))) ((E0 0x11200301801120030187) (Int.toNat_of_nonneg ((Aj 0x112003020100025) this))))
  ·rw[if_neg q,decide_eq_false q];rfl
 have hle:(CC lo hi st:Int)<=line:=by have:=Bo hz;exact((AR 0x11180180111019) this)
 have hsm:Builtin.Range.small lo hi st=true:=by
  unfold Builtin.Range.small
  rw[hrs]
  simp only[Builtin.Range.rangeFitsLong,line] at hle ⊢
  rw[if_pos (by exact((Aj 0x100021100026) hok.1.2))]
  simp only[Bool.and_eq_true,Bool.or_eq_true,decide_eq_true_eq]
  refine⟨⟨⟨⟨by omega,by omega⟩,by omega⟩,by omega⟩,.inr (by omega)⟩
 refine wpAny_pyIter_range (K.fz _ _ hr) hsm (EF K (tk:=s.toks) (l:=CT lo hi st) rfl (by rw[hsz];exact Walks.range hh _ lo st (CC lo hi st)) ?_ (λi h q=>⟨_,_,q,rfl,by decide⟩) (λb hb=>?_) (λi v' hi hv=>?_) (by rw[hsz];exact Bo hz))
 ·show(s.heap.push _).get? _=_
  rw[Heap.get?_push_size _ rfl,hrs]
  simp
 ·simp only[List.mem_cons,List.not_mem_nil,or_false] at hb;exact .inl hb
 ·obtain⟨t,rfl⟩:=hv
  exact⟨_,Iw _ _ _ _ (by rw[<-hsz];exact hi),AW⟩
theorem T8 (K:Ok C g σ s)(hh:A.handled=none){x:Value}{b:List Nat}(hx:Rv C g (.bytes b) x):Wp C A (pyIter x) (λit s'=>Src C A g s σ (b.map λ(b:Nat)=>V.int (b:Int)) s' it) s:=by
 obtain⟨hz,hb,t,rfl⟩:=hx
 have hsz:(b.map λ(b:Nat)=>V.int (b:Int)).length=(b.map Nat.toUInt8).toArray.size:=by simp
 refine KBw.pyIter_bytes (EF K (tk:=s.toks) (l:=b.map λ(b:Nat)=>V.int (b:Int)) rfl (by rw[hsz];exact KBw.walks hh _ _ t) (by exact⟨_,Heap.get?_push_size _ rfl,rfl,rfl⟩) (λi h q=>?_) (λb hb=>?_) (λi v' hi hv=>?_) (by simpa using hz))
 ·refine CP q λo q1 q2 _=>?_;exact⟨o,_,q1,q2,by decide⟩
 ·simp only[List.mem_cons,List.not_mem_nil,or_false] at hb;exact .inl hb
 ·obtain⟨c,u,h1,rfl⟩:=hv
  simp only[List.getElem?_toArray,List.getElem?_map,Option.map_eq_some_iff] at h1
  obtain⟨n,h1,rfl⟩:=h1
  have hn:n<256:=hb n (List.mem_of_getElem? h1)
  refine⟨.int n,by rw[DY,F_ h1];rfl,?_⟩
  have:(n.toUInt8.toNat:Int)=n:=by
   have:n.toUInt8.toNat=n:=by simp only[Nat.toUInt8,UInt8.toNat_ofNat'];lia
   rw[this]
  rw[this];exact AW
theorem YB (K:Ok C g σ s)(hh:A.handled=none){x:Value}{b:List Nat}(hx:Rv C g (.str b) x):Wp C A (pyIter x) (λit s'=>Src C A g s σ (b.map λc=>V.str [c]) s' it) s:=by
 obtain⟨hz,t,rfl⟩:=hx
 have hsz:(b.map λc=>V.str [c]).length=b.toArray.size:=by simp
 have hv:∀i v',i<(b.map λc=>V.str [c]).length->SignAt ⟨b.toArray⟩ i v'->∃u,nth (b.map λc=>V.str [c]) i=some u/\Rv C g u v':=λi v' _ h=>by
  obtain⟨c,u,h1,rfl⟩:=h
  refine⟨.str [c],by rw[DY,F_ (by simpa using h1)];rfl,?_⟩
  skip
  exact⟨by simp[line],u,rfl⟩
 cases ha:(⟨b.toArray⟩:Str).cps.all (·<128)
 ·refine wpAny_pyIter_wide ha (EF K (tk:=s.toks) (l:=b.map λc=>V.str [c]) rfl (by rw[hsz];exact Walks.strWide hh _ ⟨b.toArray⟩ t) (by exact⟨_,Heap.get?_push_size _ rfl,rfl,rfl⟩) (λi h q=>?_) (λb hb=>?_) hv (by simpa using hz))
  ·obtain⟨o,q1,q2,_⟩:=q;exact⟨o,_,q1,q2,by decide⟩
  ·simp only[List.mem_cons,List.not_mem_nil,or_false] at hb;exact .inl hb
 ·refine wpAny_pyIter_ascii ha (EF K (tk:=s.toks) (l:=b.map λc=>V.str [c]) rfl (by rw[hsz];exact Walks.strAscii hh _ ⟨b.toArray⟩ t) (by exact⟨_,Heap.get?_push_size _ rfl,rfl,rfl⟩) (λi h q=>?_) (λb hb=>?_) hv (by simpa using hz))
  ·obtain⟨o,q1,q2,_⟩:=q;exact⟨o,_,q1,q2,by decide⟩
  ·simp only[List.mem_cons,List.not_mem_nil,or_false] at hb;exact .inl hb
theorem Jq:∀{l:List (V×V)}{kvs:List (Str×Value)}{i:Nat}{k:Str}{x:Value},BK C g.F g.φ l kvs->kvs[i]?=some (k,x)->∃c,nth (l.map (·.1)) i=some (.str c)/\c.length<=line/\k=⟨c.toArray⟩
 |[],_,i,k,x,h,e=>by have h:_=_:=h;subst h;simp at e
 |p::l,_,i,k,x,h,e=>by
  obtain⟨k',y,r,rfl,⟨c,h1,h2,h3⟩,_,h4⟩:=h
  cases i with
  |zero=>simp at e;exact⟨c,congrArg some h1,h2,by rw[<-e.1];exact h3⟩
  |succ i=>refine Ac (Jq (i:=i) h4 (by simpa using e)) λc q1 q2=>?_;exact⟨c,q1,q2⟩
theorem I4:∀{l:List (V×V)}{kvs:List (Int×Value)}{i:Nat}{k:Int}{x:Value},B6 C g.F g.φ l kvs->kvs[i]?=some (k,x)->nth (l.map (·.1)) i=some (.int k)
 |[],_,i,k,x,h,e=>by have h:_=_:=h;subst h;exact(ns e).elim
 |p::l,_,i,k,x,h,e=>by
  obtain⟨k',y,r,rfl,h1,_,h4⟩:=h
  cases i with
  |zero=>simp at e;exact congrArg some (e.1▸h1)
  |succ i=>exact I4 (i:=i) h4 (by simpa using e)
theorem BK.length:∀{l:List (V×V)}{kvs:List (Str×Value)},BK C g.F g.φ l kvs->kvs.length=l.length
 |[],_,h=>by have h:_=_:=h;subst h;rfl
 |p::l,_,h=>by obtain⟨_,_,r,rfl,_,_,h⟩:=h;simp[BK.length h]
theorem B6.length:∀{l:List (V×V)}{kvs:List (Int×Value)},B6 C g.F g.φ l kvs->kvs.length=l.length
 |[],_,h=>by have h:_=_:=h;subst h;rfl
 |p::l,_,h=>by obtain⟨_,_,r,rfl,_,_,h⟩:=h;simp[B6.length h]
theorem YR (K:Ok C g σ s)(hh:A.handled=none){x:Value}{l:List (V×V)}(hx:Rv C g (.dct l) x)(hz:l.length<=line):Wp C A (pyIter x) (λit s'=>Src C A g s σ (l.map (·.1)) s' it) s:=by
 obtain⟨a,o,rfl,hs,hF,hd⟩:=hx
 have hg:=K.fz _ _ hF
 have hlt:a≠s.heap.objs.size:=Nat.ne_of_lt (Heap.lt_size hg)
 have fin:∀{KT:Type} [DecidableEq KT] (knd:PySem.KeyKind C.prog C.w KT)(kvs:List (KT×Value)),o.IsDictOf knd kvs->kvs.length=l.length->
   (∀i v',i<(l.map (·.1)).length->(∃k x,kvs[i]?=some (k,x)/\knd.is k v'=true)->∃u,nth (l.map (·.1)) i=some u/\Rv C g u v')->Wp C A (pyIter (.ref a)) (λit s'=>Src C A g s σ (l.map (·.1)) s' it) s:=λknd kvs h1 h2 h3=>by
  refine AA ((Heap.dictOf_iff.mpr ⟨o,hg,h1⟩).dictAt) λep hm=>?_
  have W:=Walks.dictKeys (A:=A) (knd:=knd) hh s.heap.objs.size a hlt kvs ep
  rw[show kvs.length=(l.map (·.1)).length by rw[h2,List.length_map]] at W
  refine wpAny_pyIter_dict hs hm (EF K (tk:=s.toks) (l:=l.map (·.1)) rfl W ⟨⟨_,Heap.get?_push_size _ rfl,rfl,by rw[h2,List.length_map];rfl⟩,hm.at' λo e=>BA.push _ _ _ _ e⟩ (λi h q=>?_) (λb hb=>?_) h3 (by rwa [List.length_map]))
  ·obtain⟨⟨o,q1,q2,_⟩,_⟩:=q;exact⟨o,_,q1,q2,by decide⟩
  ·simp only[List.mem_cons,List.not_mem_nil,or_false] at hb
   rcases hb with rfl|rfl
   ·exact .inl rfl
   ·exact .inr ⟨_,hF⟩
 rcases hd with⟨kvs,h1,h2⟩|⟨kvs,h1,h2⟩
 ·refine fin (strKind C.prog C.w) kvs h1 h2.length λi v' _ ⟨k,x,q1,q2⟩=>?_
  obtain⟨c,z1,z2,rfl⟩:=Jq h2 q1
  refine⟨_,z1,?_⟩
  skip
  refine⟨z2,?_⟩
  cases v'<;>simp[PySem.strKind,Value.isStrOf] at q2
  rw[q2];exact⟨_,rfl⟩
 ·refine fin (intKind C.prog C.w) kvs h1 h2.length λi v' _ ⟨k,x,q1,q2⟩=>?_
  refine⟨_,I4 h2 q1,?_⟩
  cases v'<;>simp[PySem.intKind,Value.isInt] at q2
  rw[q2];exact AW
theorem WY (K:Ok C g σ s)(hh:A.handled=none){v:V}{x:Value}{l:List V}(hx:Rv C g v x)(e:A4 v=some l):Wp C A (pyIter x) (λit s'=>Src C A g s σ l s' it) s:=by
 unfold A4 at e
 split at e
 ·refine AZ e ?_;exact VE K hh hx
 ·refine AZ e ?_;exact YU K hh hx
 ·split at e
  ·rename_i q;refine AZ e ?_;exact YF K hh hx q
  ·exact(ns e).elim
 ·refine AZ e ?_;exact T8 K hh hx
 ·refine AZ e ?_;exact YB K hh hx
 ·split at e
  ·rename_i q;refine AZ e ?_;exact YR K hh hx (Bo q)
  ·cases e
 ·exact(ns e).elim
end
noncomputable def EB (scope sc:Scope):Scope:=
 {scope with names:=scope.names.map λ(n,k)=>if(k==.free&&sc.kind==.function&&sc.names.lookup n==some .cell) then(n,.cell) else(n,k)}
theorem SN {scope:Scope}{env:PySem.Env}{sc:Scope}(h:env.scope=sc):relabel scope env=EB scope sc:=by
 unfold relabel EB Env.kindOf
 rw[h]
theorem Dt {sc:Scope}:∀{names:List (Str×NameKind)}{x:Str}{kd:NameKind},names.lookup x=some kd->
  (names.map λ(n,k)=>if(k==NameKind.free&&sc.kind==.function&&sc.names.lookup n==some .cell) then(n,NameKind.cell) else(n,k)).lookup x=some kd\/
  (kd=.free/\(names.map λ(n,k)=>if(k==NameKind.free&&sc.kind==.function&&sc.names.lookup n==some .cell) then(n,NameKind.cell) else(n,k)).lookup x=some .cell)
 |[],x,kd,h=>by simp at h
 |(n,k)::r,x,kd,h=>by
  have ih:=@Dt sc r x kd
  show List.lookup x ((if(k==NameKind.free&&sc.kind==.function&&sc.names.lookup n==some .cell)=true then(n,NameKind.cell) else(n,k))::_)=_\/(_/\List.lookup x ((if(k==NameKind.free&&sc.kind==.function&&sc.names.lookup n==some .cell)=true then(n,NameKind.cell) else(n,k))::_)=_)
  cases hx:x==n with
  |true=>
   simp only[List.lookup_cons,hx] at h
   refine AZ h ?_
   by_cases hc:(k==NameKind.free&&sc.kind==.function&&sc.names.lookup n==some .cell)=true
   ·rw[if_pos hc]
    simp only[Bool.and_eq_true,beq_iff_eq] at hc
    simp[List.lookup_cons,hx,hc.1.1]
   ·rw[if_neg hc];simp[List.lookup_cons,hx]
  |false=>
   simp only[List.lookup_cons,hx] at h
   by_cases hc:(k==NameKind.free&&sc.kind==.function&&sc.names.lookup n==some .cell)=true
   ·rw[if_pos hc];simp only[List.lookup_cons,hx];exact ih h
   ·rw[if_neg hc];simp only[List.lookup_cons,hx];exact ih h
theorem Gq (env:PySem.Env):∀(names:List (Str×NameKind))(jU:List (Str×Addr)),(∀x,(x,NameKind.free)∈names->∃c,env.cells.lookup x=some c)->
  ∃cl,(forIn names jU (λ(x:Str×NameKind)(cs:List (Str×Addr))=>(if x.2==NameKind.free then(do let c <-cellOf env x.1;pure (ForInStep.yield ((x.1,c)::cs))) else pure (ForInStep.yield cs):Sem _)):Sem _)=pure cl/\
   ∀x,(((x,NameKind.free)∈names\/∃c,jU.lookup x=some c/\env.cells.lookup x=some c)->cl.lookup x=env.cells.lookup x)
 |[],jU,_=>⟨jU,by rw[List.forIn_nil],λx h=>by
   rcases h with h|⟨c,h1,h2⟩
   ·cases h
   ·rw[h1,h2]⟩
 |(n,k)::r,jU,h=>by
  have hr:∀x,(x,NameKind.free)∈r->∃c,env.cells.lookup x=some c:=λx hx=>h x (List.mem_cons_of_mem _ hx)
  rw[List.forIn_cons]
  by_cases hk:k=.free
  ·subst hk
   obtain⟨c,hc⟩:=h n (List.mem_cons_self ..)
   refine Ac (Gq env r ((n,c)::jU) hr) λcl h1 h2=>?_
   refine⟨cl,?_,λx hx=>h2 x ?_⟩
   ·have:cellOf env n=pure c:=by unfold cellOf;rw[hc]
    simp only[beq_self_eq_true,if_true,this,pure_bind]
    exact h1
   ·by_cases q:x=n
    ·subst q;exact .inr ⟨c,by simp,hc⟩
    ·rcases hx with hx|⟨c',h1,h2⟩
     ·rcases List.mem_cons.1 hx with hx|hx
      ·exact absurd (congrArg Prod.fst hx) q
      ·exact .inl hx
     ·exact .inr ⟨c',by rw[List.lookup_cons,beq_eq_false_iff_ne.mpr q];exact h1,h2⟩
  ·refine Ac (Gq env r jU hr) λcl h1 h2=>?_
   refine⟨cl,?_,λx hx=>h2 x ?_⟩
   ·have:(k==NameKind.free)=false:=by simpa using hk
    simp only[this,Bool.false_eq_true,if_false,pure_bind]
    exact h1
   ·rcases hx with hx|hx
    ·rcases List.mem_cons.1 hx with hx|hx
     ·exact absurd (congrArg Prod.snd hx).symm hk
     ·exact .inl hx
    ·exact .inr hx
theorem GJ {scope:Scope}{env:PySem.Env}(h:∀x,(x,NameKind.free)∈scope.names->∃c,env.cells.lookup x=some c):
  ∃cl,closureFor scope env=pure cl/\∀x,(x,NameKind.free)∈scope.names->cl.lookup x=env.cells.lookup x:=by
 refine Ac (Gq env scope.names [] h) λcl h1 h2=>?_
 refine⟨cl,?_,λx hx=>h2 x (.inl hx)⟩
 simp only[closureFor]
 rw[h1];rfl
end Mine.Internal
end
section
set_option maxRecDepth 10000
namespace Mine.Internal
open PySem PySem.Calls PyProof.Rows PySem.W
theorem Fh {prog:Program}{w:World}{A:Around}{E:Value->Shared->Prop}{s:Shared}{a:Addr}{xs:List Value}{x:Value}{Q:Value->Shared->Prop}(hl:A6 "list" s.heap.get? a xs)(hz:xs.length<=line)
  (h:∀h',A6 "list" h'.get? a (xs++[x])->Heap.SameBut a s.heap h'->Q .none {s with heap:=h'}):wpAny (model prog w) A (call (.builtin "list.append") [.ref a,x]) Q E s:=by
 obtain⟨o,ho,hc,hdi,n,hd⟩:=hl
 have hT:s.TypeIs (.ref a) "list":=⟨o,ho,hc⟩
 obtain⟨n',hd'⟩:=Obj.data_mapSeq hd (·.push x)
 refine wpAny_call_entry slot_list_append hT entry_list_append ?_ (args_list_append _ _)
 show wpAny _ _ (updateSeq a (·.push x)>>=λ_=>ret .none) _ _ s
 refine wpAny_bind ?_
 have hz':xs.toArray.size<=sizeLine:=by rw[AB];exact hz
 refine wpAny_updateSeq ho hd (wpAny_pure ⟨.none,rfl,h _ ⟨_,Heap.get?_update_self _ ho (Obj.isFreed_of_seq hd'),(Obj.cls_mapSeq ..).trans hc,?_,n',?_⟩ (Heap.SameBut.update ..)⟩) hz' (by simp at hz' ⊢;exact hz')
 ·obtain⟨c,d,dt,sl⟩:=o;simp only at hd hdi;subst hd hdi;rfl
 ·rw[hd'];simp
section
variable {C:Cx}{A:Around}{g:Gh}{σ:St}{s:Shared}{env:PySem.Env}{k:Ck}
noncomputable def By (L:Addr):List (Str×Nat)->Nat->Option AN
 |[],_=>none
 |p::r,i=>if p.2=i then some (.d L p.1) else By L r i
noncomputable def Gh.scoped (g:Gh)(L:Addr)(tg:List (Str×Nat)):Gh:=
 {g with Ω:=λb=>if b=L then some .dic else g.Ω b,loc:=λi=>match By L tg i with|some l=>some l|none=>g.loc i}
theorem Ke {L:Addr}:∀{tg:List (Str×Nat)}{i:Nat}{l:AN},By L tg i=some l->∃x,l=.d L x/\(x,i)∈tg
 |[],_,_,h=>by cases h
 |p::r,i,l,h=>by
  unfold By at h
  split at h
  ·rename_i q;cases h;exact⟨p.1,rfl,by rw[<-q];exact List.mem_cons_self ..⟩
  ·obtain⟨x,h1,h2⟩:=Ke h;exact⟨x,h1,List.mem_cons_of_mem _ h2⟩
theorem Dx {L:Addr}:∀{tg:List (Str×Nat)}{i:Nat},(∀x,(x,i)∉tg)->By L tg i=none
 |[],_,_=>rfl
 |p::r,i,h=>by
  unfold By
  rw[if_neg λq=>h p.1 (by rw[<-q];exact List.mem_cons_self ..)]
  exact Dx λx hx=>h x (List.mem_cons_of_mem _ hx)
theorem Jc {L:Addr}:∀{tg:List (Str×Nat)}{x:Str}{i:Nat},(x,i)∈tg->(tg.map (·.2)).Nodup->By L tg i=some (.d L x)
 |p::r,x,i,h,hn=>by
  simp only[List.map_cons,List.nodup_cons] at hn
  unfold By
  rcases List.mem_cons.1 h with h|h
  ·subst h;rw[if_pos rfl]
  ·rw[if_neg λq=>hn.1 (by rw[q];exact List.mem_map_of_mem (f:=(·.2)) h)]
   exact Jc h hn.2
theorem O8 {L:Addr}:∀{tg:List (Str×Nat)}{x:Str}{i:Nat},(x,i)∈tg->By L tg i≠none
 |p::r,x,i,h=>by
  unfold By
  rcases List.mem_cons.1 h with h|h
  ·subst h;rw[if_pos rfl];exact λz=>by cases z
  ·split
   ·exact λz=>by cases z
   ·exact O8 h
theorem MK {α β:Type}:∀{l:List (α×β)}{x:α}{i j:β},(l.map (·.1)).Nodup->(x,i)∈l->(x,j)∈l->i=j
 |p::r,x,i,j,hn,h1,h2=>by
  simp only[List.map_cons,List.nodup_cons] at hn
  rcases List.mem_cons.1 h1 with q1|q1<;>rcases List.mem_cons.1 h2 with q2|q2
  ·exact(congrArg Prod.snd q1).trans (congrArg Prod.snd q2).symm
  ·exact absurd (by rw[<-q1];exact List.mem_map_of_mem (f:=(·.1)) q2) hn.1
  ·exact absurd (by rw[<-q2];exact List.mem_map_of_mem (f:=(·.1)) q1) hn.1
  ·exact MK hn.2 q1 q2
theorem Ok.scope (K:Ok C g σ s){L:Addr}{m:Str->Option Value}{tg:List (Str×Nat)}{r:Bf}(R:AX g s L)(hn:s.heap.Ns L m)(hd:(tg.map (·.1)).Nodup)
  (hv:∀x i,(x,i)∈tg->∃v y,nth r i=some (.val v)/\m x=some y/\Rv C g v y)
  (hr:∀i sl,nth r i=some sl->(∀x,(x,i)∉tg)->nth σ.r i=some sl):Ok C (g.scoped L tg) ⟨r,σ.h⟩ s:=by
 have ne:∀b t,g.Ω b=some t->(g.scoped L tg).Ω b=some t:=λb t e=>by
  show(if b=L then some .dic else g.Ω b)=some t
  rw[if_neg λz=>by subst z;rw[R.o] at e;cases e];exact e
 have lc:∀i l,(g.scoped L tg).loc i=some l->(∃x,l=.d L x/\(x,i)∈tg)\/((∀x,(x,i)∉tg)/\g.loc i=some l)\/(g.loc i=some l/\∃x,l=.d L x/\(x,i)∈tg):=λi l e=>by
  have e:(match By L tg i with|some l=>some l|none=>g.loc i)=some l:=e
  cases q:By L tg i with
  |some l'=>rw[q] at e;refine AZ e ?_;exact .inl (Ke q)
  |none=>
   rw[q] at e
   by_cases h:∃x,(x,i)∈tg
   ·exfalso
    obtain⟨x,hx⟩:=h
    exact absurd q (O8 hx)
   ·exact .inr (.inl ⟨λx hx=>h ⟨x,hx⟩,e⟩)
 have nl:∀i l,g.loc i=some l->l.at≠L:=λi l e z=>by
  have:=K.locs i l e
  cases l with
  |d L' x=>have z:L'=L:=z;subst z;have:=this.1;rw[R.o] at this;exact(ns this).elim
  |c a=>have z:a=L:=z;subst z;have:=this.1;rw[R.o] at this;exact(ns this).elim
 refine{
  fz:=K.fz
  base:=K.base
  own:=λb t e=>by
   have e:(if b=L then some .dic else g.Ω b)=some t:=e
   by_cases q:b=L
   ·subst q;exact⟨R.f,R.lt⟩
   ·rw[if_neg q] at e;exact K.own b t e
  len:=K.len
  cells:=λn c e=>BX.mono (g:=g) (h:=s.heap) (.refl _) (.refl _) (λb q=>⟨by rcases q with q|q<;>exact(ne _ _ q).trans q.symm,λ_ h=>h⟩) (K.cells n c e)
  slots:=λi sl l e el=>?_
  locs:=λi l e=>?_
  inj:=λi j l ei ej=>?_
  gens:=K.gens
  os:=K.os}
 ·rcases lc i l el with⟨x,rfl,hx⟩|⟨hx,el⟩|⟨el,x,rfl,hx⟩
  ·refine Co (hv x i hx) λv y h1 h2 h3=>?_
   have:=h1.symm.trans e;refine AZ this ?_
   exact⟨y,⟨m,hn,h2⟩,h3⟩
  ·exact Bs.mono (g:=g) (h:=s.heap) (.refl _) (.refl _) rfl (λ_ h=>h) (λb q=>⟨by rcases q with q|q<;>exact(ne _ _ q).trans q.symm,λ_ h=>h⟩) (K.slots i sl l (hr i sl e hx) el)
  ·exact absurd rfl (nl i _ el)
 ·rcases lc i l e with⟨x,rfl,hx⟩|⟨hx,el⟩|⟨el,x,rfl,hx⟩
  ·exact⟨if_pos rfl,m,hn⟩
  ·have q:=K.locs i l el
   cases l with
   |d L' x=>exact⟨ne _ _ q.1,q.2⟩
   |c L'=>exact⟨ne _ _ q.1,q.2⟩
  ·exact absurd rfl (nl i _ el)
 ·rcases lc i l ei with⟨x,rfl,hx⟩|⟨hx,el⟩|⟨el,x,rfl,hx⟩<;>rcases lc j _ ej with⟨x',q,hx'⟩|⟨hx',el'⟩|⟨el',x',q,hx'⟩
  ·cases q;exact MK hd hx hx'
  ·exact absurd rfl (nl j _ el')
  ·exact absurd rfl (nl j _ el')
  ·subst q;exact absurd rfl (nl i _ el)
  ·exact K.inj i j l el el'
  ·subst q;exact absurd rfl (nl i _ el)
  ·exact absurd rfl (nl i _ el)
  ·exact absurd rfl (nl i _ el)
  ·exact absurd rfl (nl i _ el)
noncomputable def Gh.unscoped (g:Gh)(L:Addr)(loc:Nat->Option AN):Gh:={g with Ω:=λb=>if b=L then none else g.Ω b,loc:=loc}
theorem Ok.unscope {jH:Gh}(K:Ok C jH σ s){L:Addr}{loc:Nat->Option AN}(hL:jH.Ω L=some .dic)(hs:∀i l,loc i=some l->jH.loc i=some l/\l.at≠L):
  Ok C (jH.unscoped L loc) σ s/\AX (jH.unscoped L loc) s L:=by
 have ne:∀b t,jH.Ω b=some t->t≠.dic->(jH.unscoped L loc).Ω b=some t:=λb t e q=>by
  show(if b=L then none else jH.Ω b)=some t
  rw[if_neg λz=>by subst z;rw[hL] at e;(have z1:=s1 e;clear e;subst z1);exact q rfl];exact e
 refine⟨{
  fz:=K.fz
  base:=K.base
  own:=λb t e=>by
   have e:(if b=L then none else jH.Ω b)=some t:=e
   by_cases q:b=L
   ·rw[if_pos q] at e;exact(ns e).elim
   ·rw[if_neg q] at e;exact K.own b t e
  len:=K.len
  cells:=λn c e=>BX.mono (g:=jH) (h:=s.heap) (.refl _) (.refl _) (λb q=>⟨by rcases q with q|q<;>exact(ne _ _ q (λz=>by cases z)).trans q.symm,λ_ h=>h⟩) (K.cells n c e)
  slots:=λi sl l e el=>Bs.mono (g:=jH) (h:=s.heap) (.refl _) (.refl _) rfl (λ_ h=>h) (λb q=>⟨by rcases q with q|q<;>exact(ne _ _ q (λz=>by cases z)).trans q.symm,λ_ h=>h⟩) (K.slots i sl l e (hs i l el).1)
  locs:=λi l e=>by
   refine AU (hs i l e) λe1 e2=>?_
   have q:=K.locs i l e1
   have ne2:∀b t,jH.Ω b=some t->b≠L->(jH.unscoped L loc).Ω b=some t:=λb t e q=>by
    show(if b=L then none else jH.Ω b)=some t
    rw[if_neg q];exact e
   cases l with
   |d L' x=>exact⟨ne2 _ _ q.1 e2,q.2⟩
   |c L'=>exact⟨ne2 _ _ q.1 e2,q.2⟩
  inj:=λi j l ei ej=>K.inj i j l (hs i l ei).1 (hs j l ej).1
  gens:=K.gens
  os:=K.os},⟨(K.own _ _ hL).1,if_pos rfl,(K.own _ _ hL).2⟩⟩
theorem Go.scoped {jJ g jH:Gh}{jL s jC jG:Shared}{L:Addr}{tg:List (Str×Nat)}(G:Go jJ jL g s)(hL:¬As jL L)(h1:∀b o,b≠L->s.heap.get? b=some o->jC.heap.get? b=some o)
  (ht:∀x i,(x,i)∈tg->g.loc i=none)(hat:∀i l,g.loc i=some l->l.at≠L)(G2:Go (g.scoped L tg) jC jH jG):Go jJ jL (jH.unscoped L g.loc) jG:=by
 refine⟨⟨G.F.trans G2.F,G.φ.trans G2.φ,G.loc,G2.me.trans G.me,λa ha=>G2.live a (by
  obtain⟨o,e⟩:=G.live a ha
  exact⟨o,h1 a o (λz=>hL (z▸ha)) e⟩),λb o e q=>?_⟩,λi l v e hv=>?_⟩
 ·refine BH (G.keep b o e q) λe1 f1 o1=>?_
  have nb:b≠L:=λz=>hL (z▸⟨o,e⟩)
  obtain⟨e2,f2,o2⟩:=G2.keep b o (h1 b o nb e1) (by show(if b=L then _ else g.Ω b)=none;rw[if_neg nb];exact o1)
  exact⟨e2,f2.trans f1,by show(if b=L then none else jH.Ω b)=none;rw[if_neg nb];exact o2⟩
 ·have e1:g.loc i=some l:=by rw[G.loc];exact e
  have hv1:=G.kl i l v e hv
  have na:=hat i l e1
  refine G2.kl i l v ?_ ?_
  ·show(match By L tg i with|some l=>some l|none=>g.loc i)=some l
   rw[Dx λx hx=>by rw[ht x i hx] at e1;cases e1];exact e1
  ·cases l with
   |d L' x=>
    obtain⟨m,⟨o,es,ep,z1,z2⟩,z3⟩:=hv1
    exact⟨m,⟨o,es,ep,h1 L' o na z1,z2⟩,z3⟩
   |c L'=>
    refine Ac hv1 λo z1 z2=>?_
    exact⟨o,h1 L' o na z1,z2⟩
theorem Ok.at_ne (K:Ok C g σ s){L:Addr}(h:g.Ω L=none):∀i l,g.loc i=some l->l.at≠L:=λi l e z=>by
 have:=K.locs i l e
 cases l with
 |d L' x=>have z:L'=L:=z;subst z;have:=this.1;rw[h] at this;exact(ns this).elim
 |c a=>have z:a=L:=z;subst z;have:=this.1;rw[h] at this;exact(ns this).elim
end
end Mine.Internal
end
section
set_option maxRecDepth 10000
namespace Mine.Internal
open PySem PySem.Calls PyProof.Rows PySem.W
noncomputable def Q8 (e:Expr)(i:Nat):Option (Str×Nat):=match e with|.Name x _=>some (x,i)|_=>none
noncomputable def Bc:List Expr->List Nat->Option (List (Str×Nat))
 |[],is=>(match is with|[]=>some []|_::_=>none)
 |e::es,is=>(match is with
  |[]=>none
  |i::is=>(Q8 e i).bind λp=>(Bc es is).map (p::·))
noncomputable def EM (t:Tgt)(e:Expr):Option (List (Str×Nat)):=match t with
 |.one i=>(Q8 e i).map (·::[])
 |.many is=>(match e with|.Tuple es _ _=>Bc es is|_=>none)
theorem Sq {e:Expr}{i:Nat}{q:Str×Nat}{M:Expr->Str×Nat->Prop}(h:Q8 e i=some q)(k:∀x p,M (.Name x p) (x,i)):M e q:=by
 cases e with
 |Name x p=>exact s1 h▸k x p
 |_=>exact(ns h).elim
theorem CS {M:List Expr->List Nat->List (Str×Nat)->Prop}(h0:M [] [] [])(h1:∀x p i es is tg,M es is tg->M (.Name x p::es) (i::is) ((x,i)::tg)):∀{es:List Expr}{is:List Nat}{tg:List (Str×Nat)},Bc es is=some tg->M es is tg
 |[],[],tg,h=>s1 (show some []=some tg from h)▸h0
 |[],_::_,_,h=>(ns h).elim
 |_::_,[],_,h=>(ns h).elim
 |e::es,i::is,tg,h=>Ai (show(Q8 e i).bind (λp=>(Bc es is).map (p::·))=some tg from h) λq h2 h=>by
  refine CG h λtg' h3=>?_
  exact Sq (M:=λe q=>M (e::es) (i::is) (q::tg')) h2 λx p=>h1 x p i es is tg' (CS h0 h1 h3)
theorem DF {es:List Expr}{is:List Nat}{tg:List (Str×Nat)}:Bc es is=some tg->tg.map (·.2)=is/\tg.length=es.length:=
 CS (M:=λes is tg=>tg.map (·.2)=is/\tg.length=es.length) ⟨rfl,rfl⟩ λ_ _ i _ _ _ ih=>⟨congrArg (i::·) ih.1,congrArg (·+1) ih.2⟩
theorem BY {env:PySem.Env}{es:List Expr}{is:List Nat}{tg:List (Str×Nat)}:Bc es is=some tg->(assignEach es env).length=es.length/\(assignEach es env).findIdx? (·.1)=none:=
 CS (M:=λes _ _=>(assignEach es env).length=es.length/\(assignEach es env).findIdx? (·.1)=none) ⟨rfl,rfl⟩ λx p _ es _ _ ih=>⟨congrArg (·+1) ih.1,by
  show List.findIdx? _ ((false,assign (.Name x p) env)::assignEach es env)=none
  rw[List.findIdx?_cons,ih.2];rfl⟩
theorem bo {i:Nat}{is:List Nat}{vs:List Slot}{r r':Bf}{M:List Slot->Prop}(h:Di (i::is) vs r=some r')(k:∀v vs,i<r.length->Di is vs (put r i v)=some r'->M (v::vs)):M vs:=by
 cases vs with
 |nil=>exact(ns h).elim
 |cons v vs=>exact AJ (show(match Nat.blt i r.length with|true=>Di is vs (put r i v)|false=>none)=some r' from h) λh1 h=>k v vs (Nat.le_of_ble_eq_true h1) h
theorem DZ:∀{is:List Nat}{vs:List Slot}{r r':Bf},Di is vs r=some r'->is.length=vs.length
 |[],[],_,_,_=>rfl
 |[],_::_,_,_,h=>(ns h).elim
 |i::is,vs,r,r',h=>bo (M:=λvs=>(i::is).length=vs.length) h λv vs _ h=>congrArg (·+1) (DZ h)
theorem Fg {is:List Nat}{vs:List V}{r r':Bf}(h:Gn is vs r=some r'):is.length=vs.length:=(DZ h).trans (List.length_map ..)
theorem AP {α:Type}:∀{l:List α}{i:Nat}{x:α},i<l.length->nth (put l i x) i=some x
 |[],_,_,h=>absurd h (Nat.not_lt_zero _)
 |_::_,0,_,_=>rfl
 |_::l,i+1,x,h=>AP (l:=l) (Nat.lt_of_succ_lt_succ h)
theorem F9 {α:Type}:∀{l:List α}{i j:Nat}{x:α},j≠i->nth (put l i x) j=nth l j
 |[],_,_,_,_=>rfl
 |_::_,0,0,_,h=>absurd rfl h
 |_::_,0,_+1,_,_=>rfl
 |_::_,_+1,0,_,_=>rfl
 |_::l,i+1,j+1,x,h=>F9 (l:=l) (λq=>h (q▸rfl))
section
variable {C:Cx}{A:Around}{g:Gh}{σ:St}{s:Shared}{env:PySem.Env}{k:Ck}
structure Dv (C:Cx)(g:Gh)(σ:St)(s:Shared)(L:Addr)(m:Str->Option Value)(r:Bf)(tg:List (Str×Nat))(r':Bf)(s':Shared):Prop where
 ok:Ok C g σ s'
 raw:AX g s' L
 keep:∀b o,b≠L->s.heap.get? b=some o->s'.heap.get? b=some o
 ns:∃m',s'.heap.Ns L m'/\(∀y i,(y,i)∈tg->∃v z,nth r' i=some (.val v)/\m' y=some z/\Rv C g v z)/\(∀y,y∉tg.map (·.1)->m' y=m y)
 rest:∀i,i∉tg.map (·.2)->nth r' i=nth r i
theorem MZ (hk:env.scope.kind=.function){M:Model}{E:Value->Shared->Prop}{Q:Unit->Shared->Prop}{x:Str}{p:Pos}{i:Nat}{v:V}{y:Value}{r:Bf}{m:Str->Option Value}(hl:env.kindOf x=some .local)(hlt:i<r.length)(hy:Rv C g v y)(K:Ok C g σ s)(R:AX g s env.locals)(hn:s.heap.Ns env.locals m)
  (q:∀s' m',Dv C g σ s env.locals m r [(x,i)] (put r i (.val v)) s'->s'.heap.Ns env.locals m'->m' x=some y->(∀z,z≠x->m' z=m z)->Q () s'):wpAny M A (assign (.Name x p) env y) Q E s:=by
 have hp:(env.scope.kind==.class||(env.scope.kind==.module&&env.locals !=env.globals))=false:=by rw[hk];rfl
 refine wpAny_assign_Name (wpAny_storeName_local hl hn (λh₂ j0 j5=>?_) hp)
 have nx:∀z,z≠x->(if z=x then some y else m z)=m z:=λz h=>if_neg h
 exact q _ _ ⟨K.raw_upd R j5 rfl rfl,⟨R.f,R.o,AA j0 λo h=>Ez h λ_ _ h=>⟨o,h.1⟩⟩,λb o nb e=>j5.extBut b o nb e,
  ⟨_,j0,λy' j hm=>by rw[(Prod.mk.inj (List.mem_singleton.1 hm)).1,(Prod.mk.inj (List.mem_singleton.1 hm)).2];exact⟨v,y,AP hlt,if_pos rfl,hy⟩,λy' hy'=>nx y' λe=>hy' (e▸List.mem_cons_self)⟩,
  λj hj=>F9 λe=>hj (e▸List.mem_cons_self)⟩ j0 (if_pos rfl) nx
theorem Qs {M:Model}{E:Value->Shared->Prop}(hk:env.scope.kind=.function){es:List Expr}{is:List Nat}{tg:List (Str×Nat)}:Bc es is=some tg->∀{vs:List V}{xs:List Value}{r r':Bf}{s:Shared}{m:Str->Option Value}{Q:Unit->Shared->Prop},
  (∀p∈tg,env.kindOf p.1=some .local)->(tg.map (·.1)).Nodup->(tg.map (·.2)).Nodup->Ak C g.F g.φ vs xs->Gn is vs r=some r'->Ok C g σ s->AX g s env.locals->s.heap.Ns env.locals m->
  (∀s',Dv C g σ s env.locals m r tg r' s'->Q () s')->wpAny M A (assignInOrder ((assignEach es env).map (·.2)) xs) Q E s:=by
 refine CS (M:=λes is tg=>∀{vs:List V}{xs:List Value}{r r':Bf}{s:Shared}{m:Str->Option Value}{Q:Unit->Shared->Prop},
  (∀p∈tg,env.kindOf p.1=some .local)->(tg.map (·.1)).Nodup->(tg.map (·.2)).Nodup->Ak C g.F g.φ vs xs->Gn is vs r=some r'->Ok C g σ s->AX g s env.locals->s.heap.Ns env.locals m->
  (∀s',Dv C g σ s env.locals m r tg r' s'->Q () s')->wpAny M A (assignInOrder ((assignEach es env).map (·.2)) xs) Q E s) ?_ ?_
 ·intro vs xs r r' s m Q _ _ _ hx hz K R hn q
  cases vs with
  |nil=>
   refine C9 hx ?_
   exact wpAny_pure (q s (s1 (show some r=some r' from hz)▸⟨K,R,λ_ _ _ e=>e,⟨m,hn,(λ_ _ h=>nomatch h),λ_ _=>rfl⟩,λ_ _=>rfl⟩))
  |cons=>exact(ns hz).elim
 ·intro x p i es is tg ih vs xs r r' s m Q hl hd hi hx hz K R hn q
  cases vs with
  |nil=>exact(ns hz).elim
  |cons v vs=>
   refine BR hx λy ys hy hys=>?_
   refine AJ (show(match Nat.blt i r.length with|true=>Di is (vs.map Slot.val) (put r i (.val v))|false=>none)=some r' from hz) λhlt hz=>?_
   have hlt:=Nat.le_of_ble_eq_true hlt
   have hd:=List.nodup_cons.1 hd
   have hi:=List.nodup_cons.1 hi
   show wpAny M A (holding ys (assign (.Name x p) env y)>>=λ_=>assignInOrder ((assignEach es env).map (·.2)) ys) Q E s
   refine wpAny_bind (wpAny_holding (MZ (σ:=σ) hk (hl _ List.mem_cons_self) hlt hy K R hn λjC m₁ S1 hn1 hx1 ho1=>?_))
   refine ih (λp hp=>hl p (List.mem_cons_of_mem _ hp)) hd.2 hi.2 hys hz S1.ok S1.raw hn1 λs' S=>q s' ?_
   refine CP S.ns λm' n1 n2 n3=>?_
   refine⟨S.ok,S.raw,λb o nb e=>S.keep b o nb (S1.keep b o nb e),⟨m',n1,λy' j hm=>(List.mem_cons.1 hm).elim (λe=>?_) (n2 y' j),λy' hy'=>?_⟩,λj hj=>?_⟩
   ·rw[(Prod.mk.inj e).1,(Prod.mk.inj e).2]
    exact⟨v,y,(S.rest i hi.1).trans (AP hlt),(n3 x hd.1).trans hx1,hy⟩
   ·exact(n3 y' λh=>hy' (List.mem_cons_of_mem _ h)).trans (ho1 y' λe=>hy' (e▸List.mem_cons_self))
   ·exact(S.rest j λh=>hj (List.mem_cons_of_mem _ h)).trans (F9 λe=>hj (e▸List.mem_cons_self))
theorem Dv.of_grow {jC s':Shared}{L:Addr}{m:Str->Option Value}{r r':Bf}{tg:List (Str×Nat)}(k:BA s.heap jC.heap)(S:Dv C g σ jC L m r tg r' s'):Dv C g σ s L m r tg r' s':=
 ⟨S.ok,S.raw,λb o nb e=>S.keep b o nb (k b o e),S.ns,S.rest⟩
theorem Fj {hh:A.handled=none}{v:V}{x:Value}{vs:List V}(K:Ok C g σ s)(hx:Rv C g v x)(e:DR v=some vs){M:Unit}{E:Value->Shared->Prop}{targets:List (Bool×(Value->Sem Unit))}{Q:Unit->Shared->Prop}
  (hn:targets.length=vs.length)(hst:targets.findIdx? (·.1)=none)
  (h:∀h' xs,BA s.heap h'->Ak C g.F g.φ vs xs->wpAny (model C.prog C.w) A (assignInOrder (targets.map (·.2)) xs) Q E {s with heap:=h'}):wpAny (model C.prog C.w) A (unpack x targets) Q E s:=by
 have hext:∀{h'},Heap.ExtBut s.heap.objs.size s.heap h'->BA s.heap h':=λhe a o e=>he a o (Nat.ne_of_lt (Heap.lt_size e)) e
 cases v<;>first|exact(ns e).elim|skip
 ·rw[<-s1 e] at hn h
  refine D3 hx λa xs _ ha hl=>Ez (B9 (K.seq ha)) λn sl ea=>?_
  exact wpAny_unpack_tuple hh ⟨_,ea,rfl,n,rfl⟩ (hn.trans hl.length.symm) hst λh' he=>h h' xs (hext he) hl
 ·rw[<-s1 e] at hn h
  refine BJ hx λa xs _ ha hl=>?_
  have hsz:targets.length=xs.toArray.size:=hn.trans hl.length.symm
  unfold unpack
  rw[hsz,hst]
  exact wpAny_bind (wpAny_holding (kun_itemsOf hh (K.isList ha) λh' he=>h h' xs (hext he) hl))
theorem X8 (hh:A.handled=none)(hk:env.scope.kind=.function){t:Tgt}{e:Expr}{tg:List (Str×Nat)}{v:V}{x:Value}{r':Bf}{m:Str->Option Value}{E:Value->Shared->Prop}{Q:Unit->Shared->Prop}
  (ht:EM t e=some tg)(hl:∀p∈tg,env.kindOf p.1=some .local)(hd:(tg.map (·.1)).Nodup)(hi:(tg.map (·.2)).Nodup)(hx:Rv C g v x)(hs:DD t v σ.r=some r')(K:Ok C g σ s)(R:AX g s env.locals)(hn:s.heap.Ns env.locals m)
  (q:∀s',Dv C g σ s env.locals m σ.r tg r' s'->Q () s'):wpAny (model C.prog C.w) A (assign e env x) Q E s:=by
 cases t with
 |one i=>
  revert hl hd hi q
  refine CG (show(Q8 e i).map (·::[])=some tg from ht) λp h1=>?_
  refine Sq (M:=λe p=>(∀p'∈[p],env.kindOf p'.1=some .local)->_->_->(∀s',Dv C g σ s env.locals m σ.r [p] r' s'->Q () s')->wpAny _ A (assign e env x) Q E s) h1 λy pos hl _ _ q=>?_
  refine AJ hs λhlt hs=>?_
  exact MZ hk (hl _ List.mem_cons_self) (Nat.le_of_ble_eq_true hlt) hx K R hn λs' m' S _ _ _=>q s' (s1 hs▸S)
 |many is=>
  cases e<;>first|exact(ns ht).elim|skip
  refine Ai (show(DR v).bind (λvs=>Gn is vs σ.r)=some r' from hs) λvs h1 h2=>?_
  rw[arm_assign_Tuple]
  have z:=DF ht
  refine wpAny_bind (wpAny_standAt (Fj (hh:=hh) (M:=()) K hx h1 ?_ (BY ht).2 λh' xs hle hl'=>?_))
  ·rw[(BY ht).1,<-z.2,<-Fg h2,<-z.1,List.length_map]
  ·exact Qs hk ht hl hd hi hl' h2 (K.grow hle rfl rfl) ⟨R.f,R.o,hle.live R.lt⟩ (hn.keeps hle) λs' S=>q s' (S.of_grow hle)
end
end Mine.Internal
end
section
set_option maxRecDepth 10000
namespace Mine.Internal
open PySem PySem.Calls PyProof.Rows PySem.W
section
variable {C:Cx}{A:Around}{T:Tab}{D:Den}
noncomputable def Bi (T:Tab)(D:Den)(elt:E)(t:Tgt)(cond:Option E)(v:V)(s':St):Option (Option V×St):=
 (DD t v s'.r).bind λr=>(OY T D cond ⟨r,s'.h⟩).bind λb=>match b.1 with
   |true=>(ev T D elt b.2).map λy=>(some y.1,y.2)
   |false=>some (Option.none,b.2)
noncomputable abbrev Ls (ifs:List Expr)(cenv:PySem.Env):Sem Bool:=
 forIn ifs true λc r=>if r=true then do let ok <-PySem.isTrue c cenv (eval c cenv);pure (ForInStep.yield ok) else pure (ForInStep.yield r)
structure CompOk (C:Cx)(T:Tab)(D:Den)(A:Around)(cenv:PySem.Env)(k:Ck)(elt:E)(cond:Option E)(pe:Expr)(ifs:List Expr):Prop where
 test:∀g σ s b jI,Ah cenv k g.loc->Ok C g σ s->OY T D cond σ=some (b,jI)->Wp C A (Ls ifs cenv) (Aa C (λ_ (b:Bool) c=>c=b) g s jI b) s
 elt:∀g σ s v jI,Ah cenv k g.loc->Ok C g σ s->ev T D elt σ=some (v,jI)->Wp C A (eval pe cenv) (Aa C (Rv C) g s jI v) s
structure AtZ (jL:Shared)(L Dl I:Addr):Prop where
 nL:¬As jL L
 nD:¬As jL Dl
 nI:¬As jL I
 LD:L≠Dl
 LI:L≠I
 DI:Dl≠I
structure Cc (C:Cx)(jJ:Gh)(jL:Shared)(L Dl I:Addr)(g:Gh)(σ:St)(s:Shared)(acc:List V)(ys:List Value):Prop where
 go:Go jJ jL g s
 ok:Ok C g σ s
 rL:AX g s L
 rD:AX g s Dl
 ns:∃m,s.heap.Ns L m
 lst:A6 "list" s.heap.get? Dl ys
 acc:Ak C g.F g.φ acc ys
 z:AtZ jL L Dl I
theorem A6.ext {T:String}{s s':Shared}{a:Addr}{xs:List Value}(x:A6 T s.heap.get? a xs)(h:∀o,s.heap.get? a=some o->s'.heap.get? a=some o):A6 T s'.heap.get? a xs:=
 Ac x λo e r=>⟨o,h _ e,r⟩
section
variable {jJ g:Gh}{jL s:Shared}{L Dl I:Addr}{σ:St}{acc:List V}{ys:List Value}
theorem Cc.mv (X:Cc C jJ jL L Dl I g σ s acc ys){s':Shared}{a:Addr}(rI:AX g s a)(na:¬As jL a)(aL:L≠a)(aD:Dl≠a)(hb:∀b o,b≠a->s.heap.get? b=some o->s'.heap.get? b=some o)(hg:s'.gens=s.gens)(ho:s'.os=s.os):Cc C jJ jL L Dl I g σ s' acc ys:=
 ⟨X.go.raw_ext X.ok rI na hb,X.ok.raw_ext rI hb hg ho,X.rL.ext λo e=>hb _ o aL e,X.rD.ext λo e=>hb _ o aD e,X.ns.imp λm h=>Kt h λo e=>hb _ o aL e,X.lst.ext λo e=>hb _ o aD e,X.acc,X.z⟩
theorem Cc.push (X:Cc C jJ jL L Dl I g σ s acc ys){h:Heap}{v:V}{x:Value}(hs:Heap.SameBut Dl s.heap h)(hf:A6 "list" h.get? Dl (ys++[x]))(rx:Rv C g v x):Cc C jJ jL L Dl I g σ {s with heap:=h} (acc++[v]) (ys++[x]):=
 ⟨X.go.raw_upd X.ok X.rD X.z.nD hs,X.ok.raw_upd X.rD hs rfl rfl,X.rL.ext (s':={s with heap:=h}) λo e=>Cf hs _ o X.z.LD e,⟨X.rD.f,X.rD.o,Ac hf λo e _=>⟨o,e⟩⟩,X.ns.imp λm q=>Kt q λo e=>Cf hs _ o X.z.LD e,hf,X.acc.append (Hj rx rfl),X.z⟩
theorem drop_nil {α:Type}{l:List α}{i:Nat}(h:l.drop i=[])(hi:i<=l.length):i=l.length:=Nat.le_antisymm hi (List.drop_eq_nil_iff.1 h)
theorem EU {α:Type}:∀{l:List α}{i:Nat}{v:α}{r:List α},l.drop i=v::r->i<l.length/\nth l i=some v/\l.drop (i+1)=r
 |[],i,_,_,h=>(nomatch (List.drop_nil (i:=i)).symm.trans h)
 |a::l,0,v,r,h=>⟨Nat.succ_pos _,congrArg some (List.cons.inj h).1,(List.cons.inj h).2⟩
 |a::l,i+1,v,r,h=>BH (EU (l:=l) (i:=i) h) λa b c=>⟨Nat.succ_lt_succ a,b,c⟩
theorem Cc.back (X:Cc C jJ jL L Dl I g σ s acc ys)(I1:AX g s I){m:Str->Option Value}{r r':Bf}{tg:List (Str×Nat)}{jG jR:Shared}(S:Dv C g σ s L m r tg r' jG)(hne:tg≠[])(hi:(tg.map (·.2)).Nodup)(hfree:∀x i,(x,i)∈tg->jJ.loc i=none)
  {jP:Gh}{jF:St}(G:Go (g.scoped L tg) jG jP jR)(K:Ok C jP jF jR):
  Cc C jJ jL L Dl I (jP.unscoped L g.loc) jF jR acc ys/\AX (jP.unscoped L g.loc) jR I/\∀b o,(b=I\/∃o',jJ.F b=some o')->s.heap.get? b=some o->jR.heap.get? b=some o:=by
 obtain⟨⟨tx,tI⟩,htg⟩:=List.exists_mem_of_ne_nil _ hne
 have hne2:∀i l,g.loc i=some l->l.at≠L:=X.ok.at_ne X.rL.o
 have el:∀j,jP.loc j=match By L tg j with|some l=>some l|none=>g.loc j:=λj=>congrFun G.loc j
 have lc:jP.loc tI=some (.d L tx):=by rw[el,Jc htg hi]
 have hΩ:=K.locs tI _ lc
 have hf2:∀x j,(x,j)∈tg->g.loc j=none:=λx j hx=>(congrFun X.go.loc j).trans (hfree x j hx)
 refine AU (K.unscope (L:=L) (loc:=g.loc) hΩ.1 λj lj e=>⟨by rw[el,Dx λx hx=>sn (e.symm.trans (hf2 x j hx))];exact e,hne2 j lj e⟩) λKu RLu=>?_
 have Gu:=Go.scoped (L:=L) (tg:=tg) X.go X.z.nL S.keep hf2 hne2 G
 have keepR:∀a,L≠a->AX g s a->AX (jP.unscoped L g.loc) jR a/\∀o,s.heap.get? a=some o->jR.heap.get? a=some o:=λa na R=>AA R.lt λo ho=>by
  have na:=Ne.symm na
  have e2:=S.keep a o na ho
  refine AU (G.raw (a:=a) ⟨R.f,(if_neg na).trans R.o,o,e2⟩ e2) λR4 e4=>⟨⟨R4.f,(if_neg na).trans R4.o,o,e4⟩,λo' ho'=>s1 (ho.symm.trans ho')▸e4⟩
 refine AU (keepR Dl X.z.LD X.rD) λRD eD=>AU (keepR I X.z.LI I1) λRI eI=>?_
 refine⟨⟨Gu,Ku,RLu,RD,hΩ.2,X.lst.ext eD,Ak.mono (φ:=g.φ) (F:=g.F) G.F G.φ X.acc,X.z⟩,RI,λb o hb ho=>?_⟩
 refine hb.elim (λe=>?_) λhb=>AA hb λo' ho'=>?_
 ·rw[e] at ho ⊢;exact eI o ho
 ·exact(Ku.fz _ _ (Gu.F _ _ ho')).trans ((X.ok.fz _ _ (X.go.F _ _ ho')).symm.trans ho)
end
theorem U7 {cenv:PySem.Env}{k':Ck}{elt:E}{cond:Option E}{pe tgt iter:Expr}{ifs:List Expr}{scope:Scope}{pos:Pos}{t:Tgt}{tg:List (Str×Nat)}{L Dl I:Addr}{fp:List Addr}{n:Nat}{P:Nat->Value->Prop}{Ae:Nat->Heap->Prop}
  {jJ:Gh}{jL:Shared}{R:Result->Shared->Prop}{jO:List V}(hh:A.handled=none)(H:CompOk C T D A cenv k' elt cond pe ifs)(hL:cenv.locals=L)(hk:cenv.scope.kind=.function)
  (ht:EM t tgt=some tg)(hl:∀p∈tg,cenv.kindOf p.1=some .local)(hd:(tg.map (·.1)).Nodup)(hi:(tg.map (·.2)).Nodup)(hfree:∀x i,(x,i)∈tg->jJ.loc i=none)
  (hE:Ah cenv k' (λi=>match By L tg i with|some l=>some l|none=>jJ.loc i))
  (W:Walks C.prog C.w A I fp [I] n P Ae)(hpl:∀i h,Ae i h->Ex h I)(hfp:∀b∈fp,b=I\/∃o,jJ.F b=some o)(hP:∀i v',i<n->P i v'->∃u,nth jO i=some u/\Rv C jJ u v')(hn:n=jO.length)(hz:n<=line)(hne:tg≠[]):
  ∀(l:List V)(i:Nat)(g:Gh)(s:Shared)(σ jI:St)(acc q:List V)(ys:List Value),BW (Bi T D elt t cond) l σ=some (q,jI)->jO.drop i=l->i<=n->Cc C jJ jL L Dl I g σ s acc ys->AX g s I->Ae i s.heap->ys.length<=i->
   (∀g' s' ys',Cc C jJ jL L Dl I g' jI s' (acc++q) ys'->R (.ok .next) s')->
   codeAny (model C.prog C.w) A (.compLoop (.ListComp pe [⟨tgt,iter,ifs,0⟩] scope pos) 0 (.ref I) (.ref Dl) cenv) R s:=by
 intro l
 induction l with
 |nil=>
  intro i g s σ jI acc q ys hc hdr hin X rI hst hys hR
  rw[hn] at hin
  have hi':i=n:=(drop_nil hdr hin).trans hn.symm
  refine codeAny_of_tree ?_
  show wpAny _ A ((compTurn (.ListComp pe [⟨tgt,iter,ifs,0⟩] scope pos) 0 (.ref I) (.ref Dl) cenv).onRaise (λx=>do noteFrame x cenv;theTreesLotGoes x)) _ _ s
  refine wpAny_noted ?_
  rw[compTurn_list]
  refine wpAny_bind (wpAny_standAt (wpAny_bind (W.done s _ _ (hi'▸hst) λh' tk hb=>wpAny_pure ?_)))
  have z:=p2 hc
  refine hR g _ ys ?_
  rw[<-z.1,<-z.2,List.append_nil]
  exact X.mv rI X.z.nI X.z.LI X.z.DI (λb o nb e=>hb b o (λq=>nb (List.mem_singleton.1 q)) e) rfl rfl
 |cons v l ih=>
  intro i g s σ jI acc q ys hc hdr hin X rI hst hys hR
  refine Ai hc λp hp0 hc=>Ai hc λq1 hq1 hc=>Ai hp0 λr' hr' hp1=>Ai hp1 λb hb hp2=>?_
  have z:=p2 hc
  rw[<-z.1,<-z.2] at hR
  refine BH (EU hdr) λhlt hvi hdr'=>?_
  rw[<-hn] at hlt
  refine codeAny_of_tree ?_
  show wpAny _ A ((compTurn (.ListComp pe [⟨tgt,iter,ifs,0⟩] scope pos) 0 (.ref I) (.ref Dl) cenv).onRaise (λx=>do noteFrame x cenv;theTreesLotGoes x)) _ _ s
  refine wpAny_noted ?_
  rw[compTurn_list]
  refine wpAny_bind (wpAny_standAt (wpAny_bind (W.item i s _ _ hlt hst λx h' tk hPx hst1 hbI=>?_)))
  have X1:Cc C jJ jL L Dl I g σ {s with heap:=h',toks:=tk} acc ys:=X.mv rI X.z.nI X.z.LI X.z.DI (λb o nb e=>hbI b o (λq=>nb (List.mem_singleton.1 q)) e) rfl rfl
  have P1:=hpl _ _ hst1
  have I1:AX g {s with heap:=h',toks:=tk} I:=⟨rI.f,rI.o,Ez P1 λo _ e=>⟨o,e.1⟩⟩
  refine Ac (hP i x hlt hPx) λu hu rv=>?_
  rw[s1 (hu.symm.trans hvi)] at rv
  refine wpAny_bind (GB P1 (wpAny_bind ?_))
  refine AA X1.ns λm N1=>?_
  subst hL
  refine X8 hh hk ht hl hd hi (rv.go X1.go) hr' X1.ok X1.rL N1 λjG S=>?_
  refine CP S.ns λm2 n1 n2 n3=>?_
  have K2:Ok C (g.scoped cenv.locals tg) ⟨r',σ.h⟩ jG:=S.ok.scope S.raw n1 hd n2 λj sl e1 e2=>
   (S.rest j λhj=>Ac (List.mem_map.1 hj) λp hp hpj=>e2 p.1 (hpj▸hp)).symm.trans e1
  have eL:(g.scoped cenv.locals tg).loc=λi=>match By cenv.locals tg i with|some l=>some l|none=>jJ.loc i:=by
   show(λi=>match By cenv.locals tg i with|some l=>some l|none=>g.loc i)=_
   rw[X.go.loc]
  refine wpAny_bind ((H.test _ _ jG b.1 b.2 (eL▸hE) K2 hb).r λok jK jH G2 K3 hok=>?_)
  rw[hok]
  cases hb1:b.1 with
  |false=>
   rw[hb1] at hp2
   rw[<-s1 hp2] at hq1 hR
   refine BH (X1.back I1 S hne hi hfree G2 K3) λX3 RI hk3=>wpAny_pure ⟨rfl,?_⟩
   exact ih (i+1) _ jK b.2 _ acc q1.1 ys hq1 hdr' hlt X3 RI (W.frame _ _ _ hst1 λb hb o ho=>hk3 b o (hfp b hb) ho) (Nat.le_succ_of_le hys) hR
  |true=>
   rw[hb1] at hp2
   refine Ac (Option.map_eq_some_iff.1 hp2) λy hy hp3=>?_
   rw[<-hp3] at hq1 hR
   refine wpAny_bind (wpAny_bind ((H.elt jH _ jK y.1 y.2 (by rw[G2.loc,eL];exact hE) K3 hy).r λx2 jR jP G3 K4 rx=>wpAny_bind ?_))
   refine BH (X1.back I1 S hne hi hfree (G2.trans G3) K4) λX3 RI hk3=>?_
   refine Fh X3.lst (Nat.le_trans hys (Nat.le_trans hin hz)) λh5 hf5 hs5=>wpAny_pure (wpAny_pure ⟨rfl,?_⟩)
   refine ih (i+1) _ {jR with heap:=h5} y.2 _ (acc++[y.1]) q1.1 (ys++[x2]) hq1 hdr' hlt (X3.push hs5 hf5 rx) (RI.ext (s':={jR with heap:=h5}) λo e=>Cf hs5 _ o (Ne.symm X.z.DI) e) (W.frame _ _ _ hst1 λb hb o ho=>?_) ?_ (λg' s' ys' X'=>hR g' s' ys' ?_)
   ·refine Cf hs5 _ _ (λz=>(hfp b hb).elim (λe=>X.z.DI (z.symm.trans e)) λe=>AA e λo' ho'=>sn ((X3.go.F _ _ ho').symm.trans (z▸X3.rD.f))) (hk3 b o (hfp b hb) ho)
   ·rw[List.length_append];exact Nat.succ_le_succ hys
   ·rw[List.append_assoc] at X';exact X'
end
end Mine.Internal
end
section
set_option maxRecDepth 10000
namespace Mine.Internal
open PySem PySem.Calls PyProof.Rows PySem.W
theorem EY {e:Expr}{env:PySem.Env}(h:BE e=false)(x:Value):foldedSetIterable e env x=pure x:=by
 cases e<;>first|rfl|exact(tf h).elim
structure CompSt (k:Ck)(scope:Scope)(t:Tgt)(tgt:Expr)(tg:List (Str×Nat))(k':Ck):Prop where
 ht:EM t tgt=some tg
 kind:scope.kind=.function
 cell:∀y∈scope.names,y.2≠.cell
 names:∀y∈scope.names,y.2=.local->scope.names.lookup y.1=some .local
 loc:∀p∈tg,scope.names.lookup p.1=some .local
 d1:(tg.map (·.1)).Nodup
 d2:(tg.map (·.2)).Nodup
 ne:tg≠[]
 idx:∀p∈tg,k.n<=p.2/\p.2<k'.n
 free:∀x,(x,NameKind.free)∈scope.names->∃i,lk x k.vars=some i/\(k.sc.names.lookup x=some .cell\/k.sc.names.lookup x=some .free)
 sc:k'.sc=EB scope k.sc
 vars:∀x i,lk x k'.vars=some i->(x,i)∈tg\/((x,NameKind.free)∈scope.names/\scope.names.lookup x=some .free/\lk x k.vars=some i)
 n:k.n<=k'.n
section
variable {C:Cx}{A:Around}{T:Tab}{D:Den}{g:Gh}{σ:St}{s:Shared}{env:PySem.Env}{k:Ck}
theorem VY (H:Ah env k g.loc){scope:Scope}{t:Tgt}{tgt:Expr}{tg:List (Str×Nat)}{k':Ck}(c:CompSt k scope t tgt tg k'){L:Addr}{cl:List (Str×Addr)}(hcl:∀x,(x,NameKind.free)∈scope.names->cl.lookup x=env.cells.lookup x)
  {cenv:PySem.Env}(e1:cenv.scope=relabel scope env)(e2:cenv.locals=L)(e3:cenv.globals=env.globals)(e4:cenv.builtins=env.builtins)(e5:cenv.cells=cl):
  Ah cenv k' (λi=>match By L tg i with|some l=>some l|none=>g.loc i) where
 sc:=by rw[e1,c.sc,SN H.sc]
 kind:=by rw[c.sc];exact c.kind
 glob:=e3.trans H.glob
 blt:=e4.trans H.blt
 vars:=λx i h=>by
  rw[c.sc]
  rcases c.vars x i h with hx|⟨hx,hx2,hx3⟩
  ·left
   have hl:=c.loc _ hx
   refine⟨?_,?_⟩
   ·rcases Dt (sc:=k.sc) hl with q|⟨q,_⟩
    ·exact q
    ·cases q
   ·show(match By L tg i with|some l=>some l|none=>g.loc i)=_
    rw[Jc hx c.d2,e2]
  ·right
   refine⟨?_,?_⟩
   ·rcases Dt (sc:=k.sc) hx2 with q|⟨_,q⟩
    ·exact .inr q
    ·exact .inl q
   ·refine Ac (c.free x hx) λi' h1 h2=>?_
    have:i'=i:=Option.some.inj (h1.symm.trans hx3)
    subst this
    rcases H.vars x i' h1 with⟨z,_⟩|⟨_,a,z1,z2⟩
    ·rcases h2 with h2|h2<;>rw[z] at h2<;>cases h2
    ·refine⟨a,by rw[e5,hcl x hx];exact z1,?_⟩
     show(match By L tg i' with|some l=>some l|none=>g.loc i')=_
     rw[Dx λy hy=>by
      have:=H.top i' (c.idx _ hy).1
      rw[z2] at this;cases this]
     exact z2
 top:=λi hi=>by
  show(match By L tg i with|some l=>some l|none=>g.loc i)=none
  rw[Dx λy hy=>by
   have:=(c.idx _ hy).2
   have:i<k'.n:=this
   exact((AR 0x00202d10111a111019) hi this)]
  exact H.top i (Nat.le_trans c.n hi)
theorem Oj {jE:Gh}{jC jG jK:Shared}{jD:St}{I:Addr}{jS:Heap}{m:Str->Option Value}{o:Obj}(K2:Ok C jE jD jG)(G2:Go jE jC jE jG)(RI:AX jE jG I)(nI:¬As jC I)(hs3:({jG with heap:=jG.heap.push {cls:=.type "list",data:=.seq ([]:List Value).toArray}}:Shared)=jK)
  (hns:jS.Ns jK.heap.objs.size m)(hsb:Heap.SameBut jK.heap.objs.size (jK.heap.push o) jS)(t:Tok):
  Cc C jE jC jK.heap.objs.size jG.heap.objs.size I jE jD {jK with heap:=jS,toks:=t} [] []/\AX jE {jK with heap:=jS,toks:=t} I/\∀b o,jG.heap.get? b=some o->jS.get? b=some o:=by
 refine Cz (K2.push (s':={jG with heap:=jG.heap.push {cls:=.type "list",data:=.seq ([]:List Value).toArray}}) rfl rfl rfl rfl) λK3 G3 RD eD=>?_
 rw[hs3] at K3 G3 RD eD
 have hdl:jG.heap.objs.size<jK.heap.objs.size:=by rw[<-hs3];show _<(jG.heap.push _).objs.size;rw[Heap.size_push];exact Nat.lt_succ_self _
 have hIl:I<jG.heap.objs.size:=AA RI.lt λo e=>Heap.lt_size e
 have k3:BA jK.heap jS:=λb o e=>hsb.extBut b o (Nat.ne_of_lt (Heap.lt_size e)) (Heap.get?_push_of_some _ e)
 have k4:BA jG.heap jS:=λb o e=>k3 b o (by rw[<-hs3];exact BA.push _ _ _ _ e)
 have fr:=K3.none_of_fresh (a:=jK.heap.objs.size) (Bg (Nat.le_refl _))
 exact⟨⟨(G2.trans G3).trans (.grow _ (s':={jK with heap:=jS,toks:=t}) k3),K3.grow (s':={jK with heap:=jS,toks:=t}) k3 rfl rfl,⟨fr.1,fr.2,AA hns λo h=>Ez h λ_ _ h=>⟨o,h.1⟩⟩,RD.ext (s':={jK with heap:=jS,toks:=t}) (k3 _),⟨_,hns⟩,⟨_,k3 _ _ eD,rfl,rfl,_,rfl⟩,rfl,
  λq=>Bg (Nat.le_refl _) ((G2.trans G3).live _ q),λq=>Bg (Nat.le_refl _) (G2.live _ q),nI,Nat.ne_of_gt hdl,Nat.ne_of_gt (Nat.lt_trans hIl hdl),Nat.ne_of_gt hIl⟩,RI.ext (s':={jK with heap:=jS,toks:=t}) (k4 _),k4⟩
theorem ME (hh:A.handled=none)(H:Ah env k g.loc){scope:Scope}{pos ppos:Pos}{t:Tgt}{tgt iter pe:Expr}{ifs:List Expr}{tg:List (Str×Nat)}{k':Ck}(c:CompSt k scope t tgt tg k'){elt:E}{cond:Option E}
  (hset:BE iter=false)(HC:∀cenv,CompOk C T D A cenv k' elt cond pe ifs){v:V}{l q:List V}{jD jI:St}{use:Option (Value->Sem Unit)}{Q:Value->Shared->Prop}
  (h1:Wp C A (eval iter env) (Aa C (Rv C) g s jD v) s)(e1:A4 v=some l)(e2:BW (Bi T D elt t cond) l jD=some (q,jI))
  (hQ:∀jE jC g' s' ys Dl L I,Go g s jE jC->Cc C jE jC L Dl I g' jI s' q ys->compPost (model C.prog C.w) A (λ_ _=>False) use Q (.ref Dl) L (.ok .next) s'):
  Wp C A (comprehension (.ListComp pe [⟨tgt,iter,ifs,0⟩] scope pos) scope env ppos (newList []) false (eval iter env) use) Q s:=by
 have hcells:∀x,(x,NameKind.free)∈scope.names->∃c,env.cells.lookup x=some c:=λx hx=>by
  refine Ac (c.free x hx) λi h1 h2=>?_
  rcases H.vars x i h1 with⟨z,_⟩|⟨_,a,z1,z2⟩
  ·rcases h2 with h2|h2<;>rw[z] at h2<;>cases h2
  ·exact⟨a,z1⟩
 refine Ac (GJ hcells) λcl hclos hcl=>?_
 refine wpAny_comprehension_free (g:=⟨tgt,iter,ifs,0⟩) (gs:=[]) rfl (EY hset) hclos c.kind c.names (h1.r λx jC jE G1 K1 rx=>(WY K1 hh rx e1).mono λit jG S=>?_)
 cases S with|mk I fp P Ae W h0 hpl hfp hP hz RI nI G2 K2=>
 refine wpAny_newObj_type ?_
 refine wpAny_newFunctionEnv (λy hy=>c.cell y hy) (by intro y hy;simp at hy) (λjS hns hsb=>?_) c.kind
 generalize hs3:({jG with heap:=jG.heap.push {cls:=.type "list",data:=.seq ([]:List Value).toArray}}:Shared)=jK at hns hsb ⊢
 refine BH (Oj K2 G2 RI nI hs3 hns hsb (jK.toks+([]:List (Str×Value)).length)) λX RI4 k4=>?_
 have IX:=VY (g:=jE) (H.go G1) c hcl (L:=jK.heap.objs.size) (cenv:={newEnv scope jK.heap.objs.size env.globals cl env.qual none .none (some env) env.builtins with scope:=relabel scope env}) rfl rfl rfl rfl rfl
 have loop:codeAny (model C.prog C.w) A (.compLoop (.ListComp pe [⟨tgt,iter,ifs,0⟩] scope pos) 0 (.ref I) (.ref jG.heap.objs.size) {newEnv scope jK.heap.objs.size env.globals cl env.qual none .none (some env) env.builtins with scope:=relabel scope env})
   (compPost (model C.prog C.w) A (λ_ _=>False) use Q (.ref jG.heap.objs.size) jK.heap.objs.size) {jK with heap:=jS,toks:=jK.toks+([]:List (Str×Value)).length}:=by
  refine U7 (L:=jK.heap.objs.size) (jJ:=jE) (jL:=jC) (jO:=l) (n:=l.length) (t:=t) (tg:=tg) (elt:=elt) (cond:=cond) hh (HC _) rfl ?_ c.ht ?_ c.d1 c.d2 ?_ IX W hpl hfp hP rfl hz c.ne l 0 jE _ jD jI [] q [] e2 rfl (Nat.zero_le _) X
   RI4 ?_ (Nat.zero_le _) (λg' s' ys' X'=>hQ jE jC g' s' ys' _ _ I G1 X')
  ·show(relabel scope env).kind=_
   exact c.kind
  ·exact λp hp=>lookup_relabel_local (c.loc p hp)
  ·exact λx i hx=>(H.go G1).top i (c.idx _ hx).1
  ·exact W.frame _ _ _ h0 λb hb o ho=>k4 _ _ ho
 exact codeAny_compStart_list loop (W.self 0 _ _ _ (W.frame _ _ _ h0 λb hb o ho=>k4 _ _ ho) loop)
theorem Cc.new {jE g':Gh}{jC s':Shared}{jI:St}{L Dl I:Addr}{q:List V}{ys:List Value}(G:Go g s jE jC)(X:Cc C jE jC L Dl I g' jI s' q ys)(hz:q.length<=line){h':Heap}(hs:Heap.SameBut L s'.heap h'):
  DP C g s jI q (.ref Dl) {s' with heap:=h'}:=by
 have e:∀a,a≠L->∀o,s'.heap.get? a=some o->h'.get? a=some o:=λa na o e=>hs.extBut a o na e
 exact⟨g',Dl,ys,rfl,G.trans (X.go.raw_upd X.ok X.rL X.z.nL hs),X.ok.raw_upd X.rL hs rfl rfl,X.rD.ext (s':={s' with heap:=h'}) (e _ (Ne.symm X.z.LD)),X.lst.ext (s':={s' with heap:=h'}) (e _ (Ne.symm X.z.LD)),X.acc,hz,λz=>X.z.nD (G.live _ z)⟩
theorem XE (hh:A.handled=none)(H:Ah env k g.loc){scope:Scope}{pos:Pos}{t:Tgt}{tgt iter pe:Expr}{ifs:List Expr}{tg:List (Str×Nat)}{k':Ck}(c:CompSt k scope t tgt tg k'){elt:E}{cond:Option E}
  (hset:BE iter=false)(HC:∀cenv,CompOk C T D A cenv k' elt cond pe ifs){v:V}{l q:List V}{jD jI:St}
  (h1:Wp C A (eval iter env) (Aa C (Rv C) g s jD v) s)(e1:A4 v=some l)(e2:BW (Bi T D elt t cond) l jD=some (q,jI))(hz:q.length<=line):
  Wp C A (eval (.ListComp pe [⟨tgt,iter,ifs,0⟩] scope pos) env) (DP C g s jI q) s:=by
 rw[arm_eval_ListComp]
 exact ME (ppos:=firstIterPos [⟨tgt,iter,ifs,0⟩] pos) hh H c hset HC h1 e1 e2 λjE jC g' s' ys Dl L I G X=>X.ns.imp λm hm=>⟨hm,λh' hs=>X.new G hz hs⟩
end
end Mine.Internal
end
section
set_option maxRecDepth 10000
namespace Mine.Internal
open PySem PySem.Calls PyProof.Rows PySem.W
section
variable {C:Cx}{A:Around}{T:Tab}{D:Den}{g:Gh}{σ:St}{s:Shared}{env:PySem.Env}{k:Ck}
noncomputable def Rf (C:Cx)(g:Gh):Fl->Flow->Prop
 |.nxt,f=>f=.next
 |.ret v,f=>∃x,f=.ret x/\Rv C g v x
noncomputable def AQ (C:Cx)(g:Gh)(s:Shared)(jI:St)(fl:Fl)(f:Flow)(s':Shared):Prop:=∃g',GoS g s g' s'/\Ok C g' jI s'/\Rf C g' fl f
theorem AQ.of {jE:Gh}{jC s':Shared}{jI:St}{fl:Fl}{f:Flow}(G:GoS g s jE jC)(h:AQ C jE jC jI fl f s'):AQ C g s jI fl f s':=let ⟨g',a,b,c⟩:=h;⟨g',G.trans a,b,c⟩
theorem Ah.goS {g':Gh}{s':Shared}(G:GoS g s g' s')(h:Ah env k g.loc):Ah env k g'.loc:=by rw[G.loc];exact h
theorem IB (H:Ah env k g.loc)(K:Ok C g σ s){y:Str}{i:Nat}{x:Value}{sl:Slot}{M:Model}{E:Value->Shared->Prop}{Q:Unit->Shared->Prop}(hi:lk y k.vars=some i)
  (hsl:∀(l:AN)(s':Shared),g.loc i=some l->l.has s'.heap x->(∀a o,a≠l.at->s.heap.get? a=some o->s'.heap.get? a=some o)->Bs C g s'.heap i l sl)
  (q:∀s',GoS g s g s'->Ok C g ⟨put σ.r i sl,σ.h⟩ s'->(∀l:AN,g.loc i=some l->∀a o,a≠l.at->s.heap.get? a=some o->s'.heap.get? a=some o)->Q () s'):wpAny M A (storeName env y x) Q E s:=by
 have hk:env.scope.kind=.function:=by rw[H.sc];exact H.kind
 rcases H.vars y i hi with⟨h1,h2⟩|⟨h1,c,h2,h3⟩
 ·obtain⟨_,m,hn⟩:=K.locs i _ h2
  have hp:(env.scope.kind==.class||(env.scope.kind==.module&&env.locals !=env.globals))=false:=by rw[hk];rfl
  refine wpAny_storeName_local (by unfold Env.kindOf;rw[H.sc];exact h1) hn (λh' hn' hs'=>?_) hp
  refine AU (K.stored (s':={s with heap:=h',toks:=s.toks+1}) h2 (v:=x) hs' ⟨m,hn,hn'⟩ rfl rfl (sl:=sl) λhh=>hsl _ _ h2 hh λa o na e=>hs'.extBut a o na e) λK' G=>?_
  exact q _ G K' λl hl a o na e=>by rw[h2] at hl;(have z1:=s1 hl;clear hl;subst z1);exact hs'.extBut a o na e
 ·obtain⟨_,v₀,hc⟩:=K.locs i _ h3
  have fin:∀{h':Heap},h'.IsCell c (some x)->Heap.SameBut c s.heap h'->Q () {s with heap:=h'}:=λ{h'} hc' hs'=>by
   refine AU (K.stored (s':={s with heap:=h'}) h3 (v:=x) hs' hc' rfl rfl (sl:=sl) λhh=>hsl _ _ h3 hh λa o na e=>hs'.extBut a o na e) λK' G=>?_
   exact q _ G K' λl hl a o na e=>by rw[h3] at hl;(have z1:=s1 hl;clear hl;subst z1);exact hs'.extBut a o na e
  rcases h1 with h1|h1
  ·exact wpAny_storeName_cell hk (by unfold Env.kindOf;rw[H.sc];exact h1) h2 hc λh' a b=>fin a b
  ·have h1:env.kindOf y=some .free:=by unfold Env.kindOf;rw[H.sc];exact h1
   have e:storeName env y x=(do cellSet (<-cellOf env y) (some x)):=by unfold storeName;rw[h1,hk];rfl
   rw[e]
   exact wpAny_bind (wpAny_cellOf h2 (wpAny_cellSet hc λh' a b=>fin a b))
theorem Ef (H:Ah env k g.loc)(K:Ok C g σ s){y:Str}{i:Nat}{x:Value}{sl:Slot}{M:Model}{E:Value->Shared->Prop}{Q:Unit->Shared->Prop}(hi:lk y k.vars=some i)
  (hsl:∀(l:AN)(s':Shared),g.loc i=some l->l.has s'.heap x->(∀a o,a≠l.at->s.heap.get? a=some o->s'.heap.get? a=some o)->Bs C g s'.heap i l sl)
  (q:∀s',GoS g s g s'->Ok C g ⟨put σ.r i sl,σ.h⟩ s'->Q () s'):wpAny M A (storeName env y x) Q E s:=IB H K hi hsl λs' a b _=>q s' a b
theorem MA (H:Ah env k g.loc)(K:Ok C g σ s){y:Str}{i:Nat}{v:V}{x:Value}{M:Model}{E:Value->Shared->Prop}{Q:Unit->Shared->Prop}(hi:lk y k.vars=some i)(hx:Rv C g v x)
  (q:∀s',GoS g s g s'->Ok C g ⟨put σ.r i (.val v),σ.h⟩ s'->Q () s'):wpAny M A (storeName env y x) Q E s:=
 Ef (sl:=.val v) H K hi (λl s' _ hh _=>⟨x,hh,hx⟩) q
theorem Wg (H:Ah env k g.loc){jJ:Gh}{jL:Shared}{y:Str}{i:Nat}{l:List V}{x:Value}{M:Model}{E:Value->Shared->Prop}{Q:Unit->Shared->Prop}(hi:lk y k.vars=some i)(N:DP C jJ jL σ l x s)
  (h0:g.loc=jJ.loc)(q:∀g' s',GoS jJ jL g' s'->Ok C g' ⟨put σ.r i (.ul l),σ.h⟩ s'->Q () s'):wpAny M A (storeName env y x) Q E s:=by
 obtain⟨g',a,xs,rfl,G,K,R,hf,hx,hz,hn⟩:=N
 have K2:=K.ow (t:=.uq i) R
 have G2:=G.ow (t:=.uq i) hn
 have H2:Ah env k (g'.ow a (.uq i)).loc:=by rw[show(g'.ow a (.uq i)).loc=g'.loc from rfl,G.loc,<-h0];exact H
 refine Ef H2 K2 hi (λlc s' hl hh kp=>?_) λs' Gs K3=>q _ s' (G2.toGoS.trans Gs) K3
 have na:a≠lc.at:=λz=>by
  have o:=K2.locs i lc hl
  have e:(g'.ow a (.uq i)).Ω a=some (.uq i):=if_pos rfl
  cases lc with
  |d L x=>have z:a=L:=z;rw[z] at e;rw[<-z] at o;have:=o.1;rw[z] at this;rw[e] at this;exact nomatch this
  |c L=>have z:a=L:=z;rw[z] at e;rw[<-z] at o;have:=o.1;rw[z] at this;rw[e] at this;exact nomatch this
 exact⟨hz,a,xs,hh,if_pos rfl,hf.ext (s':=s') λo e=>kp a o na e,hx⟩
theorem V9 (H:Ah env k g.loc){jJ:Gh}{jL:Shared}{y:Str}{i:Nat}{l:List (V×V)}{x:Value}{M:Model}{E:Value->Shared->Prop}{Q:Unit->Shared->Prop}(hi:lk y k.vars=some i)(N:Dk C jJ jL σ l x s)
  (h0:g.loc=jJ.loc)(q:∀g' s',GoS jJ jL g' s'->Ok C g' ⟨put σ.r i (.ud l),σ.h⟩ s'->Q () s'):wpAny M A (storeName env y x) Q E s:=by
 obtain⟨g',a,o,rfl,G,K,R,hf,hd,hm,hn⟩:=N
 have K2:=K.ow (t:=.uq i) R
 have G2:=G.ow (t:=.uq i) hn
 have H2:Ah env k (g'.ow a (.uq i)).loc:=by rw[show(g'.ow a (.uq i)).loc=g'.loc from rfl,G.loc,<-h0];exact H
 refine Ef H2 K2 hi (λlc s' hl hh kp=>?_) λs' Gs K3=>q _ s' (G2.toGoS.trans Gs) K3
 have na:a≠lc.at:=λz=>by
  have o:=K2.locs i lc hl
  have e:(g'.ow a (.uq i)).Ω a=some (.uq i):=if_pos rfl
  cases lc with
  |d L x=>have z:a=L:=z;rw[z] at e;rw[<-z] at o;have:=o.1;rw[z] at this;rw[e] at this;exact nomatch this
  |c L=>have z:a=L:=z;rw[z] at e;rw[<-z] at o;have:=o.1;rw[z] at this;rw[e] at this;exact nomatch this
 exact⟨a,o,hh,if_pos rfl,hm,kp a o na hf,hd⟩
theorem Ca {i:Nat}{sl:Slot}{s:St}{p:Fl×St}(h:BL i sl s=some p):p=(.nxt,⟨put s.r i sl,s.h⟩):=by
 unfold BL at h
 refine AJ h λ_ h=>?_
 refine AZ h ?_;rfl
noncomputable def Br:Expr->Bool
 |.ListComp ..=>true
 |.SetComp ..=>true
 |.DictComp ..=>true
 |_=>false
theorem Cb {e:Expr}{t:Option Expr}{n:Nat}(h:Br e=false):swapsWith e t n env=pure false:=by
 cases e<;>first|rfl|exact(tf h).elim
theorem T6 (H:Ah env k g.loc){x:Str}{p pos:Pos}{value:Expr}{i:Nat}{v:V}{jD:St}{fl:Fl×St}(hsw:swapsWith value (some (.Name x p)) pos.line env=pure false)(hi:lk x k.vars=some i)
  (h1:Wp C A (eval value env) (Aa C (Rv C) g s jD v) s)(e:BL i (.val v) jD=some fl):Wp C A (exec (.Assign [.Name x p] value pos) env) (AQ C g s fl.2 fl.1) s:=by
 rw[Ca e]
 refine wpAny_Assign_Name (h1.r λy jC jE G K r=>MA (H.go G) K hi r λs' Gs K'=>⟨jE,G.toGoS.trans Gs,K',rfl⟩) hsw
theorem Rr (H:Ah env k g.loc){x:Str}{p pos:Pos}{value:Expr}{i:Nat}{l:List V}{jD:St}{fl:Fl×St}(hsw:swapsWith value (some (.Name x p)) pos.line env=pure false)(hi:lk x k.vars=some i)
  (h1:Wp C A (eval value env) (DP C g s jD l) s)(e:BL i (.ul l) jD=some fl):Wp C A (exec (.Assign [.Name x p] value pos) env) (AQ C g s fl.2 fl.1) s:=by
 rw[Ca e]
 exact wpAny_Assign_Name (h1.mono λy jC N=>Wg H hi N rfl λg' s' Gs K'=>⟨g',Gs,K',rfl⟩) hsw
theorem Qu (H:Ah env k g.loc){x:Str}{p pos:Pos}{value:Expr}{i:Nat}{l:List (V×V)}{jD:St}{fl:Fl×St}(hsw:swapsWith value (some (.Name x p)) pos.line env=pure false)(hi:lk x k.vars=some i)
  (h1:Wp C A (eval value env) (Dk C g s jD l) s)(e:BL i (.ud l) jD=some fl):Wp C A (exec (.Assign [.Name x p] value pos) env) (AQ C g s fl.2 fl.1) s:=by
 rw[Ca e]
 exact wpAny_Assign_Name (h1.mono λy jC N=>V9 H hi N rfl λg' s' Gs K'=>⟨g',Gs,K',rfl⟩) hsw
theorem a9 (H:Ah env k g.loc){e:Expr}{pos:Pos}{v:V}{jD:St}(hc:Br e=false)(h1:Wp C A (eval e env) (Aa C (Rv C) g s jD v) s):Wp C A (exec (.Expr e pos) env) (AQ C g s jD .nxt) s:=by
 refine wpAny_Expr_any (h1.r λx jC jE G K r=>⟨jE,G.toGoS,K,rfl⟩) ?_ (Cb hc)
 unfold interactive
 rw[H.sc,H.kind];rfl
theorem bW {e:Expr}{pos:Pos}{v:V}{jD:St}(h1:Wp C A (eval e env) (Aa C (Rv C) g s jD v) s):Wp C A (exec (.Return (some e) pos) env) (AQ C g s jD (.ret v)) s:=
 wpAny_Return_some (h1.r λx jC jE G K r=>⟨jE,G.toGoS,K,x,rfl,r⟩)
theorem Zg {t:Expr}{a b:List Stmt}{pos:Pos}{c:Bool}{jD:St}{fl:Fl×St}(h1:GK C A env g t jD c s)
  (h2:∀jE jC,Go g s jE jC->Ok C jE jD jC->Wp C A (execs (if c then a else b) env) (AQ C jE jC fl.2 fl.1) jC):Wp C A (exec (.If t a b pos) env) (AQ C g s fl.2 fl.1) s:=by
 refine wpAny_If (h1.r λc' jC jE G K e=>?_)
 subst e
 have q:=h2 jE jC G K
 cases c'<;>exact q.mono λy jG r=>r.of G.toGoS
theorem L8 (K:Ok C g σ s):Wp C A (execs [] env) (AQ C g s σ .nxt) s:=wpAny_execs_nil ⟨g,.refl g s,K,rfl⟩
theorem V0 {st:Stmt}{rest:List Stmt}{fl fl':Fl×St}(h1:Wp C A (exec st env) (AQ C g s fl.2 fl.1) s)
  (h2:match fl.1 with|.nxt=>∀jE jC,GoS g s jE jC->Ok C jE fl.2 jC->Wp C A (execs rest env) (AQ C jE jC fl'.2 fl'.1) jC|.ret v=>fl'=(.ret v,fl.2)):Wp C A (execs (st::rest) env) (AQ C g s fl'.2 fl'.1) s:=by
 obtain⟨f,jD⟩:=fl
 refine wpAny_execs_cons (h1.mono λfw jC ⟨jE,G,K,r⟩=>?_)
 cases f with
 |nxt=>
  have r:fw=.next:=r
  subst r
  exact(h2 jE jC G K).mono λy jG q=>q.of G
 |ret v=>
  obtain⟨x,rfl,rx⟩:=r
  have h2:fl'=(.ret v,jD):=h2
  subst h2
  exact⟨jE,G,K,x,rfl,rx⟩
end
end Mine.Internal
end
section
set_option maxRecDepth 10000
namespace Mine.Internal
open PySem PySem.Calls PyProof.Rows PySem.W
section
variable {C:Cx}{A:Around}{T:Tab}{D:Den}{g:Gh}{σ:St}{s:Shared}{env:PySem.Env}{k:Ck}
theorem GoS.raw {g g':Gh}{s s':Shared}(G:GoS g s g' s'){a:Addr}(r:AX g s a){o:Obj}(h:s.heap.get? a=some o):AX g' s' a/\s'.heap.get? a=some o:=
 let ⟨x,y,z⟩:=G.keep a o h r.o
 ⟨⟨y.trans r.f,z,G.live a r.lt⟩,x⟩
theorem GoS.raw_upd {g g':Gh}{s s' s'':Shared}(G:GoS g s g' s'){a:Addr}(h:¬As s a)(hb:Heap.SameBut a s'.heap s''.heap):GoS g s g' s'':=
 ⟨G.F,G.φ,G.loc,G.me,λb q=>let ⟨o,e⟩:=G.live b q;⟨o,(hb.2 b λz=>h (z▸q)).trans e⟩,λb o e q=>let ⟨x,y,z⟩:=G.keep b o e q
  ⟨(hb.2 b (λq=>by subst q;exact h ⟨_,e⟩)).trans x,y,z⟩⟩
theorem YL (hh:A.handled=none)(H:Ah env k g.loc){scope:Scope}{cpos p pos:Pos}{x:Str}{i:Nat}{t:Tgt}{tgt iter pe:Expr}{ifs:List Expr}{tg:List (Str×Nat)}{k':Ck}(c:CompSt k scope t tgt tg k'){elt:E}{cond:Option E}
  (hset:BE iter=false)(HC:∀cenv,CompOk C T D A cenv k' elt cond pe ifs){v:V}{l q:List V}{jD jI:St}(own:Bool)
  (hsw:swapsWith (.ListComp pe [⟨tgt,iter,ifs,0⟩] scope cpos) (some (.Name x p)) pos.line env=pure true)(hi:lk x k.vars=some i)
  (h1:Wp C A (eval iter env) (Aa C (Rv C) g s jD v) s)(e1:A4 v=some l)(e2:BW (Bi T D elt t cond) l jD=some (q,jI))(hz:q.length<=line):
  Wp C A (exec (.Assign [.Name x p] (.ListComp pe [⟨tgt,iter,ifs,0⟩] scope cpos) pos) env) (AQ C g s ⟨put jI.r i (if own then .ul q else .val (.lst q)),jI.h⟩ .nxt) s:=by
 rw[exec_Assign_Name_used _ _ _ _ hsw]
 refine wpAny_bind (wpAny_standAt (wpAny_bind ?_))
 show wpAny _ A (comprehension (.ListComp pe [⟨tgt,iter,ifs,0⟩] scope cpos) scope env (firstIterPos [⟨tgt,iter,ifs,0⟩] cpos) (newList []) false (eval iter env) (some (assign (.Name x p) env))>>=λ_=>pure ()) _ _ s
 refine wpAny_bind (wpAny_mono (ME (Q:=λ_ s'=>AQ C g s ⟨put jI.r i (if own then .ul q else .val (.lst q)),jI.h⟩ .nxt .next s') hh H c hset HC h1 e1 e2 λjE jC g' s' ys Dl L I G X=>?_) (λ_ s' q=>wpAny_pure (wpAny_pure q)) λ_ _ x=>x)
 show wpAny _ A (assign (.Name x p) env (.ref Dl)) _ _ s'
 have fin:∀(g2:Gh)(sl:Slot),Go jE jC g2 s'->Ok C g2 jI s'->g2.loc=g.loc->(g2.F L=none)->(g2.Ω L=none)->(∀(l:AN)(s'':Shared),g2.loc i=some l->l.has s''.heap (.ref Dl)->(∀a o,a≠l.at->s'.heap.get? a=some o->s''.heap.get? a=some o)->Bs C g2 s''.heap i l sl)->
   wpAny (model C.prog C.w) A (assign (.Name x p) env (.ref Dl)) (λ_ s''=>∃m,s''.heap.Ns L m/\∀h',Heap.SameBut L s''.heap h'->AQ C g s ⟨put jI.r i sl,jI.h⟩ .nxt .next {s'' with heap:=h'}) (λ_ _=>False) s':=λg2 sl G2 K2 hloc hF hΩ hsl=>by
  have H2:Ah env k g2.loc:=by rw[hloc];exact H
  refine wpAny_assign_Name (Ef H2 K2 hi hsl λs'' Gs K3=>?_)
  refine Xn X.ns λm o es ep e r=>?_
  have RL:AX g2 s' L:=⟨hF,hΩ,o,e⟩
  obtain⟨R3,e3⟩:=Gs.raw RL e
  refine⟨m,⟨o,es,ep,e3,r⟩,λh' hs=>⟨g2,G.toGoS.trans ((G2.toGoS.trans Gs).raw_upd X.z.nL hs),K3.raw_upd R3 hs rfl rfl,rfl⟩⟩
 have hloc:g'.loc=g.loc:=X.go.loc.trans G.loc
 cases own with
 |false=>
  refine Ac X.lst λo e h3=>?_
  refine AU (X.ok.chill X.rD e) λK2 e2=>?_
  refine fin (g'.frz Dl o) (.val (.lst q)) (X.go.chill X.rD X.z.nD) K2 hloc ?_ X.rL.o λl s'' hl hh _=>⟨_,hh,?_⟩
  ·show(if L=Dl then some o else g'.F L)=none
   rw[if_neg X.z.LD];exact X.rL.f
  ·skip
   exact⟨hz,Dl,ys,rfl,⟨o,e2,h3⟩,X.acc.mono (.frz (.inl X.rD.f)) (.refl _)⟩
 |true=>
  have K2:=X.ok.ow (t:=.uq i) X.rD
  refine fin (g'.ow Dl (.uq i)) (.ul q) (X.go.ow X.z.nD) K2 hloc X.rL.f ?_ λlc s'' hl hh kp=>?_
  ·show(if L=Dl then some (Tag.uq i) else g'.Ω L)=none
   rw[if_neg X.z.LD];exact X.rL.o
  ·have na:Dl≠lc.at:=λz=>by
    have o:=K2.locs i lc hl
    have e:(g'.ow Dl (.uq i)).Ω Dl=some (.uq i):=if_pos rfl
    cases lc with
    |d L' x=>have z:Dl=L':=z;rw[<-z] at o;have:=o.1;rw[e] at this;cases this
    |c L'=>have z:Dl=L':=z;rw[<-z] at o;have:=o.1;rw[e] at this;cases this
   exact⟨hz,Dl,ys,hh,if_pos rfl,X.lst.ext (s':=s'') λo e=>kp Dl o na e,X.acc⟩
end
end Mine.Internal
end
section
set_option maxRecDepth 10000
namespace Mine.Internal
open PySem PySem.Calls PyProof.Rows PySem.W
section
variable {C:Cx}{A:Around}{T:Tab}{D:Den}{g:Gh}{σ:St}{s:Shared}{env:PySem.Env}{k:Ck}
inductive Fa2 {α β:Type}(R:α->β->Prop):List α->List β->Prop where
 |nil:Fa2 R [] []
 |cons {a:α}{b:β}{x:List α}{y:List β}(h:R a b)(t:Fa2 R x y):Fa2 R (a::x) (b::y)
noncomputable def DE (C:Cx)(g:Gh)(h:Heap)(i:Nat):Slot->Value->Prop
 |.val v,x=>Rv C g v x
 |.ul l,x=>l.length<=line/\∃a xs,x=.ref a/\g.Ω a=some (.uq i)/\A6 "list" h.get? a xs/\Ak C g.F g.φ l xs
 |.ud l,x=>∃a o,x=.ref a/\g.Ω a=some (.uq i)/\(a==sysModules)=false/\h.get? a=some o/\Cu C g o l
 |_,_=>False
theorem DE.slot {h h':Heap}{i:Nat}{sl:Slot}{x:Value}{l:AN}(R:DE C g h i sl x)(hh:l.has h' x)(hat:∀a,g.Ω a=some (.uq i)->∀o,h.get? a=some o->h'.get? a=some o):Bs C g h' i l sl:=by
 cases sl with
 |val v=>exact⟨x,hh,R⟩
 |ul vs=>
  obtain⟨hz,a,xs,rfl,h1,⟨o,e,h2⟩,h3⟩:=R
  exact⟨hz,a,xs,hh,h1,⟨o,hat a h1 o e,h2⟩,h3⟩
 |ud vs=>
  obtain⟨a,o,rfl,h1,hm,e,h3⟩:=R
  exact⟨a,o,hh,h1,hm,hat a h1 o e,h3⟩
 |un=>exact R.elim
 |uo c fs=>exact R.elim
theorem DE.keep {h h':Heap}{i:Nat}{sl:Slot}{x:Value}(R:DE C g h i sl x)(hat:∀a,g.Ω a=some (.uq i)->∀o,h.get? a=some o->h'.get? a=some o):DE C g h' i sl x:=by
 cases sl with
 |val v=>exact R
 |ul vs=>
  obtain⟨hz,a,xs,rfl,h1,⟨o,e,h2⟩,h3⟩:=R
  exact⟨hz,a,xs,rfl,h1,⟨o,hat a h1 o e,h2⟩,h3⟩
 |ud vs=>
  obtain⟨a,o,rfl,h1,hm,e,h3⟩:=R
  exact⟨a,o,rfl,h1,hm,hat a h1 o e,h3⟩
 |un=>exact R.elim
 |uo c fs=>exact R.elim
theorem Wo (K:Ok C g σ s){i j:Nat}{l:AN}(hl:g.loc j=some l){a:Addr}(h:g.Ω a=some (.uq i)):a≠l.at:=λz=>by
 have o:=K.locs j l hl
 cases l with
 |d L x=>have z:a=L:=z;rw[<-z] at o;have:=o.1;rw[h] at this;cases this
 |c L=>have z:a=L:=z;rw[<-z] at o;have:=o.1;rw[h] at this;cases this
inductive A_ (C:Cx)(g:Gh)(h:Heap)(k:Ck)(env:PySem.Env)(M:Model)(A:Around)(E:Value->Shared->Prop):List Nat->List Slot->List Value->List (Value->Sem Unit)->Prop where
 |nil:A_ C g h k env M A E [] [] [] []
 |cons {i:Nat}{sl:Slot}{x:Value}{f:Value->Sem Unit} {is sls xs fs}(y:Str)(hy:lk y k.vars=some i)(hf:∀(s:Shared)(Q:Unit->Shared->Prop),wpAny M A (storeName env y x) Q E s->wpAny M A (f x) Q E s)(r:DE C g h i sl x)
   (t:A_ C g h k env M A E is sls xs fs):A_ C g h k env M A E (i::is) (sl::sls) (x::xs) (f::fs)
theorem A_.keep {h h':Heap}{M:Model}{E:Value->Shared->Prop} {is sls xs fs}(R:A_ C g h k env M A E is sls xs fs)(hat:∀i a,g.Ω a=some (.uq i)->∀o,h.get? a=some o->h'.get? a=some o):A_ C g h' k env M A E is sls xs fs:=by
 induction R with
 |nil=>exact .nil
 |cons y hy hf r t ih=>exact .cons y hy hf (r.keep (hat _)) ih
theorem Du (H:Ah env k g.loc){M:Model}{E:Value->Shared->Prop} {is sls xs fs}:∀{r r':Bf}{hp:Hp}{s:Shared}{Q:Unit->Shared->Prop},A_ C g s.heap k env M A E is sls xs fs->Di is sls r=some r'->Ok C g ⟨r,hp⟩ s->
  (∀s',GoS g s g s'->Ok C g ⟨r',hp⟩ s'->Q () s')->wpAny M A (assignInOrder fs xs) Q E s:=by
 induction is generalizing sls xs fs with
 |nil=>
  intro r r' hp s Q R hz K q
  cases R
  exact wpAny_pure (q s (.refl g s) (s1 (show some r=some r' from hz)▸K))
 |cons i is ih=>
  intro r r' hp s Q R hz K q
  cases R with
  |cons y hy hf rd t=>
   rename_i sl x f sls xs fs
   refine AJ (show(match Nat.blt i r.length with|true=>Di is sls (put r i sl)|false=>none)=some r' from hz) λ_ hz=>?_
   show wpAny M A (holding xs (f x)>>=λ_=>assignInOrder fs xs) Q E s
   refine wpAny_bind (wpAny_holding (hf _ _ (IB H K hy (sl:=sl) (λl s' hl hh kp=>rd.slot hh λa ha o e=>kp a o (Wo K hl ha) e) λs' G K' kp=>?_)))
   refine AA (H.at hy) λlc hl=>?_
   refine ih (t.keep λj a ha o e=>?_) hz K' λs'' G' K''=>q s'' (G.trans G') K''
   exact kp lc hl a o (Wo K hl ha) e
theorem Fi {h:Heap}{M:Model}{E:Value->Shared->Prop}{es:List Expr}{is:List Nat}{tg:List (Str×Nat)}:Bc es is=some tg->∀{sls:List Slot}{xs:List Value},(∀p∈tg,lk p.1 k.vars=some p.2)->
  Fa2 (λ(p:Nat×Slot) x=>DE C g h p.1 p.2 x) (is.zip sls) xs->is.length=sls.length->
  A_ C g h k env M A E is sls xs ((assignEach es env).map (·.2))/\A_ C g h k env M A E is sls xs (tg.map λp=>bindName env p.1):=by
 refine CS (M:=λes is tg=>∀{sls:List Slot}{xs:List Value},(∀p∈tg,lk p.1 k.vars=some p.2)->
  Fa2 (λ(p:Nat×Slot) x=>DE C g h p.1 p.2 x) (is.zip sls) xs->is.length=sls.length->
  A_ C g h k env M A E is sls xs ((assignEach es env).map (·.2))/\A_ C g h k env M A E is sls xs (tg.map λp=>bindName env p.1)) ?_ ?_
 ·intro sls xs _ hx hl
  cases sls with
  |nil=>cases hx;exact⟨.nil,.nil⟩
  |cons=>exact(nomatch hl)
 ·intro x p i es is tg ih sls xs hk hx hl
  cases sls with
  |nil=>exact(nomatch hl)
  |cons sl sls=>
   cases hx with
   |cons hy hys=>
    have q:=ih (λp hp=>hk p (List.mem_cons_of_mem _ hp)) hys (Nat.succ.inj hl)
    exact⟨.cons x (hk _ List.mem_cons_self) (λs Q h=>wpAny_assign_Name h) hy q.1,.cons x (hk _ List.mem_cons_self) (λs Q h=>wpAny_bindName h) hy q.2⟩
theorem C4 {h:Heap}:∀{is:List Nat}{vs:List V}{xs:List Value},is.length=vs.length->Ak C g.F g.φ vs xs->Fa2 (λ(p:Nat×Slot) x=>DE C g h p.1 p.2 x) (is.zip (vs.map Slot.val)) xs
 |[],[],xs,_,hx=>by refine C9 hx ?_;exact .nil
 |i::is,v::vs,xs,h,hx=>by
  refine BR hx λy ys h1 h2=>?_
  exact .cons h1 (C4 (Nat.succ.inj h) h2)
theorem Kh {h:Heap}{M:Model}{E:Value->Shared->Prop}{es:List Expr}{is:List Nat}{tg:List (Str×Nat)}{vs:List V}{xs:List Value}(hz:Bc es is=some tg)(hk:∀p∈tg,lk p.1 k.vars=some p.2)(hx:Ak C g.F g.φ vs xs)(hl:is.length=vs.length):
  A_ C g h k env M A E is (vs.map Slot.val) xs ((assignEach es env).map (·.2)):=(Fi hz hk (C4 hl hx) (hl.trans (List.length_map ..).symm)).1
noncomputable def KA:Expr->Bool
 |.Tuple ..=>true
 |_=>false
theorem SO {ts:List Expr}{kk:Nat}{p:Pos}{value:Expr}(h:KA value=false):swappedStores [.Tuple ts kk p] value env=pure none:=by
 cases value<;>first|rfl|exact(tf h).elim
theorem Iy {ts:List Expr}{kk n:Nat}{p:Pos}{e:Expr}:swapsWith e (some (.Tuple ts kk p)) n env=pure false:=by cases e<;>rfl
theorem aR (hh:A.handled=none)(H:Ah env k g.loc){es:List Expr}{kk:Nat}{p pos:Pos}{value:Expr}{ts:List Nat}{tg:List (Str×Nat)}{v:V}{vs:List V}{r:Bf}{jD:St}(hv:KA value=false)(ht:Bc es ts=some tg)
  (hk:∀p∈tg,lk p.1 k.vars=some p.2)(h1:Wp C A (eval value env) (Aa C (Rv C) g s jD v) s)(e1:DR v=some vs)(e2:Gn ts vs jD.r=some r):
  Wp C A (exec (.Assign [.Tuple es kk p] value pos) env) (AQ C g s ⟨r,jD.h⟩ .nxt) s:=by
 refine wpAny_Assign_stores (h1.r λx jC jE G K rx=>?_) (Iy (ts:=es) (kk:=kk) (p:=p) (n:=pos.line) (env:=env)) (SO hv)
 show wpAny _ A (assign (.Tuple es kk p) env x) _ _ jC
 rw[arm_assign_Tuple]
 refine AU (DF ht) λz1 z2=>?_
 have hlen:=Fg e2
 refine wpAny_bind (wpAny_standAt (Fj (hh:=hh) (M:=()) K rx e1 ?_ (BY ht).2 λh' xs hle hl=>?_))
 ·rw[(BY ht).1,<-z2,<-hlen,<-z1,List.length_map]
 ·have K2:Ok C jE jD {jC with heap:=h'}:=K.grow hle rfl rfl
  exact Du (r:=jD.r) (hp:=jD.h) (H.go G) (Kh ht hk hl hlen) (e2) K2 λs' G' K'=>⟨jE,(G.trans (.grow jE hle)).toGoS.trans G',K',rfl⟩
noncomputable def FP (sc:Scope):PySem.Env:={scope:=sc,locals:=0,globals:=0,cells:=[]}
noncomputable def KS (sc:Scope)(ts:List Expr)(v:Expr):Option (Option (List Str)):=pureOf (swappedStores ts v (FP sc))
theorem Nr {env env':PySem.Env}(h:env.scope=env'.scope)(ts:List Expr)(v:Expr):swappedStores ts v env=swappedStores ts v env':=by
 unfold swappedStores Env.kindOf Env.blockKind
 rw[h]
theorem PX {env env':PySem.Env}(h:env.scope=env'.scope)(v:Expr)(t:Option Expr)(n:Nat):swapsWith v t n env=swapsWith v t n env':=by
 unfold swapsWith Env.kindOf Env.blockKind
 rw[h]
theorem Qh (H:Ah env k g.loc){ts:List Expr}{v:Expr}{r:Option (List Str)}(h:KS k.sc ts v=some r):swappedStores ts v env=pure r:=by
 rw[Nr (env':=FP k.sc) H.sc];exact of_pureOf h
theorem PY {M:Model}{E:Value->Shared->Prop}{x:Value}{ns:List Str}{fs:List (Value->Sem Unit)}{Q:Flow->Shared->Prop}
  (h:wpAny M A (unpackItems x ns.length none>>=λitems=>assignInOrder (ns.reverse.map λn=>bindName env n) items.reverse>>=λ_=>pure .next) Q E s):wpAny M A (assignStores env x (some ns) fs) Q E s:=
 wpAny_bind (wpAny_rule h)
inductive D2 (C:Cx)(jJ:Gh)(jL:Shared)(g:Gh)(s:Shared):List Slot->List Value->Prop where
 |vals {vs:List V}{xs:List Value}(h:Ak C g.F g.φ vs xs):D2 C jJ jL g s (vs.map Slot.val) xs
 |ul {vs:List V}{xs:List Value}{a:Addr}(h:Ak C g.F g.φ vs xs)(R:AX g s a)(f:A6 "list" s.heap.get? a [])(n:¬As jL a):D2 C jJ jL g s (.ul []::vs.map Slot.val) (.ref a::xs)
 |ud {vs:List V}{xs:List Value}{a:Addr}{o:Obj}(h:Ak C g.F g.φ vs xs)(R:AX g s a)(f:s.heap.get? a=some o)(d:Cu C g o [])(m:(a==sysModules)=false)(n:¬As jL a):D2 C jJ jL g s (.ud []::vs.map Slot.val) (.ref a::xs)
theorem A_.rev {h:Heap}{M:Model}{E:Value->Shared->Prop} {is sls xs fs}(R:A_ C g h k env M A E is sls xs fs):∀{is' sls' xs' fs'},A_ C g h k env M A E is' sls' xs' fs'->A_ C g h k env M A E (is.reverse++is') (sls.reverse++sls') (xs.reverse++xs') (fs.reverse++fs'):=by
 induction R with
 |nil=>intro is' sls' xs' fs' R';exact R'
 |cons y hy hf r t ih=>
  intro is' sls' xs' fs' R'
  have:=ih (.cons y hy hf r R')
  simpa using this
theorem D2.own {jJ:Gh}{jL:Shared}{sls:List Slot}{xs:List Value}{is:List Nat}(Gv:D2 C jJ jL g s sls xs)(G:Go jJ jL g s)(K:Ok C g σ s)(hl:is.length=sls.length):
  ∃g',Go jJ jL g' s/\Ok C g' σ s/\g'.loc=g.loc/\Fa2 (λ(p:Nat×Slot) x=>DE C g' s.heap p.1 p.2 x) (is.zip sls) xs:=by
 cases Gv with
 |vals h=>exact⟨g,G,K,rfl,C4 (by simpa using hl) h⟩
 |ul h R f n=>
  cases is with
  |nil=>cases hl
  |cons i is=>
   rename_i vs xs a
   refine⟨g.ow a (.uq i),G.ow n,K.ow R,rfl,.cons ?_ (C4 (by simpa using hl) (Ak.mono (F:=g.F) (φ:=g.φ) (.refl _) (.refl _) h))⟩
   exact⟨by simp,a,[],rfl,if_pos rfl,f,by rfl⟩
 |ud h R f d m n=>
  cases is with
  |nil=>cases hl
  |cons i is=>
   rename_i vs xs a o
   refine⟨g.ow a (.uq i),G.ow n,K.ow R,rfl,.cons ?_ (C4 (by simpa using hl) (Ak.mono (F:=g.F) (φ:=g.φ) (.refl _) (.refl _) h))⟩
   exact⟨a,o,rfl,if_pos rfl,m,f,d⟩
theorem D2.grow {jJ:Gh}{jL s':Shared}{sls:List Slot}{xs:List Value}(Gv:D2 C jJ jL g s sls xs)(hle:BA s.heap s'.heap):D2 C jJ jL g s' sls xs:=by
 cases Gv with
 |vals h=>exact .vals h
 |ul h R f n=>exact .ul h (R.ext (hle _)) (f.ext (hle _)) n
 |ud h R f d m n=>exact .ud h (R.ext (hle _)) (hle _ _ f) d m n
theorem a_ (hh:A.handled=none)(H:Ah env k g.loc){es vs:List Expr}{kk kk':Nat}{p p' pos:Pos}{ts:List Nat}{tg:List (Str×Nat)}{rv:Bool}{sls:List Slot}{r:Bf}{jD:St}(ht:Bc es ts=some tg)
  (hk:∀p∈tg,lk p.1 k.vars=some p.2)(hsw:KS k.sc [.Tuple es kk p] (.Tuple vs kk' p')=some (if rv then some (tg.map (·.1)) else none))(hz:sls.length<=line)
  (h1:Wp C A (spliced (backTo p' (starEach vs env))) (λxs s'=>∃g',Go g s g' s'/\Ok C g' jD s'/\D2 C g s g' s' sls xs/\xs.length=sls.length) s)
  (e:(match rv with|true=>Di ts.reverse sls.reverse jD.r|false=>Di ts sls jD.r)=some r):
  Wp C A (exec (.Assign [.Tuple es kk p] (.Tuple vs kk' p') pos) env) (AQ C g s ⟨r,jD.h⟩ .nxt) s:=by
 rw[exec_Assign_arm]
 refine wpAny_bind (wpAny_standAt ?_)
 show wpAny _ A (swapsWith (.Tuple vs kk' p') (some (.Tuple es kk p)) pos.line env>>=_) _ _ s
 rw[Iy]
 refine wpAny_bind (wpAny_pure ?_)
 rw[if_neg (by decide)]
 refine wpAny_bind (wpAny_Tuple (h1.mono λxs jC ⟨jE,G,K,Gv,hxl⟩=>⟨by rw[AB,hxl];exact hz,?_⟩))
 rw[Qh H hsw]
 refine wpAny_bind (wpAny_pure ?_)
 refine AU (DF ht) λz1 z2=>?_
 have hle:BA jC.heap (jC.heap.push {cls:=.type "tuple",data:=.seq xs.toArray}):=BA.push _ _
 have hT:({jC with heap:=jC.heap.push {cls:=.type "tuple",data:=.seq xs.toArray}}:Shared).heap.IsTuple jC.heap.objs.size xs.toArray:=⟨_,Heap.get?_push_size _ rfl,rfl,_,rfl⟩
 have hext:∀{h h':Heap},Heap.ExtBut h.objs.size h h'->BA h h':=λhe a o e=>he a o (Nat.ne_of_lt (Heap.lt_size e)) e
 have hlen:ts.length=sls.length:=by
  cases rv with
  |false=>exact DZ e
  |true=>have:=DZ e;simpa using this
 have htl:tg.length=ts.length:=by rw[<-z1,List.length_map]
 have fin:∀(h':Heap),BA jC.heap h'->∃g',Go g s g' {jC with heap:=h'}/\Ok C g' jD {jC with heap:=h'}/\g'.loc=g.loc/\
   Fa2 (λ(p:Nat×Slot) x=>DE C g' h' p.1 p.2 x) (ts.zip sls) xs:=λh' hh'=>by
  have Gv':=Gv.grow (s':={jC with heap:=h'}) hh'
  refine Q2 (Gv'.own (is:=ts) (G.trans (.grow jE hh')) (K.grow (s':={jC with heap:=h'}) hh' rfl rfl) hlen) λg' a b c d=>?_
  exact⟨g',a,b,c.trans G.loc,d⟩
 cases rv with
 |false=>
  show wpAny _ A (assignStores env (.ref jC.heap.objs.size) none ((assignEach [.Tuple es kk p] env).map (·.2))) _ _ _
  skip
  refine wpAny_bind ?_
  show wpAny _ A (assign (.Tuple es kk p) env (.ref jC.heap.objs.size)) _ _ _
  rw[arm_assign_Tuple]
  refine wpAny_bind (wpAny_standAt (wpAny_unpack_tuple hh hT ?_ (BY ht).2 λh' he=>?_))
  ·rw[(BY ht).1,<-z2,htl,hlen,List.size_toArray,hxl]
  ·refine Q2 (fin h' (hle.trans (hext he))) λg' a b c d=>?_
   exact Du (r:=jD.r) (hp:=jD.h) (by rw[c];exact H) (Fi ht hk d hlen).1 e b λs' G' K'=>wpAny_pure ⟨g',a.toGoS.trans G',K',rfl⟩
 |true=>
  refine PY (wpAny_bind ?_)
  have hsz:(tg.map (·.1)).length=xs.toArray.size:=by rw[List.length_map,htl,hlen,List.size_toArray,hxl]
  rw[hsz]
  refine wpAny_unpackItems_tuple hh hT λh' he=>wpAny_bind ?_
  refine Q2 (fin h' (hle.trans (hext he))) λg' a b c d=>?_
  have R0:A_ C g' h' k env (model C.prog C.w) A (λ_ _=>False) ts sls xs (tg.map λp=>bindName env p.1):=(Fi ht hk d hlen).2
  have R:=R0.rev .nil
  simp only[List.append_nil] at R
  have:((tg.map (·.1)).reverse.map λn=>bindName env n)=(tg.map λp=>bindName env p.1).reverse:=by rw[List.map_reverse,List.map_map];rfl
  rw[this]
  exact Du (r:=jD.r) (hp:=jD.h) (by rw[c];exact H) R e b λs' G' K'=>wpAny_pure ⟨g',a.toGoS.trans G',K',rfl⟩
end
end Mine.Internal
end
section
set_option maxRecDepth 10000
namespace Mine.Internal
open PySem PySem.Calls PyProof.Rows PySem.W
theorem GY {prog:Program}{w:World}{A:Around}{E:Value->Shared->Prop}{s:Shared}{l:Addr}{xs:List Value}{i:Int}{j:Nat}{t:Tok}{v:Value}{Q:Unit->Shared->Prop}(hl:A6 "list" s.heap.get? l xs)(hz:xs.length<=line)
  (hp:place i xs.length=some j)(hQ:∀h',A6 "list" h'.get? l (xs.set j v)->Heap.SameBut l s.heap h'->Q () {s with heap:=h'}):
  wpAny (model prog w) A (setItem (.ref l) (.int i t) v) Q E s:=by
 obtain⟨o,ho,hc,hdi,ne,hd⟩:=hl
 have hT:s.TypeIs (.ref l) "list":=⟨o,ho,hc⟩
 refine BH (GA hp) λh1 h2 h3=>?_
 have hfit:Builtin.List.listFitsIndex i=true:=by
  simp only[line] at hz
  simp only[Builtin.List.listFitsIndex,Bool.and_eq_true,decide_eq_true_eq]
  rcases h3 with⟨h3,rfl⟩|⟨h3,h4,rfl⟩<;>lia
 unfold setItem
 try with_reducible refine wpAny_holding ?_
 first|refine wpAny_bind (wpAny_pure ?_)|skip
 refine wpAny_bind (wpAny_sequenceKey hT (by decide) ?_)
 refine wpAny_bind (wpAny_callSpecial?_slot (name:=Str.ofString "__setitem__") hT slot_list_setitem
  (wpAny_call_entry slot_list_setitem hT entry_list_setitem ?_ (args_list_setitem _ _ _)))
 show wpAny _ _ (Builtin.List.listSubscript? (.int i t)>>=_) _ _ s
 refine wpAny_bind (wpAny_listSubscript_int hfit ?_)
 have hx':xs.toArray[j]?=some xs[j]:=by simp[h1]
 have fin:∀A',wpAny (model prog w) A' (setSeqItemAt l j v) (λ_ s'=>Q () s') E s:=λA'=>by
  refine AA (Obj.data_mapSeq hd (·.setIfInBounds j v)) λn' hd'=>?_
  refine wpAny_setSeqItemAt ho hd (hQ _ ⟨_,Heap.get?_update_self _ ho (Obj.isFreed_of_seq hd'),(Obj.cls_mapSeq ..).trans hc,?_,n',?_⟩ (Heap.SameBut.update ..))
  ·obtain⟨c,d,dt,sl⟩:=o
   subst hd
   exact hdi
  ·rw[hd'];simp
 clear hfit
 cases i with
 |ofNat n=>
  have:n=j:=by
   rcases h3 with⟨_,h⟩|⟨h,_⟩
   ·exact h.symm
   ·exact absurd h (Int.not_lt.mpr (Int.ofNat_nonneg n))
  subst this
  show wpAny _ _ ((seqItemAt l n>>=λr=>pure (r.map (n,·)))>>=_) _ _ s
  refine wpAny_bind (wpAny_bind (wpAny_seqItemAt ho hd (wpAny_pure ?_)))
  rw[hx']
  show wpAny _ _ (setSeqItemAt l n v>>=_) _ _ s
  refine wpAny_bind (wpAny_mono (fin _) (λ_ s' q=>?_) λ_ _ x=>x)
  first
  |exact wpAny_bind (wpAny_pure (wpAny_pure ⟨.none,rfl,wpAny_pure q⟩))
  |exact wpAny_pure ⟨.none,rfl,wpAny_pure q⟩
 |negSucc n=>
  have h4:Int.negSucc n<0:=by omega
  have h5: -(xs.length:Int)<=Int.negSucc n:=by rcases h3 with⟨h,_⟩|⟨_,h,_⟩<;>omega
  have hidx:seqIndex? (Int.negSucc n) xs.toArray.size=some j:=by
   rw[seqIndex_neg h4 (by exact h5)]
   congr 1
   rcases h3 with⟨h,_⟩|⟨_,_,h⟩<;>simp<;>omega
  show wpAny _ _ ((Builtin.List.listItems (.ref l)>>=λxs=>pure ((seqIndex? (Int.negSucc n) xs.size).bind λi=>xs[i]?.map (i,·)))>>=_) _ _ s
  refine wpAny_bind (wpAny_bind ?_)
  show wpAny _ _ (seqItems? (.ref l)>>=_) _ _ s
  refine wpAny_bind (wpAny_seqItems ho hd (wpAny_pure (wpAny_pure ?_)))
  rw[hidx]
  simp only[Option.bind_some,hx',Option.map_some]
  refine wpAny_bind (wpAny_mono (fin _) (λ_ s' q=>?_) λ_ _ x=>x)
  first
  |exact wpAny_bind (wpAny_pure (wpAny_pure ⟨.none,rfl,wpAny_pure q⟩))
  |exact wpAny_pure ⟨.none,rfl,wpAny_pure q⟩
section
variable {C:Cx}{A:Around}{T:Tab}{D:Den}{g:Gh}{σ:St}{s:Shared}{env:PySem.Env}{k:Ck}
theorem Ok.mine (K:Ok C g σ s){i:Nat}{l:AN}{a:Addr}{t:Tag}{s':Shared}{sl:Slot}(hl:g.loc i=some l)(ha:g.Ω a=some t)(ht:t=.uq i\/t=.uqd i)(hb:Heap.SameBut a s.heap s'.heap)(hlv:As s' a)
  (hg:s'.gens=s.gens)(ho:s'.os=s.os)(hs:(∀v,l.has s.heap v->l.has s'.heap v)->Bs C g s'.heap i l sl):Ok C g ⟨put σ.r i sl,σ.h⟩ s'/\GoS g s g s':=by
 have t1:t≠.dic:=by rcases ht with rfl|rfl<;>exact λh=>by cases h
 have t2:t≠.cel:=by rcases ht with rfl|rfl<;>exact λh=>by cases h
 refine K.upd hb hlv ha (λn c e=>.inl ⟨e,?_,?_⟩) (λj sl' l' e el=>?_) (λj l' e=>(K.locKeep hb ha t1 t2 e).2) rfl hg ho
 ·rcases ht with rfl|rfl<;>exact λh=>by cases h
 ·rcases ht with rfl|rfl<;>exact λh=>by cases h
 ·rcases FC e with⟨rfl,rfl⟩|⟨q,e⟩
  ·cases hl.symm.trans el
   exact .inr (hs (K.locKeep hb ha t1 t2 hl).1)
  ·refine .inl ⟨e,?_,?_,(K.locKeep hb ha t1 t2 el).1⟩<;>rcases ht with rfl|rfl<;>exact λh=>by cases h<;>exact q rfl
theorem Ok.ownH (K:Ok C g σ s){n:Nat}{a:Addr}{t:Tag}{s':Shared}{c:Cell}(ha:g.Ω a=some t)(ht:t=.ho n\/t=.hd n)(hb:Heap.SameBut a s.heap s'.heap)(hlv:As s' a)
  (hg:s'.gens=s.gens)(ho:s'.os=s.os)(hs:BX C g s'.heap n c):Ok C g ⟨σ.r,put σ.h n c⟩ s'/\GoS g s g s':=by
 have t1:t≠.dic:=by rcases ht with rfl|rfl<;>exact λh=>by cases h
 have t2:t≠.cel:=by rcases ht with rfl|rfl<;>exact λh=>by cases h
 refine K.upd hb hlv ha (λm c' e=>?_) (λj sl' l' e el=>.inl ⟨e,?_,?_,(K.locKeep hb ha t1 t2 el).1⟩) (λj l' e=>(K.locKeep hb ha t1 t2 e).2) En hg ho
 ·rcases FC e with⟨rfl,rfl⟩|⟨q,e⟩
  ·exact .inr hs
  ·refine .inl ⟨e,?_,?_⟩<;>rcases ht with rfl|rfl<;>exact λh=>by cases h<;>exact q rfl
 ·rcases ht with rfl|rfl<;>exact λh=>by cases h
 ·rcases ht with rfl|rfl<;>exact λh=>by cases h
theorem Ak.put {F:Fz}{φ:List Addr}{v:V}{x:Value}(hv:Rp C F φ v x):∀{l:List V}{xs:List Value}{n:Nat},Ak C F φ l xs->Ak C F φ (Mine.Internal.put l n v) (xs.set n x)
 |[],_,_,h=>by have h:_=_:=h;subst h;rfl
 |u::l,_,n,h=>by
  obtain⟨y,r,rfl,h1,h2⟩:=h
  cases n with
  |zero=>skip;exact⟨_,_,rfl,hv,h2⟩
  |succ n=>skip;exact⟨_,_,rfl,h1,Ak.put hv h2⟩
theorem cS (H:Ah env k g.loc){y:Str}{np pp pos:Pos}{value ix:Expr}{i j kk:Nat}{z:Int}{v:V}{l:List V}{jD jF:St}{fl:Fl×St}(hc:Br value=false)(hd:Az y=true)(hi:lk y k.vars=some i)
  (e0:∃jO,nth jD.r i=some (.ul jO))
  (h1:Wp C A (eval value env) (Aa C (Rv C) g s jD v) s)(h2:∀jE jC,Go g s jE jC->Ok C jE jD jC->Wp C A (eval ix env) (Aa C (Rv C) jE jC jF (.int z)) jC)
  (e:nth jF.r i=some (.ul l))(e1:place z l.length=some kk)(e2:BL i (.ul (put l kk v)) jF=some fl):
  Wp C A (exec (.Assign [.Subscript (.Name y np) ix pp] value pos) env) (AQ C g s fl.2 fl.1) s:=by
 refine AA (H.at hi) λlc hl=>?_
 refine AA e0 λjO e0=>?_
 refine wpAny_Assign_Subscript (h1.r λx jC jE G K r=>?_) (Cb hc)
 have hl1:jE.loc i=some lc:=by rw[G.loc];exact hl
 obtain⟨_,a,_,q5_⟩:=K.slots i _ lc e0 hl1
 refine AN.name (H.go G) hi hd (λl' e'=>by cases hl1.symm.trans e';exact q5_.1) ((h2 jE jC G K).r λixv jG jH G2 K2 r2=>?_)
 have hl2:jH.loc i=some lc:=by rw[G2.loc];exact hl1
 obtain⟨hz,a',xs,q57_⟩:=K2.slots i _ lc e hl2
 have:a=a':=Value.ref.inj (lc.has_det (G2.kl i lc _ hl1 q5_.1) q57_.1)
 subst this
 refine AK r2 λt=>?_
 refine GY q57_.2.2.1 (by rw[q57_.2.2.2.length];exact hz) (by rw[q57_.2.2.2.length];exact e1) λh' f hb=>?_
 rw[Ca e2]
 have q86_:=K2.mine (s':={jG with heap:=h'}) (sl:=.ul (put l kk v)) hl2 q57_.2.1 (.inl rfl) hb (f.elim λo h=>⟨o,h.1⟩) rfl rfl λhh=>⟨by rw[En];exact hz,a,_,hh _ q57_.1,q57_.2.1,f,q57_.2.2.2.put (r.go G2)⟩
 exact⟨jH,(G.trans G2).toGoS.trans q86_.2,q86_.1,rfl⟩
end
end Mine.Internal
end
section
set_option maxRecDepth 10000
namespace Mine.Internal
open PySem PySem.Calls PyProof.Rows PySem.W
section
variable {C:Cx}{A:Around}{T:Tab}{D:Den}{g:Gh}{σ:St}{s:Shared}{env:PySem.Env}{k:Ck}
theorem Py {prog:Program}{w:World}{K K':Type} [DecidableEq K] [DecidableEq K'] {knd:PySem.KeyKind prog w K}{knd':PySem.KeyKind prog w K'}{o:Obj}(h:o.IsDictOf knd []):o.IsDictOf knd' []:=by
 refine IC h λes ep h1 h2 h3 h4 h5=>?_
 have:es=#[]:=by
  have:=h4.length
  have:es.toList=[]:=List.eq_nil_of_length_eq_zero this
  exact Array.toList_eq_nil_iff.1 this
 subst this
 exact⟨_,ep,h1,h2,λe he=>by cases he;contradiction,.nil,by simp⟩
theorem Cu.str {o:Obj}{l:List (V×V)}(h:Cu C g o l)(hs:C3 l=true):∃kvs:List (Str×Value),o.IsDictOf (strKind C.prog C.w) kvs/\BK C g.F g.φ l kvs:=by
 rcases h with h|⟨kvs,h1,h2⟩
 ·exact h
 ·cases l with
  |nil=>
   simp only[B6] at h2
   subst h2
   exact⟨[],Py h1,by rfl⟩
  |cons p l=>
   refine jA h2 λk x r _ e _=>?_
   unfold C3 at hs
   rw[List.all_cons,e] at hs
   exact(ft hs).elim
theorem N5 (K:Ok C g σ s){i:Nat}{l:AN}(h:C2 σ.r i=true)(hl:g.loc i=some l):∃a,l.has s.heap (.ref a)/\∃o,s.heap.get? a=some o/\o.cls=.type "list"/\o.dict=none:=by
 unfold C2 at h
 split at h
 ·rename_i e
  obtain⟨_,a,xs,q1,_,⟨o,h1,h2,h3,_⟩,_⟩:=K.slots i _ l e hl
  exact⟨a,q1,o,h1,h2,h3⟩
 ·exact(ft h).elim
theorem OJ (K:Ok C g σ s){i:Nat}{l:AN}(h:I7 σ.r i=true)(hl:g.loc i=some l):∃a,l.has s.heap (.ref a)/\∃o,s.heap.get? a=some o/\o.ExactDict:=by
 unfold I7 at h
 split at h
 ·rename_i e
  refine IC (K.slots i _ l e hl) λa o q1 _ _ h1 h2=>?_
  refine⟨a,q1,o,h1,?_⟩
  rcases h2 with⟨kv,⟨_,_,h,_⟩,_⟩|⟨kv,⟨_,_,h,_⟩,_⟩<;>exact h
 ·exact(ft h).elim
theorem br (H:Ah env k g.loc){y:Str}{np pp pos:Pos}{value ix:Expr}{i:Nat}{z v:V}{l d:List (V×V)}{jD jF:St}{fl:Fl×St}(hc:Br value=false)(hd:Az y=true)(hi:lk y k.vars=some i)
  (e0:I7 jD.r i=true)
  (h1:Wp C A (eval value env) (Aa C (Rv C) g s jD v) s)(h2:∀jE jC,Go g s jE jC->Ok C jE jD jC->Wp C A (eval ix env) (Aa C (Rv C) jE jC jF z) jC)
  (e:nth jF.r i=some (.ud l))(e3:(isStr z&&C3 l&&Nat.blt l.length 64)=true)(e1:Cj z v l=some d)(e2:BL i (.ud d) jF=some fl):
  Wp C A (exec (.Assign [.Subscript (.Name y np) ix pp] value pos) env) (AQ C g s fl.2 fl.1) s:=by
 refine AA (H.at hi) λlc hl=>?_
 simp only[Bool.and_eq_true] at e3
 obtain⟨⟨e3,e4⟩,e5⟩:=e3
 refine wpAny_Assign_Subscript (h1.r λx jC jE G K r=>?_) (Cb hc)
 have hl1:jE.loc i=some lc:=by rw[G.loc];exact hl
 refine Ac (OJ K e0 hl1) λa q1 _=>?_
 refine AN.name (H.go G) hi hd (λl' e'=>by cases hl1.symm.trans e';exact q1) ((h2 jE jC G K).r λixv jG jH G2 K2 r2=>?_)
 have hl2:jH.loc i=some lc:=by rw[G2.loc];exact hl1
 refine IC (K2.slots i _ lc e hl2) λa' o q2 q3 hm q4 q5=>?_
 have:a=a':=Value.ref.inj (lc.has_det (G2.kl i lc _ hl1 q1) q2)
 subst this
 refine Ac (q5.str e4) λkvs q5 q6=>?_
 obtain⟨c,rfl⟩:=O4 e3
 refine CL r2 λt hcl=>?_
 have hlen:=q6.length
 have hlt:=Nat.le_of_ble_eq_true e5
 refine wpAny_setItem_pairs (knd:=strKind C.prog C.w) (kvs:=kvs) (k:=⟨c.toArray⟩) (strKind_is _ _ _ _) (Heap.dictOf_iff.mpr ⟨o,q4,q5⟩) (λh' f hb=>?_) (by rw[hlen,AB];unfold line;exact((Ao 0x1188888888201211882120139) hlt))
 rw[Ca e2]
 refine Ac (Heap.dictOf_iff.mp f) λo' f1 f2=>?_
 have hq:=Em hcl (r.go G2) (by refine IC q5 λ_ _ _ _ _ _ h=>?_;exact h) q6 e1
 refine AU (K2.mine (s':={jG with heap:=h',toks:=jG.toks+1}) (sl:=.ud d) hl2 q3 (.inl rfl) hb ⟨o',f1⟩ rfl rfl λhh=>⟨a,o',hh _ q2,q3,hm,f1,.inl ⟨_,f2,hq⟩⟩) λK3 G3=>?_
 exact⟨jH,(G.trans G2).toGoS.trans G3,K3,rfl⟩
theorem Hw {y:Str}{np ap cp pos:Pos}{name:Str}{id:String}{arg:Expr}{a:Addr}{v:V}{jD:St}{r:Fl×St}(H:Ah env k g.loc)(hd:Az y=true){i:Nat}(hi:lk y k.vars=some i)(hh:∀l,g.loc i=some l->l.has s.heap (.ref a))
  (hns:Ar arg=true)(hline:(ap.endLine==cp.line)=true)
  (hg:∀{pl}{Q:Value×List Value->Shared->Prop},Q (.builtin id,[.ref a]) s->wpAny (model C.prog C.w) A (getMethod (.ref a) name pl) Q (λ_ _=>False) s)
  (h1:Wp C A (eval arg env) (Aa C (Rv C) g s jD v) s)
  (h2:∀jE jC x,Go g s jE jC->Ok C jE jD jC->Rv C jE v x->wpAny (model C.prog C.w) A (call (.builtin id) [.ref a,x]) (λ_ s'=>AQ C g s r.2 r.1 .next s') (λ_ _=>False) jC):
  Wp C A (exec (.Expr (.Call (.Attribute (.Name y np) name ap) [arg] [] cp) pos) env) (AQ C g s r.2 r.1) s:=by
 have hs:([arg]:List Expr).all Ar=true:=by simp[hns]
 refine wpAny_Expr_any ?_ ?_ (Cb rfl)
 ·refine E1 (by rfl) hs (by rfl) hline ?_
  refine AN.name H hi hd hh λpl=>hg ?_
  have hp:=B0 (env:=env) (pos:=cp) hs
  refine callWith_builtin hp (wpAny_mono (Eu hs (Q:=λxs s'=>∃x jE,xs=[x]/\Go g s jE s'/\Ok C jE jD s'/\Rv C jE v x) ?_) (λa' jC ⟨hkw,x,jE,ex,G,K,rx⟩=>?_) λ_ _ x=>x)
  ·rw[Bp hns]
   exact spliced_cons (h1.r λx jC jE G K rx=>spliced_nil ⟨x,jE,rfl,G,K,rx⟩)
  ·rw[hkw,ex]
   exact h2 jE jC x G K rx
 ·unfold interactive
  rw[H.sc,H.kind];rfl
theorem Zt (H:Ah env k g.loc)(K:Ok C g σ s){y:Str}{np ap cp pos:Pos}{arg:Expr}{i:Nat}{v:V}{l:List V}{jD:St}{fl:Fl×St}(hd:Az y=true)(hi:lk y k.vars=some i)(e0:C2 σ.r i=true)
  (hns:Ar arg=true)(hline:(ap.endLine==cp.line)=true)(h1:Wp C A (eval arg env) (Aa C (Rv C) g s jD v) s)(e:nth jD.r i=some (.ul l))(e1:AO (l.length+1)=true)(e2:BL i (.ul (l++[v])) jD=some fl):
  Wp C A (exec (.Expr (.Call (.Attribute (.Name y np) "append" ap) [arg] [] cp) pos) env) (AQ C g s fl.2 fl.1) s:=by
 refine AA (H.at hi) λlc hl=>?_
 obtain⟨a,q1,o,q52_⟩:=N5 K e0 hl
 have fin:∀jE jC,Go g s jE jC->Ok C jE jD jC->jE.loc i=some lc/\∃xs,l.length<=line/\lc.has jC.heap (.ref a)/\jE.Ω a=some (.uq i)/\A6 "list" jC.heap.get? a xs/\Ak C jE.F jE.φ l xs:=λjE jC G K1=>by
  have hl1:jE.loc i=some lc:=by rw[G.loc];exact hl
  obtain⟨hz,a',xs,q95_⟩:=K1.slots i _ lc e hl1
  have:a=a':=Value.ref.inj (lc.has_det (G.kl i lc _ hl q1) q95_.1)
  subst this
  exact⟨hl1,xs,hz,q95_.1,q95_.2.1,q95_.2.2.1,q95_.2.2.2⟩
 rw[Ca e2]
 refine Hw (a:=a) (id:="list.append") (r:=(.nxt,⟨put jD.r i (.ul (l++[v])),jD.h⟩)) H hd hi (λl' e'=>by cases hl.symm.trans e';exact q1) hns hline (λq=>getMethod_list_append q52_.1 q52_.2.1 q52_.2.2 q) h1 λjE jC x G K1 rx=>?_
 obtain⟨hl1,xs,q0_⟩:=fin jE jC G K1
 refine Fh q0_.2.2.2.1 (by rw[q0_.2.2.2.2.length];exact q0_.1) λh' f hb=>?_
 have q38_:=K1.mine (s':={jC with heap:=h'}) (sl:=.ul (l++[v])) hl1 q0_.2.2.1 (.inl rfl) hb (f.elim λo h=>⟨o,h.1⟩) rfl rfl λhh=>
   ⟨by rw[List.length_append];exact Bo e1,a,_,hh _ q0_.2.1,q0_.2.2.1,f,q0_.2.2.2.2.append (by skip;exact⟨x,[],rfl,rx,rfl⟩)⟩
 exact⟨jE,G.toGoS.trans q38_.2,q38_.1,rfl⟩
theorem MJ:∀{d l d':List (V×V)}{kvs more:List (Str×Value)},BK C g.F g.φ d more->BK C g.F g.φ l kvs->(kvs.map (·.1)).Nodup->BD d l=some d'->BK C g.F g.φ d' (merged kvs more)
 |[],l,d',kvs,more,h,h',hn,e=>by
  have h:_=_:=h;subst h;refine AZ e ?_;exact h'
 |p::d,l,d',kvs,more,h,h',hn,e=>by
  obtain⟨pk,pv⟩:=p
  obtain⟨k,x,r,rfl,⟨c,rfl,hc,rfl⟩,h1,h2⟩:=h
  refine Ai (show(Cj (.str c) pv l).bind (BD d)=some d' from e) λl2 e1 e2=>?_
  have q:=MJ h2 (Em hc h1 hn h' e1) (ED hn) e2
  exact q
theorem ZG (H:Ah env k g.loc)(K:Ok C g σ s){y:Str}{np ap cp pos:Pos}{arg:Expr}{i:Nat}{d l d':List (V×V)}{jD:St}{fl:Fl×St}(hd:Az y=true)(hi:lk y k.vars=some i)(e0:I7 σ.r i=true)
  (hns:Ar arg=true)(hline:(ap.endLine==cp.line)=true)(h1:Wp C A (eval arg env) (Aa C (Rv C) g s jD (.dct d)) s)(e:nth jD.r i=some (.ud l))(e3:(C3 d&&C3 l&&Nat.blt (d.length+l.length) 64)=true)
  (e1:BD d l=some d')(e2:BL i (.ud d') jD=some fl):
  Wp C A (exec (.Expr (.Call (.Attribute (.Name y np) "update" ap) [arg] [] cp) pos) env) (AQ C g s fl.2 fl.1) s:=by
 simp only[Bool.and_eq_true] at e3
 obtain⟨⟨e3,e4⟩,e5⟩:=e3
 have e5:=Nat.le_of_ble_eq_true e5
 refine AA (H.at hi) λlc hl=>?_
 obtain⟨a,q1,o,q36_⟩:=OJ K e0 hl
 rw[Ca e2]
 refine Hw (a:=a) (id:="dict.update") (r:=(.nxt,⟨put jD.r i (.ud d'),jD.h⟩)) H hd hi (λl' e'=>by cases hl.symm.trans e';exact q1) hns hline
  (λq=>getMethod_builtin ⟨o,q36_.1,q36_.2.1⟩ PySem.F.plainAttrs_dict PySem.F.slot_dict_update PySem.F.type_dict_update (λb e=>by cases e;exact⟨o,q36_.1,q36_.2.2.1⟩) q) h1 λjE jC x G K1 rx=>?_
 have hl1:jE.loc i=some lc:=by rw[G.loc];exact hl
 refine IC (K1.slots i _ lc e hl1) λa' o' q2 q3 hm q4 q5=>?_
 have:a=a':=Value.ref.inj (lc.has_det (G.kl i lc _ hl q1) q2)
 subst this
 refine Ac (q5.str e4) λkvs q5 q6=>?_
 obtain⟨b,ob,rfl,hbm,hb1,hb2⟩:=rx
 have hD:Cu C jE ob d:=hb2
 refine Ac (hD.str e3) λmore r5 r6=>?_
 have hab:a≠b:=λz=>by
  subst z
  rw[(K1.own _ _ q3).1] at hb1;exact(ns hb1).elim
 have l1:=q6.length
 have l2:=r6.length
 refine call_meetsIn (T:="dict") (name:="update") PySem.F.slot_dict_update ⟨o',q4,by refine Hl q5 λ_ _ h _=>?_;exact h.1⟩ PySem.F.entry_dict_update (PySem.F.args_dict_update_2 _ _) (meets_dict_update (strKind C.prog C.w) a b hab hbm)
  ⟨kvs,more,Heap.dictOf_iff.mpr ⟨o',q4,q5⟩,Heap.dictOf_iff.mpr ⟨ob,K1.fz _ _ hb1,r5⟩,by rw[l1,l2,AB];unfold line;exact((AR 0x1188888888201113211882121101339) e5),λh' f1 f2 hb=>?_⟩
 refine Ac (Heap.dictOf_iff.mp f1) λo2 f3 f4=>?_
 have q66_:=K1.mine (s':={jC with heap:=h'}) (sl:=.ud d') hl1 q3 (.inl rfl) hb ⟨o2,f3⟩ rfl rfl λhh=>
  ⟨a,o2,hh _ q2,q3,hm,f3,.inl ⟨_,f4,MJ r6 q6 (by refine IC q5 λ_ _ _ _ _ _ h=>?_;exact h) e1⟩⟩
 exact⟨jE,G.toGoS.trans q66_.2,q66_.1,rfl⟩
end
end Mine.Internal
end
section
set_option maxRecDepth 10000
namespace Mine.Internal
open PySem PySem.Calls PyProof.Rows PySem.W PySem.AutoSeq1
theorem OQ (l:Addr)(items:Array Value)(n:Nat)(b:Addr)(items2:Array Value)(n2:Nat) (sl sl2)(hc0:¬(!items.isEmpty&&Builtin.List.listTooLong (items.size+items2.size))=true)(hc1:items.size<=sizeLine)(hs2:items.size+items2.size<=sizeLine+1):
  Meets (Builtin.«list.extend» ⟨[.ref l,.ref b],[]⟩) (λ_ R s=>s.heap.get? l=some {cls:=.type "list",dict:=none,data:=.seq items n,slots:=sl}/\s.heap.get? b=some {cls:=.type "list",dict:=none,data:=.seq items2 n2,slots:=sl2}/\R (.ok (.ret Value.none)) {s with heap:=s.heap.update l (Obj.mapSeq λx=>x++items2),toks:=s.toks}):=
 .of_wp λprog w A R s h=>by
  have q26_:=s;refine BH h λhl hb h=>?_;have f1:=idx_int;have f2:=AutoSeq1.sub_tuple_tuple;have f3:=AutoSeq1.sub_list_list;have f4:=AutoSeq1.sub_tuple_list;have f5:=AutoSeq1.sub_list_tuple;
  have hz':(items++items2).size<=sizeLine+1:=by rw[Array.size_append];exact hs2
  wp_walk using (wpAny_updateSeq hl rfl (hz:=hc1) (_hz':=hz')),wpAny_loadPart' hl,wpAny_loadPart' hb;exact⟨_,rfl,h⟩
section
variable {C:Cx}{A:Around}{T:Tab}{D:Den}{g:Gh}{σ:St}{s:Shared}{env:PySem.Env}{k:Ck}
theorem Zl (H:Ah env k g.loc)(K:Ok C g σ s){y:Str}{np ap cp pos:Pos}{arg:Expr}{i:Nat}{l l':List V}{jD:St}{fl:Fl×St}(hd:Az y=true)(hi:lk y k.vars=some i)(e0:C2 σ.r i=true)
  (hns:Ar arg=true)(hline:(ap.endLine==cp.line)=true)(h1:Wp C A (eval arg env) (Aa C (Rv C) g s jD (.lst l')) s)(e:nth jD.r i=some (.ul l))(e1:AO (l.length+l'.length)=true)(e2:BL i (.ul (l++l')) jD=some fl):
  Wp C A (exec (.Expr (.Call (.Attribute (.Name y np) "extend" ap) [arg] [] cp) pos) env) (AQ C g s fl.2 fl.1) s:=by
 refine AA (H.at hi) λlc hl=>?_
 obtain⟨a,q1,o,q62_⟩:=N5 K e0 hl
 rw[Ca e2]
 have hz:=Bo e1
 refine Hw (a:=a) (id:="list.extend") (r:=(.nxt,⟨put jD.r i (.ul (l++l')),jD.h⟩)) H hd hi (λl' e'=>by cases hl.symm.trans e';exact q1) hns hline
  (λq=>getMethod_builtin ⟨o,q62_.1,q62_.2.1⟩ PySem.F.plainAttrs_list PySem.F.slot_list_extend PySem.F.type_list_extend (λb e=>by cases e;exact⟨o,q62_.1,q62_.2.2⟩) q) h1 λjE jC x G K1 rx=>?_
 have hl1:jE.loc i=some lc:=by rw[G.loc];exact hl
 obtain⟨_,a',xs,q2,q3,⟨⟨c,dd,dt,sl⟩,f1,f2,f3,n,f4⟩,q5⟩:=K1.slots i _ lc e hl1
 have:a=a':=Value.ref.inj (lc.has_det (G.kl i lc _ hl q1) q2)
 subst this
 obtain⟨_,b,ys,rfl,⟨⟨c',dd',dt',sl'⟩,f1',f2',f3',n',f4'⟩,r5⟩:=rx
 simp only at f2 f3 f4 f2' f3' f4'
 subst f2 f3 f4 f2' f3' f4'
 have z1:xs.toArray.size=l.length:=by rw[List.size_toArray,q5.length]
 have z2:ys.toArray.size=l'.length:=by rw[List.size_toArray,r5.length]
 have hline':sizeLine=line:=by rw[AB]
 refine call_meets (T:="list") (name:="extend") PySem.F.slot_list_extend ⟨_,f1,rfl⟩ PySem.F.entry_list_extend (PySem.F.args_list_extend_2 _ _) (OQ a xs.toArray n b ys.toArray n' sl sl' ?_ (by lia) (by omega))
  ⟨f1,K1.fz _ _ f1',?_⟩
 ·rw[z1,z2]
  unfold Builtin.List.listTooLong
  have hv:sizeLine=16777216:=by rw[AB];rfl
  skip
  simp
  lia
 ·have hf:A6 "list" (jC.heap.update a (Obj.mapSeq λx=>x++ys.toArray)).get? a (xs++ys):=by
   refine AA (Obj.data_mapSeq (o:={cls:=.type "list",dict:=none,data:=.seq xs.toArray n,slots:=sl}) rfl (λx=>x++ys.toArray)) λn'' hd'=>?_
   refine⟨_,Heap.get?_update_self _ f1 (Obj.isFreed_of_seq hd'),?_,?_,n'',?_⟩
   ·exact(Obj.cls_mapSeq ..)
   ·rfl
   ·rw[hd'];simp
  have q23_:=K1.mine (s':={jC with heap:=jC.heap.update a (Obj.mapSeq λx=>x++ys.toArray)}) (sl:=.ul (l++l')) hl1 q3 (.inl rfl) (Heap.SameBut.update ..) (hf.elim λo h=>⟨o,h.1⟩) rfl rfl λhh=>
   ⟨by rw[List.length_append];exact hz,a,_,hh _ q2,q3,hf,q5.append r5⟩
  exact⟨jE,G.toGoS.trans q23_.2,q23_.1,rfl⟩
end
end Mine.Internal
end
section
set_option maxRecDepth 10000
namespace Mine.Internal
open PySem PySem.Calls PyProof.Rows PySem.W
section
variable {C:Cx}{T:Tab}(P:Px C T){A:Around}{g:Gh}{σ:St}{s:Shared}{env:PySem.Env}{k:Ck}
theorem DG.le {c:Nat}{f:Fz}{a:Addr}{n n':Nat}{m:Str->Option Value}(h:DG C c f a n m)(hn:n<=n'):DG C c f a n' m:=
 let ⟨⟨o,es,ep,h1,h2,h3,h4,h5⟩,q⟩:=h;⟨⟨o,es,ep,h1,h2,h3,h4,Nat.le_trans h5 hn⟩,q⟩
theorem HO {f:Nat}{v:V}:∀{l:List (Nat×V)},l.length<=(Cm f v l).length/\(BG f l=none->l.length+1<=(Cm f v l).length)
 |[]=>⟨Nat.zero_le _,λ_=>Nat.le_refl _⟩
 |(q,u)::l=>by
  by_cases h:q=f
  ·subst h;rw[LJ,FE];exact⟨Nat.le_refl _,λe=>(sn e).elim⟩
  ·rw[L_ h,Dm h];exact⟨Nat.succ_le_succ HO.1,λe=>Nat.succ_le_succ (HO.2 e)⟩
theorem M1 {F:Fz}{φ:List Addr}{f:Nat}{v:V}{l:List (Nat×V)}{m:Str->Option Value}(h:Cw C F φ l m):(if(m (C.fld f)).isSome then l.length else l.length+1)<=(Cm f v l).length:=by
 split
 ·exact HO.1
 ·rename_i q
  refine HO.2 ?_
  cases e:BG f l with
  |none=>rfl
  |some u=>exact Ac (h.get e) λx hx _=>absurd (by rw[hx];rfl) q
theorem Ug {v a:Expr}{x:Str}{p:Pos}{n:Nat}:swapsWith v (some (.Attribute a x p)) n env=pure false:=by cases v<;>rfl
include P
theorem ZJ (H:Ah env k g.loc){y:Str}{np ap pos:Pos}{value:Expr}{i c f:Nat}{v:V}{fs:List (Nat×V)}{jD:St}{fl:Fl×St}(hd:Az y=true)(hi:lk y k.vars=some i)
  (h1:Wp C A (eval value env) (Aa C (Rv C) g s jD v) s)(e:nth jD.r i=some (.uo c fs))(e1:(T.fok c f&&Nat.blt fs.length 64)=true)(e2:BL i (.uo c (Cm f v fs)) jD=some fl):
  Wp C A (exec (.Assign [.Attribute (.Name y np) (C.fld f) ap] value pos) env) (AQ C g s fl.2 fl.1) s:=by
 refine AA (H.at hi) λlc hl=>?_
 simp only[Bool.and_eq_true] at e1
 obtain⟨e1,e3⟩:=e1
 rw[P.fok] at e1
 have e3:=Nat.le_of_ble_eq_true e3
 refine plainObj_wpAny_Assign_Attribute (h1.r λx jC jE G K r=>?_) Ug
 have hl1:jE.loc i=some lc:=by rw[G.loc];exact hl
 obtain⟨a,d,m,q1,q2,q3,q4,q5,q6,q7⟩:=K.slots i _ lc e hl1
 refine AN.name (H.go G) hi hd (λl' e'=>by cases hl1.symm.trans e';exact q1) ?_
 refine P.set K e1 (by exact((Ao 0x11fd8201311882120139) e3)) q4 q5 λh' tk f1 hb=>?_
 rw[Ca e2]
 have ad:a≠d:=λz=>by subst z;rw[q2] at q3;cases q3
 have q80_:=K.mine (s':={jC with heap:=h',toks:=tk}) (sl:=.uo c (Cm f v fs)) hl1 q3 (.inr rfl) hb (by obtain⟨⟨o,_,_,h,_⟩,_⟩:=f1;exact⟨o,h⟩) rfl rfl λhh=>
  ⟨a,d,_,hh _ q1,q2,q3,(hb.2 a ad).trans q4,f1.le (M1 q6),q6.set r,q7⟩
 exact⟨jE,G.toGoS.trans q80_.2,q80_.1,rfl⟩
theorem bH (H:Ah env k g.loc){o value:Expr}{ap pos:Pos}{n c f:Nat}{v:V}{fs:List (Nat×V)}{jD jF:St}(hc:Br value=false)
  (h1:Wp C A (eval value env) (Aa C (Rv C) g s jD v) s)(h2:∀jE jC,Go g s jE jC->Ok C jE jD jC->Wp C A (eval o env) (Aa C (Rv C) jE jC jF (.ref n)) jC)
  (e:nth jF.h n=some (.ins c fs))(e1:(T.fok c f&&Nat.blt fs.length 64)=true):
  Wp C A (exec (.Assign [.Attribute o (C.fld f) ap] value pos) env) (AQ C g s ⟨jF.r,put jF.h n (.ins c (Cm f v fs))⟩ .nxt) s:=by
 simp only[Bool.and_eq_true] at e1
 obtain⟨e1,e3⟩:=e1
 rw[P.fok] at e1
 have e3:=Nat.le_of_ble_eq_true e3
 refine plainObj_wpAny_Assign_Attribute (h1.r λx jC jE G K r=>(h2 jE jC G K).r λy jG jH G2 K2 r2=>?_) (Cb hc)
 refine J_ r2 λb hb0=>?_
 refine Q9 (K2.cells n _ e) λa d m q1 q2 q3 q4 q5 q6=>?_
 cases hb0.symm.trans q1
 refine P.set K2 e1 (by exact((Ao 0x11fd8201311882120139) e3)) q4 q5 λh' tk f1 hb=>?_
 have ad:b≠d:=λz=>by subst z;rw[q2] at q3;cases q3
 have q14_:=K2.ownH (s':={jG with heap:=h',toks:=tk}) (c:=.ins c (Cm f v fs)) q3 (.inr rfl) hb (by obtain⟨⟨o,_,_,h,_⟩,_⟩:=f1;exact⟨o,h⟩) rfl rfl
  ⟨b,d,_,q1,q2,q3,(hb.2 b ad).trans q4,f1.le (M1 q6),q6.set (r.go G2)⟩
 exact⟨jH,(G.trans G2).toGoS.trans q14_.2,q14_.1,rfl⟩
omit P in
theorem Zm (H:Ah env k g.loc){o ix value:Expr}{ap pos:Pos}{n j:Nat}{z:Int}{v:V}{l:List V}{jD jF jN:St}(hc:Br value=false)
  (h1:Wp C A (eval value env) (Aa C (Rv C) g s jD v) s)(h2:∀jE jC,Go g s jE jC->Ok C jE jD jC->Wp C A (eval o env) (Aa C (Rv C) jE jC jF (.ref n)) jC)
  (h3:∀jE jC,Go g s jE jC->Ok C jE jF jC->Wp C A (eval ix env) (Aa C (Rv C) jE jC jN (.int z)) jC)
  (e:nth jN.h n=some (.lst l))(e1:place z l.length=some j):
  Wp C A (exec (.Assign [.Subscript o ix ap] value pos) env) (AQ C g s ⟨jN.r,put jN.h n (.lst (put l j v))⟩ .nxt) s:=by
 refine wpAny_Assign_Subscript (h1.r λx jC jE G K r=>(h2 jE jC G K).r λy jG jH G2 K2 r2=>(h3 jH jG (G.trans G2) K2).r λu jK jP G3 K3 r3=>?_) (Cb hc)
 refine J_ r2 λb hb0=>?_
 refine AK r3 λt=>?_
 obtain⟨hz,a,xs,q93_⟩:=K3.cells n _ e
 cases(G3.φ.nth hb0).symm.trans q93_.1
 refine GY q93_.2.2.1 (by rw[q93_.2.2.2.length];exact hz) (by rw[q93_.2.2.2.length];exact e1) λh' f hb=>?_
 have q15_:=K3.ownH (s':={jK with heap:=h'}) (c:=.lst (put l j v)) q93_.2.1 (.inl rfl) hb (f.elim λo h=>⟨o,h.1⟩) rfl rfl
  ⟨by rw[En];exact hz,b,_,q93_.1,q93_.2.1,f,q93_.2.2.2.put ((r.go G2).go G3)⟩
 exact⟨jP,((G.trans G2).trans G3).toGoS.trans q15_.2,q15_.1,rfl⟩
end
end Mine.Internal
end
section
set_option maxRecDepth 10000
namespace Mine.Internal
open PySem PySem.Calls PyProof.Rows PySem.W
section
variable {C:Cx}{T:Tab}{D:Den}{A:Around}{g:Gh}{σ:St}{s:Shared}{env:PySem.Env}{k:Ck}
theorem YC (P:Px C T){t b:Expr}{dp ip:Pos}{jD:St}(h1:GK C A env g t jD true s):Wp C A (eval (.IfExp t (.Dict [] [] dp) b ip) env) (Dk C g s jD []) s:=by
 refine wpAny_IfExp (h1.r λc' jC jE G K e=>?_)
 subst e
 exact(I6 K P).mono λy jG q=>q.of G
theorem GoS.raw_ext {g g':Gh}{s s' s'':Shared}(G:GoS g s g' s'){a:Addr}(h:¬As s a)(hb:∀b o,b≠a->s'.heap.get? b=some o->s''.heap.get? b=some o):GoS g s g' s'':=
 ⟨G.F,G.φ,G.loc,G.me,λb q=>let ⟨o,e⟩:=G.live b q;⟨o,hb b o (λz=>h (z▸q)) e⟩,λb o e q=>let ⟨x,y,z⟩:=G.keep b o e q
  ⟨hb b o (λq=>by subst q;exact h ⟨_,e⟩) x,y,z⟩⟩
theorem cw (hh:A.handled=none)(H:Ah env k g.loc)(K:Ok C g σ s){t:Tgt}{tgt:Expr}{tg:List (Str×Nat)}{v:V}{x:Value}{r:Bf}{E:Value->Shared->Prop}{Q:Unit->Shared->Prop}(ht:EM t tgt=some tg)
  (hk:∀p∈tg,lk p.1 k.vars=some p.2)(rx:Rv C g v x)(e:DD t v σ.r=some r)(q:∀s',GoS g s g s'->Ok C g ⟨r,σ.h⟩ s'->Q () s'):wpAny (model C.prog C.w) A (assign tgt env x) Q E s:=by
 cases t with
 |one i=>
  revert hk
  refine CG (show(Q8 tgt i).map (·::[])=some tg from ht) λp h1=>?_
  refine Sq (M:=λe p=>(∀p'∈[p],lk p'.1 k.vars=some p'.2)->wpAny _ A (assign e env x) Q E s) h1 λy pos hk=>?_
  exact AJ e λ_ e=>wpAny_assign_Name (MA H K (hk _ List.mem_cons_self) rx λs' G K'=>q s' G (s1 e▸K'))
 |many ts=>
  cases tgt<;>first|exact(ns ht).elim;done|skip
  rename_i es kk p
  have ht:Bc es ts=some tg:=ht
  refine Ai (show(DR v).bind (λvs=>Gn ts vs σ.r)=some r from e) λvs e1 e2=>?_
  rw[arm_assign_Tuple]
  refine AU (DF ht) λz1 z2=>?_
  have hlen:=Fg e2
  refine wpAny_bind (wpAny_standAt (Fj (hh:=hh) (M:=()) K rx e1 ?_ (BY ht).2 λh' xs hle hl=>?_))
  ·rw[(BY ht).1,<-z2,<-hlen,<-z1,List.length_map]
  ·have K2:Ok C g σ {s with heap:=h'}:=K.grow hle rfl rfl
   exact Du (r:=σ.r) (hp:=σ.h) H (Kh ht hk hl hlen) (e2) K2 λs' G' K'=>q s' ((Go.grow g hle).toGoS.trans G') K'
inductive WhAt (C:Cx)(T:Tab)(D:Den)(t:E)(b:List S)(g:Gh)(s:Shared)(fl:Fl×St)(n:Nat)(s':Shared):Prop where
 |mk (g':Gh)(jI:St)(G:GoS g s g' s')(K:Ok C g' jI s')(e:Pu (Cd T D t) (Bd T D b) n jI=some fl):WhAt C T D t b g s fl n s'
inductive FoAt (C:Cx)(f:V->St->Option (Fl×St))(l:List V)(I:Addr)(Ae:Nat->Heap->Prop)(g:Gh)(s:Shared)(jE:Gh)(fl:Fl×St)(n:Nat)(s':Shared):Prop where
 |mk (i:Nat)(l':List V)(g':Gh)(jI:St)(hn:n=l'.length)(hd:l.drop i=l')(hi:i<=l.length)(G:GoS g s g' s')(hF:Bk jE.F g'.F)(hp:Dz jE.φ g'.φ)(K:Ok C g' jI s')(R:AX g' s' I)(h:Ae i s'.heap)(e:Ct f l' jI=some fl):FoAt C f l I Ae g s jE fl n s'
theorem Zw (H:Ah env k g.loc)(K:Ok C g σ s){te:Expr}{body:List Stmt}{pos:Pos}{t:E}{b:List S}{fl:Fl×St}(e:Pu (Cd T D t) (Bd T D b) 64 σ=some fl)
  (ht:∀jE jC jD c jF,Ah env k jE.loc->Ok C jE jD jC->Cd T D t jD=some (c,jF)->GK C A env jE te jF c jC)
  (hb:∀jE jC jD fl,Ah env k jE.loc->Ok C jE jD jC->Bd T D b jD=some fl->Wp C A (execs body env) (AQ C jE jC fl.2 fl.1) jC):
  Wp C A (exec (.While te body [] pos) env) (AQ C g s fl.2 fl.1) s:=by
 refine wpAny_While (codeAny_whileLoop (WhAt C T D t b g s fl) (λn s' h=>?_) 64 (.mk g σ (.refl g s) K e))
 cases h with|mk g' jI G K' e'=>
 cases n with
 |zero=>exact(ns e').elim
 |succ n=>
  refine Ap (show(Cd T D t jI).bind _=some fl from e') λc jF e1 e2=>?_
  refine(ht g' s' jI c jF (H.goS G) K' e1).r λc' jG jH G2 K2 ec=>?_
  rw[ec]
  have G2':=G.trans G2.toGoS
  cases c with
  |false=>exact s1 (show some _=some fl from e2)▸(L8 K2).mono λf jK q=>q.of G2'
  |true=>
   refine Ap e2 λf jN e3 e4=>?_
   refine(hb jH jG jF _ (H.goS G2') K2 e3).mono λfw jK h=>CP h λjP G3 K3 r=>?_
   cases f with
   |nxt=>
    have r:fw=.next:=r
    subst r
    exact⟨n,Nat.lt_succ_self n,.mk jP jN (G2'.trans G3) K3 e4⟩
   |ret v=>
    refine Ac r λx q rx=>?_
    subst q
    exact s1 (show some _=some fl from e4)▸(⟨jP,G2'.trans G3,K3,x,rfl,rx⟩:AQ C g s jN (.ret v) (.ret x) jK)
theorem YJ (hh:A.handled=none)(H:Ah env k g.loc){tgt iter:Expr}{body:List Stmt}{pos:Pos}{t:Tgt}{tg:List (Str×Nat)}{b:List S}{fl:Fl×St}{v:V}{l:List V}{jD:St}(hset:BE iter=false)
  (htg:EM t tgt=some tg)(hk:∀p∈tg,lk p.1 k.vars=some p.2)
  (h1:Wp C A (eval iter env) (Aa C (Rv C) g s jD v) s)(e1:A4 v=some l)(e:Ct (λv s'=>(DD t v s'.r).bind λr=>Bd T D b ⟨r,s'.h⟩) l jD=some fl)
  (hb:∀jE jC jD fl,Ah env k jE.loc->Ok C jE jD jC->Bd T D b jD=some fl->Wp C A (execs body env) (AQ C jE jC fl.2 fl.1) jC):
  Wp C A (exec (.For tgt iter body [] pos) env) (AQ C g s fl.2 fl.1) s:=by
 refine wpAny_For (h1.r λx jC jE G1 K1 rx=>(WY K1 hh rx e1).mono λit jG hsrc=>?_) (EY hset)
 cases hsrc with|mk I fp P Ae W h0 hpl hfp hP hz RI hnI G2 K2=>
 have hnI':¬As s I:=λq=>hnI (G1.live _ q)
 refine codeAny_forLoop_any (FoAt C (λv s'=>(DD t v s'.r).bind λr=>Bd T D b ⟨r,s'.h⟩) l I Ae g s jE fl) (λn s' h=>?_) l.length (.mk 0 l jE jD rfl rfl (Nat.zero_le _) (G1.trans G2).toGoS (.refl _) (.refl _) K2 RI h0 e)
 cases h with|mk i l' g' jI hn hdr hi G hF hφ K R hst e'=>
 cases l' with
 |nil=>
  refine W.done s' _ _ (drop_nil hdr hi▸hst) λh' tk hb'=>?_
  have hb':∀b o,b≠I->s'.heap.get? b=some o->h'.get? b=some o:=λb o nb e=>hb' b o (λq=>nb (List.mem_singleton.1 q)) e
  exact s1 (show some _=some fl from e')▸(L8 (K.raw_ext (s':={s' with heap:=h',toks:=tk}) R hb' rfl rfl)).mono λf jK q=>q.of (G.raw_ext hnI' hb')
 |cons u l'=>
  refine Ap (show((DD t u jI.r).bind λr=>Bd T D b ⟨r,jI.h⟩).bind _=some fl from e') λf jN e2 e3=>Ai e2 λr' hr' e4=>BH (EU hdr) λhlt hvi hdr'=>?_
  refine W.item i s' _ _ hlt hst λx h' tk hPx hst1 hbI=>?_
  have hb':∀b o,b≠I->s'.heap.get? b=some o->h'.get? b=some o:=λb o nb e=>hbI b o (λq=>nb (List.mem_singleton.1 q)) e
  have K3:=K.raw_ext (s':={s' with heap:=h',toks:=tk}) R hb' rfl rfl
  have G3:=G.raw_ext (s'':={s' with heap:=h',toks:=tk}) hnI' hb'
  have P1:=hpl _ _ hst1
  refine Hl (id P1) λoI nI hoI _=>Ac (hP i x hlt hPx) λu' hu rv=>?_
  rw[s1 (hu.symm.trans hvi)] at rv
  refine GB P1 (cw hh (H.goS G3) K3 htg hk (Rp.mono hF hφ rv) hr' λjR G4 K4=>?_)
  refine(hb g' jR _ _ (H.goS (G3.trans G4)) K4 e4).mono λfw j7 h=>CP h λg₅ G5 K5 r=>?_
  cases f with
  |nxt=>
   refine AU ((G4.trans G5).raw (a:=I) ⟨R.f,R.o,oI,hoI⟩ hoI) λR5 eI=>?_
   have r:fw=.next:=r
   subst r
   refine⟨l'.length,hn▸Nat.lt_succ_self _,.mk (i+1) l' g₅ jN rfl hdr' hlt ((G3.trans G4).trans G5) (hF.trans G5.F) (hφ.trans G5.φ) K5 R5 (W.frame _ _ _ hst1 λb hb o ho=>?_) e3⟩
   refine(hfp b hb).elim (λe=>?_) λe=>AA e λo' ho'=>?_
   ·rw[e] at ho ⊢;exact eI.trans (hoI.symm.trans ho)
   ·exact(K5.fz _ _ (G5.F _ _ (hF _ _ ho'))).trans ((K3.fz _ _ (hF _ _ ho')).symm.trans ho)
  |ret v=>
   refine Ac r λx q rx=>?_
   subst q
   exact s1 (show some _=some fl from e3)▸(⟨g₅,(G3.trans G4).trans G5,K5,x,rfl,rx⟩:AQ C g s jN (.ret v) (.ret x) j7)
end
end Mine.Internal
end
section
set_option maxRecDepth 10000
namespace Mine.Internal
open PySem PySem.Calls PyProof.Rows PySem.W
section
variable {C:Cx}{T:Tab}(P:Px C T){D:Den}{A:Around}{g:Gh}{σ:St}{s:Shared}{env:PySem.Env}{k:Ck}
theorem XB (H:Ah env k g.loc){y:Str}{np pos:Pos}{l:Expr}{op:CmpOp}{neg:Bool}{i:Nat}{u:V}{d:List (V×V)}{r:Option V}{jD:St}(hop:op=if neg then .NotIn else .In)(hd:Az y=true)(hi:lk y k.vars=some i)
  (h1:Wp C A (eval l env) (Aa C (Rv C) g s jD u) s)(e:nth jD.r i=some (.ud d))(hk:D0 u=true)(e1:keyOf u d=some r):
  Wp C A (eval (.Compare l [op] [.Name y np] pos) env) (Aa C (Rv C) g s jD (.bool (if neg then !r.isSome else r.isSome))) s:=by
 subst hop
 obtain⟨lc,hl⟩:=H.at hi
 refine wpAny_Compare1 (h1.r λx jC jE G K rx=>?_) (Ff rfl)
 have hl1:jE.loc i=some lc:=by rw[G.loc];exact hl
 refine IC (K.slots i _ lc e hl1) λa o q1 q2 q3 q4 q5=>?_
 refine AN.name (H.go G) hi hd (λl' e'=>by cases hl1.symm.trans e';exact q1) ?_
 have q:=TN (A:=A) K rx q4 q3 q5 hk e1
 cases neg with
 |false=>exact q.1.mono λz jG q=>q.of G
 |true=>exact q.2.mono λz jG q=>q.of G
theorem MY:∀(l:List Nat)(a:Nat),(∀b∈l,b<256)->((l.map Nat.toUInt8).map λc=>((c.toNat:Nat):Int)).foldl (λa k=>a*256+k) ((a:Nat):Int)=((l.foldl (λa b=>a*256+b) a:Nat):Int)
 |[],_,_=>rfl
 |b::l,a,h=>by
  have hb:=h b (List.mem_cons_self ..)
  have e:(Nat.toUInt8 b).toNat=b:=by simp[Nat.toUInt8,UInt8.toNat_ofNat'];exact hb
  simp only[List.map_cons,List.foldl_cons,e]
  have:=MY l (a*256+b) λc hc=>h c (List.mem_cons_of_mem _ hc)
  push_cast at this ⊢
  exact this
include P
theorem Ys (K:Ok C g σ s){pl:Sem Bool}{E:Value->Shared->Prop}{Q:Value×List Value->Shared->Prop}(h:∀jC:Shared,jC.heap=s.heap.push KFB.bound->jC.gens=s.gens->jC.os=s.os->Q (.ref s.heap.objs.size,[]) jC):
  wpAny (model C.prog C.w) A (getMethod (.type "int") (PySem.Str.ofString "from_bytes") pl) Q E s:=by
 have X:=P.kIn K
 have hstub:opaqueClassAbove (.type "int")=pure none:=by unfold opaqueClassAbove;dsimp only;rw[show Manifest.isStub "int"=false by decide+kernel];rfl
 have ht:typeOf (.type "int")=pure (.type "type"):=by first|rfl|kernel_rfl
 have L0:Looks (model C.prog C.w) s.heap (typeOf (.type "int")) (.type "type"):=Looks.of_pure ht
 have hg:findIn P.K (.type "type") "__getattribute__"=some (some (.builtin "type.__getattribute__")):=type_tga
 unfold getMethod specialOf
 refine wpAny_bind (wpAny_bind (L0.here ((looks_findIn X hg).here ?_)))
 dsimp only
 rw[if_pos canon_tga]
 refine wpAny_bind (wpAny_mono (Q:=λv=>Q (v,[])) (E:=E) ?_ (λ_ _ z=>wpAny_pure z) λ_ _ z=>z)
 have LO:Looks (model C.prog C.w) s.heap (opaqueClassAbove (.type "int")) none:=Looks.of_pure hstub
 refine cls_open X LO L0 hg (looks_hook X (r:=none) (by rfl)) (by show subIn P.K _ _=_;rfl) P.frm ?_
 show wpAny _ _ (holding [.builtin "int.from_bytes"] (call (.builtin "classmethod_descriptor.__get__") [.builtin "int.from_bytes",.none,.type "int"])>>=λv=>ret v) _ _ _
 exact wpAny_bind (wpAny_holding (wpAny_call_entry KFB.slot_get KFB.type_fb KFB.entry_get (KFB.run_get ⟨_,rfl,wpAny_pure (wpAny_pure (h _ rfl rfl rfl))⟩) (KFB.args_get _ _ _)))
theorem Vk (K:Ok C g σ s)(H:Ah env k g.loc){x:Str}{np ap cp pos:Pos}{c:Expr}{arg:Expr}{kk:Nat}{l:List Nat}{jD:St}(hx:P.bn x=some .int)(hd:Az x=true)(hk:k.sc.names.lookup x=some .globalImplicit)
  (hns:Ar arg=true)(hline:(ap.endLine==pos.line)=true)(hc:HU (.str [98,105,103]) (.str (PySem.Str.ofString "big"))=true)
  (h1:∀jE jC,Go g s jE jC->Ok C jE σ jC->Wp C A (eval arg env) (Aa C (Rv C) jE jC jD (.bytes l)) jC)(hl:l.length<=8):
  Wp C A (eval (.Call (.Attribute (.Name x np) (PySem.Str.ofString "from_bytes") ap) [arg,.Constant (.str (PySem.Str.ofString "big")) kk cp] [] pos) env) (Aa C (Rv C) g s jD (.int (DQ l))) s:=by
 have hs:([arg,.Constant (.str (PySem.Str.ofString "big")) kk cp]:List Expr).all Ar=true:=by show(Ar arg&&(true&&true))=true;rw[hns];rfl
 refine E1 (by rfl) hs (by rfl) hline ?_
 refine P.name K H hd hk (.inr (P.bnok x _ hx)) λpl=>?_
 have fin:∀jC:Shared,jC.heap=s.heap.push KFB.bound->jC.gens=s.gens->jC.os=s.os->wpAny (model C.prog C.w) A (callWith pos (.ref s.heap.objs.size) [] (backTo pos (starEach [arg,.Constant (.str (PySem.Str.ofString "big")) kk cp] env)) []) (Aa C (Rv C) g s jD (.int (DQ l))) (λ_ _=>False) jC:=λjC e1 e2 e3=>by
  refine Cz (K.push (s':=jC) (o:=KFB.bound) rfl e1 e2 e3) λK1 G1 R1 e4=>?_
  have hp:=B0 (env:=env) (pos:=pos) hs
  refine KFB.callWith_fields hp (wpAny_mono (Eu hs (Q:=λxs s'=>∃y t jE,xs=[y,.str (PySem.Str.ofString "big") t]/\Go g jC jE s'/\Ok C jE jD s'/\Rv C jE (.bytes l) y) ?_) (λa' jG ⟨hkw,y,t,jE,ex,G,K2,rx⟩=>?_) λ_ _ x=>x)
  ·rw[Bp hns]
   refine spliced_cons ((h1 _ _ G1 K1).r λy jG jE G K2 rx=>?_)
   refine spliced_cons ((Ub (kk:=kk) (pos:=cp) (env:=env) K2 hc).r λz jK jH G2 K3 rz=>spliced_nil ?_)
   refine CL rz λt _=>?_
   exact⟨y,t,jH,rfl,G.trans G2,K3,rx.go G2⟩
  ·refine AU (G.raw R1 e4) λR2 e5=>?_
   refine⟨e5,?_⟩
   rw[hkw,ex]
   refine Cs rx λt' hz hb=>?_
   refine KFB.call_of (z:=KFB.value (KBw.bInts (l.map Nat.toUInt8).toArray)) e5 (λz=>KFB.tree_big (by simpa using hl) z) ?_
   have:KFB.value (KBw.bInts (l.map Nat.toUInt8).toArray)=(DQ l:Int):=by
    unfold KFB.value KBw.bInts DQ
    exact MY l 0 hb
   rw[this]
   exact(Aa.tok K2 _ AW).of (G1.trans G)
 exact Ys P K fin
end
end Mine.Internal
end
section
set_option maxRecDepth 10000
namespace Mine.Internal
open PySem PySem.Calls PyProof.Rows PySem.W
namespace J
theorem slot:PySem.Slot "bytes" "join" "bytes.join":=
 .of (owner:="bytes") (n:="join") (by rw[typeLookup_type,builtinLookup_eq_fast];kernel_rfl) (by decide+kernel) (by decide+kernel) (by decide+kernel)
  (by first|exact .inl (by decide+kernel)|exact .inr (by decide+kernel)) (by rw[isSubtype_type];kernel_rfl)
theorem type:typeOf (.builtin "bytes.join")=pure (.type "method_descriptor"):=by show builtinType _=_;rw[builtinType_eq_fast];kernel_rfl
theorem entry:entryFor table "bytes.join"=some Builtin.«bytes.join»:=entryFor_of_tree (by kernel_rfl)
theorem args (a b:Value):argsOk "bytes.join" ⟨[a,b],[]⟩:=by skip;kernel_rfl
theorem Y1 {id:String}{b:Array UInt8}{t:Tok}:Builtin.Bytes.takeBufferQuiet? id (.bytes b t) 0=pure (some (b,none)):=by
 unfold Builtin.Bytes.takeBufferQuiet? Builtin.Bytes.takeBuffer?
 have hf:((0:Int)==Builtin.Bytes.fullReadOnly)=false:=by decide
 rw[KBy.special_eq KBy.look_buffer]
 rw[pure_bind]
 rw[KBy.own_buffer]
 rw[pure_bind]
 rw[hf]
 rw[KBy.buffer_eq]
 rfl
section
variable {prog:Program}{w:World}{A:Around}{E:Value->Shared->Prop}{s:Shared}
theorem Z_ {items:Array Value}{α:Type}{f:Value->Sem α}{g:Sem α}{M:Model}{Q:α->Shared->Prop}(h:∀x,items=#[x]->wpAny M A (f x) Q E s)(h1:items.size≠1->wpAny M A g Q E s):wpAny M A (match items with|#[x]=>f x|_=>g) Q E s:=by
 rcases items with⟨_|⟨x,_|⟨y,r⟩⟩⟩
 ·exact h1 (λe=>nomatch e)
 ·exact h x rfl
 ·exact h1 (λe=>nomatch e)
theorem WA {M:Model}{Q:Unit->Shared->Prop}:∀(ys:List (Array UInt8×Tok))(keep:List Value),Q () s->wpAny M A (Builtin.Bytes.joinLetGo (ys.map λp=>(Value.bytes p.1 p.2,none)) keep) Q E s
 |[],_,h=>wpAny_pure h
 |p::ys,keep,h=>by
  show wpAny M A (letGo _ _>>=λ_=>Builtin.Bytes.joinLetGo (ys.map λp=>(Value.bytes p.1 p.2,none)) keep) Q E s
  refine wpAny_bind (wpAny_letGo ?_)
  exact WA ys keep h
theorem Vq {β:Type}{M:Model}{n:Nat}{init:β}{f:Nat->β->Sem (ForInStep β)}{Q:β->Shared->Prop}(I:Nat->β->Shared->Prop)(h0:I 0 init s)(hs:∀i b s',i<n->I i b s'->wpAny M A (f i b) (λr s''=>∃b',r=.yield b'/\I (i+1) b' s'') E s')(hq:∀b s',I n b s'->Q b s'):wpAny M A (forIn [0:n] init f) Q E s:=by
 rw[Std.Legacy.Range.forIn_eq_forIn_range']
 refine wpAny_forIn_list _ (λrest b s'=>∃i,rest=List.range' i (n - i)/\i<=n/\I i b s') Q (λx rest b s' h=>?_) (λb s' h=>?_) _ _ ⟨0,by simp[Std.Legacy.Range.size],Nat.zero_le _,h0⟩
 ·refine CP h λi hr hi h=>?_
  have hlt:i<n:=Nat.lt_of_le_of_ne hi λe=>by rw[e,Nat.sub_self] at hr;exact nomatch hr
  rw[show n - i=(n - (i+1))+1 by exact(Nat.le_antisymm ((Ft 0x11231301212112113313c12111013b) (Nat.sub_add_cancel hi) (Nat.sub_add_cancel ((AR 0x11112013211101a) hlt))) ((Ft 0x13112013212111313c12112113013b) (Nat.sub_add_cancel ((AR 0x11112013211101a) hlt)) (Nat.sub_add_cancel hi))),List.range'_succ] at hr
  rw[(List.cons.inj hr).1]
  exact wpAny_mono (hs i b s' hlt h) (λr s'' q=>Ac q λb' e q=>e▸⟨i+1,(List.cons.inj hr).2,hlt,q⟩) λ_ _ x=>x
 ·refine CP h λi hr hi h=>?_
  have:=congrArg List.length hr
  rw[List.length_range'] at this
  have e:i=n:=by simp at this;exact(Nat.le_antisymm ((AR 0x111012111019) hi) ((BM 0x11121212111013c10102c) this (Nat.sub_add_cancel hi)))
  exact hq b s' (e▸h)
theorem items {M:Model}{a:Addr}{T:String}{Q:Value->Shared->Prop}(hT:s.TypeIs (.ref a) "list")(h:Q (.ref a) s):wpAny M A (Builtin.Bytes.joinItems (.ref a)) Q E s:=
 wpAny_bind (wpAny_typeOf hT (bm_if_true (by decide) (wpAny_pure h)))
theorem Wv:∀(l:List (Array UInt8))(a:Array UInt8),(l.foldl (·++·) a).size=l.foldl (·+·.size) a.size
 |[],_=>rfl
 |x::l,a=>(Wv l (a++x)).trans (congrArg (l.foldl _) (Array.size_append ..))
theorem Wu:∀(l:List (Array UInt8))(n:Nat)(a:Array UInt8),(l.zipIdx n).foldl (λout p=>(if p.2>0 then out++#[] else out)++p.1) a=l.foldl (·++·) a
 |[],_,_=>rfl
 |x::l,n,a=>by
  have:(if n>0 then a++#[] else a)=a:=by split<;>rfl
  exact(Wu l (n+1) _).trans (congrArg (λz=>l.foldl (·++·) (z++x)) this)
theorem run {a:Addr}{ys:List (Array UInt8×Tok)}{t:Tok}{P:Fin->Shared->Prop}(hl:s.heap.IsList a (ys.map λp=>Value.bytes p.1 p.2).toArray)(hz:((ys.map (·.1)).foldl (·++·) #[]).size<=16777216)
  (h:∀t' k,P (.done (.ret (.bytes ((ys.map (·.1)).foldl (·++·) #[]) t'))) {s with toks:=k}):
  wpAny (model prog w) A (Builtin.«bytes.join» ⟨[.bytes #[] t,.ref a],[]⟩) P E s:=by
 refine CP hl λo ho hc hd=>AA hd λn hd=>?_
 refine wpAny_bind (wpAny_of_eq (a:=(.bytes #[] t,.ref a)) (by kernel_rfl) ?_)
 refine wpAny_bind (m:=Builtin.Bytes.joinItems (.ref a)) (items (T:="list") ⟨o,ho,hc⟩ (wpAny_bind (wpAny_seqItems ho hd ?_)))
 refine bm_if_true (by decide) (Z_ (λx hx=>?_) λh1=>?_)
 ·have hx:=congrArg Array.toList hx
  cases ys with
  |nil=>exact(nomatch hx)
  |cons p r=>cases r with
   |cons=>exact(nomatch (List.cons.inj hx).2)
   |nil=>
    rw[<-(List.cons.inj hx).1]
    refine wpAny_bind (m:=typeOf (.bytes p.1 p.2)) (wpAny_typeOf (typeIs_bytes _ _ _) (bm_if_true (by decide) (wpAny_bind (wpAny_rule (wpAny_pure ?_)))))
    have:=h p.2 s.toks
    simpa using this
 ·refine wpAny_bind (Vq (λi b s'=>s'=s/\b=(((ys.take i).map (·.1)).toArray,(ys.take i).map λp=>(Value.bytes p.1 p.2,none))) ⟨rfl,rfl⟩ (λi b s' hi I=>?_) λb s' I=>?_)
  ·rw[I.1,I.2]
   have hi:i<ys.length:=by simpa using hi
   have hany:((List.map (λp:Array UInt8×Tok=>(Value.bytes p.1 p.2,(none:Option Value))) (List.take i ys)).any λx=>x.1.onHeap)=false:=
    List.any_eq_false.mpr λq hq=>Ac (List.mem_map.1 hq) λp _ e=>e▸Bool.false_ne_true
   have hget:(List.map (λp:Array UInt8×Tok=>Value.bytes p.1 p.2) ys).toArray.getD i Value.none=.bytes ys[i].1 ys[i].2:=by
    simp[Array.getD,hi]
   have ht:List.take (i+1) ys=List.take i ys++[ys[i]]:=by rw[List.take_add_one];simp[hi]
   refine wpAny_bind (wpAny_seqItems ho hd (bm_if_false hany (wpAny_bind (wpAny_holding (wpAny_of_eq (hget▸Y1) (wpAny_bind (wpAny_seqItems ho hd (bm_if_false (bne_self_eq_false _) (wpAny_pure ⟨_,rfl,rfl,?_⟩)))))))))
   rw[ht,List.map_append,List.map_append,List.push_toArray,hget]
   rfl
  ·rw[I.1,I.2,List.size_toArray,List.length_map,List.take_length]
   have hj:Builtin.Bytes.joined #[] (ys.map (·.1))=(ys.map (·.1)).foldl (·++·) #[]:=Wu _ _ _
   have hf:((ys.map (·.1)).toArray.foldl (·+·.size) ((#[]:Array UInt8).size*((ys.map (·.1)).toArray.size - 1)))=((ys.map (·.1)).foldl (·++·) #[]).size:=by
    rw[Wv,show(#[]:Array UInt8).size*((ys.map (·.1)).toArray.size - 1)=0 from Nat.zero_mul _,List.foldl_toArray' _ _ _ (by rfl)];rfl
   refine wpAny_bind (m:=Builtin.Bytes.payload (.bytes #[] t)) (wpAny_of_eq (a:=#[]) rfl (bm_if_false (KBy.tooLong_not (hf▸hz)) (wpAny_bind (m:=Builtin.Bytes.Kind.bytes.new _) ?_)))
   show wpAny _ _ (mkBytes (Builtin.Bytes.joined #[] (ys.map (·.1)))) _ _ _
   rw[hj]
   exact wpAny_mkBytes (wpAny_bind (wpAny_holding (wpAny_point (wpAny_bind (WA ys _ (wpAny_pure (h _ _))))))) (by rw[sizeLine_eq];exact hz)
end
end J
section
variable {C:Cx}{T:Tab}{D:Den}{A:Around}{g:Gh}{σ:St}{s:Shared}{env:PySem.Env}{k:Ck}
theorem MB:∀{l:List V}{xs:List Value}{r:List Nat},Ak C g.F g.φ l xs->JA l=some r->∃ys:List (Array UInt8×Tok),xs=ys.map (λp=>Value.bytes p.1 p.2)/\(∀b∈r,b<256)/\∀acc:Array UInt8,(ys.map (·.1)).foldl (·++·) acc=acc++(r.map Nat.toUInt8).toArray
 |[],xs,r,h,e=>s1 (show some []=some r from e)▸⟨[],h,(λ_ h=>nomatch h),λ_=>Array.append_empty.symm⟩
 |v::l,xs,r,h,e=>by
  refine BR h λx xs' h1 h2=>?_
  cases v<;>first|exact(ns e).elim|skip
  rename_i b
  refine Cs h1 λt _ hb=>?_
  refine CG (show(JA l).map (b++·)=some r from e) λr' e1=>CP (MB h2 e1) λys hy h3 h4=>?_
  refine⟨(_,t)::ys,congrArg _ hy,Pw hb h3,λacc=>(h4 _).trans ?_⟩
  rw[List.map_append,<-H4,Array.append_assoc]
theorem XQ {ap pos:Pos}{o arg:Expr}{l:List V}{r:List Nat}{v:V}{jD jF:St}(hn:Bw o=true)(hns:Ar arg=true)(hline:(ap.endLine==pos.line)=true)
  (h1:Wp C A (eval o env) (Aa C (Rv C) g s jD (.bytes [])) s)(h2:∀jE jC,Go g s jE jC->Ok C jE jD jC->Wp C A (eval arg env) (Aa C (Rv C) jE jC jF (.lst l)) jC)(e1:JA l=some r)(e2:Fy r=some v):
  Wp C A (eval (.Call (.Attribute o "join" ap) [arg] [] pos) env) (Aa C (Rv C) g s jF v) s:=by
 have hs:([arg]:List Expr).all Ar=true:=by simp[hns]
 refine E1 hn hs (by rfl) hline (h1.r λx jC jE G K rx pl=>?_)
 refine Cs rx λt _ _=>?_
 refine getMethod_builtin (typeIs_bytes _ _ _) FB.plainAttrs_bytes J.slot J.type (λ_ e=>nomatch e) ?_
 refine callWith_builtin (B0 (env:=env) (pos:=pos) hs) (wpAny_mono (Eu hs (Q:=λxs s'=>∃x jH,xs=[x]/\Go jE jC jH s'/\Ok C jH jF s'/\Rv C jH (.lst l) x) ?_) (λa' jG q=>?_) λ_ _ x=>x)
 ·rw[Bp hns]
  exact spliced_cons ((h2 jE jC G K).r λx jG jH G2 K2 rx=>spliced_nil ⟨x,jH,rfl,G2,K2,rx⟩)
 ·refine AU q λhkw q=>D8 q λx jH ex G2 K2 rx=>?_
  rw[hkw,ex]
  refine BJ rx λa xs _ ha hx=>CP (MB hx e1) λys hy hb hf=>?_
  have hf:=(hf #[]).trans Array.empty_append
  refine Ko e2 λhz=>?_
  refine wpAny_call_entry J.slot (typeIs_bytes _ _ _) J.entry (J.run (hy▸K2.isList ha) ?_ λt' k=>?_) (J.args _ _)
  ·rw[hf,List.size_toArray,List.length_map];exact hz
  ·rw[hf]
   exact⟨_,rfl,(Aa.tok K2 k (ES hz hb)).of (G.trans G2)⟩
end
end Mine.Internal
end
section
set_option maxRecDepth 10000
namespace Mine.Internal
open PySem PySem.Calls PyProof.Rows PySem.W
noncomputable abbrev JI:=PyProof.Rows.KeyKind
noncomputable abbrev Fe:JI where
 α:=Int
 blt a b:=decide (a<b)
 irrefl a:=by simp
 trans a b c h1 h2:=by simp only[decide_eq_true_eq] at*;exact((FI 0x120001120106110006) h1 h2)
 negTrans a b c h:=by simp only[decide_eq_true_eq] at*;omega
 total a b h1 h2:=by simp only[decide_eq_false_iff_not] at*;exact(Int.le_antisymm ((Fx 0x110000110005) (Int.not_lt.mp h2)) ((Fx 0x110000110005) (Int.not_lt.mp h1)))
 keyOf v:=match v with|.int i _=>some i|_=>none
 dflt:=0
theorem Td:Fe.OneLt:=by
 intro prog w A E s x y a b Q ha hb h
 cases x<;>simp only[Fe,reduceCtorEq,Option.some.injEq] at ha
 cases y<;>simp only[Fe,reduceCtorEq,Option.some.injEq] at hb
 cases ha;cases hb
 exact oneLt_int h
noncomputable abbrev IQ:JI where
 α:=List Nat
 blt a b:=decide (a<b)
 irrefl a:=by simpa using List.lt_irrefl a
 trans a b c h1 h2:=by simp only[decide_eq_true_eq] at*;exact List.lt_trans h1 h2
 negTrans a b c h:=by
  simp only[decide_eq_true_eq] at*
  by_cases hab:a<b
  ·exact .inl hab
  ·exact .inr (List.lt_of_le_of_lt (List.not_lt.mp hab) h)
 total a b h1 h2:=by simp only[decide_eq_false_iff_not] at*;exact List.le_antisymm (List.not_lt.mp h2) (List.not_lt.mp h1)
 keyOf v:=match v with|.bytes b _=>some (b.toList.map UInt8.toNat)|_=>none
 dflt:=[]
namespace J
theorem QV:PySem.Slot "bytes" "__lt__" "bytes.__lt__":=
 .of (owner:="bytes") (n:="__lt__") (by rw[typeLookup_type,builtinLookup_eq_fast];kernel_rfl) (by decide+kernel) (by decide+kernel) (by decide+kernel)
  (by first|exact .inl (by decide+kernel)|exact .inr (by decide+kernel)) (by rw[isSubtype_type];kernel_rfl)
theorem VB:entryFor table "bytes.__lt__"=some Builtin.«bytes.__lt__»:=entryFor_of_tree (by kernel_rfl)
theorem Yp (a b:Value):argsOk "bytes.__lt__" ⟨[a,b],[]⟩:=by skip;kernel_rfl
theorem VT:∀a b:List UInt8,Builtin.Bytes.holds "__lt__" (Builtin.Bytes.order a b)=decide (a.map UInt8.toNat<b.map UInt8.toNat):=by
 intro a b
 show(Builtin.Bytes.order a b==.lt)=_
 induction a generalizing b with
 |nil=>cases b<;>rfl
 |cons x a ih=>cases b with
  |nil=>rfl
  |cons y b=>
   unfold Builtin.Bytes.order
   simp only[List.map_cons]
   have hx:x<y↔x.toNat<y.toNat:=UInt8.lt_iff_toNat_lt
   have hy:y<x↔y.toNat<x.toNat:=UInt8.lt_iff_toNat_lt
   by_cases h1:x<y
   ·rw[if_pos h1]
    have:x.toNat::a.map UInt8.toNat<y.toNat::b.map UInt8.toNat:=List.cons_lt_cons_iff.mpr (.inl (hx.1 h1))
    rw[decide_eq_true this];rfl
   ·rw[if_neg h1]
    by_cases h2:x>y
    ·rw[if_pos h2]
     have:¬(x.toNat::a.map UInt8.toNat<y.toNat::b.map UInt8.toNat):=λq=>by
      have h2:=hy.1 h2
      rcases List.cons_lt_cons_iff.mp q with q|⟨q,_⟩<;>lia
     rw[decide_eq_false this];rfl
    ·rw[if_neg h2,ih]
     have e:x.toNat=y.toNat:=by
      have a1:¬x.toNat<y.toNat:=λq=>h1 (hx.2 q)
      have a2:¬y.toNat<x.toNat:=λq=>h2 (hy.2 q)
      exact(Nat.le_antisymm ((AR 0x111012111019) (Nat.not_lt.mp a2)) ((AR 0x111012111019) (Nat.not_lt.mp a1)))
     rw[Bool.eq_iff_iff]
     simp only[decide_eq_true_eq]
     rw[List.cons_lt_cons_iff]
     constructor
     ·exact λq=>.inr ⟨e,q⟩
     ·rintro(q|⟨_,q⟩)
      ·lia
      ·exact q
theorem YQ {prog:Program}{w:World}{A:Around}{E:Value->Shared->Prop}{s:Shared}{a b:Array UInt8}{t u:Tok}{Q:Value->Shared->Prop}(h:Q (.bool (decide (a.toList.map UInt8.toNat<b.toList.map UInt8.toNat))) s):
  wpAny (model prog w) A (call (.builtin "bytes.__lt__") [.bytes a t,.bytes b u]) Q E s:=by
 refine wpAny_call_entry QV (typeIs_bytes s a t) VB ?_ (Yp _ _)
 have e:Builtin.«bytes.__lt__» ⟨[.bytes a t,.bytes b u],[]⟩=(isInstance (.bytes b u) (.type "bytes")>>=λr=>if(!r)=true then(do rule "bytes.__lt__.declined";ret .notImplemented) else ret (.bool (Builtin.Bytes.holds "__lt__" (Builtin.Bytes.order a.toList b.toList)))):=by kernel_rfl
 rw[e]
 refine wpAny_bind (wpAny_of_eq KBy.isInstance_eq ?_)
 rw[if_neg (by decide),VT]
 exact wpAny_pure ⟨_,rfl,h⟩
theorem oneLt {prog:Program}{w:World}{A:Around}{E:Value->Shared->Prop}{s:Shared}{a b:Array UInt8}{t u:Tok}{Q:Bool->Shared->Prop}(h:Q (decide (a.toList.map UInt8.toNat<b.toList.map UInt8.toNat)) s):
  wpAny (model prog w) A (oneLt' true (.bytes a t) (.bytes b u)) Q E s:=by
 rw[oneLt'_eq]
 skip
 refine wpAny_bind (wpAny_cRoomFor_byValue rfl ?_)
 refine wpAny_bind (wpAny_callSpecialIfBound?_slot (typeIs_bytes s a t) QV (YQ ?_))
 exact wpAny_truthy_bool h
end J
theorem RV:IQ.OneLt:=by
 intro prog w A E s x y a b Q ha hb h
 cases x<;>simp only[IQ,reduceCtorEq,Option.some.injEq] at ha
 cases y<;>simp only[IQ,reduceCtorEq,Option.some.injEq] at hb
 cases ha;cases hb
 exact J.oneLt h
theorem RN {T:String}{vs:List Value}{jY jZ:Value}(h1:∀v∈jY::jZ::vs,firstOfTuple' v=pure none)(h2:∀v∈jY::jZ::vs,typeOf v=pure (.type T)):keyKind' (jY::jZ::vs).toArray=pure oneType':=by
 have m1:∀l:List Value,(∀v∈l,firstOfTuple' v=pure none)->l.mapM firstOfTuple'=pure (l.map λ_=>none):=by
  intro l
  induction l with
  |nil=>intro _;rfl
  |cons a l ih=>intro h;rw[List.mapM_cons,h a (List.mem_cons_self ..),ih λv hv=>h v (List.mem_cons_of_mem _ hv)];rfl
 have m2:∀l:List Value,(∀v∈l,typeOf v=pure (.type T))->l.mapM typeOf=pure (l.map λ_=>Value.type T):=by
  intro l
  induction l with
  |nil=>intro _;rfl
  |cons a l ih=>intro h;rw[List.mapM_cons,h a (List.mem_cons_self ..),ih λv hv=>h v (List.mem_cons_of_mem _ hv)];rfl
 rw[keyKind'_eq,List.mapM_toArray,m1 _ h1]
 simp only[map_pure,pure_bind]
 rw[if_neg (by simp),if_neg (by simp)]
 rw[oneTypeOnly'_eq,List.mapM_toArray,m2 _ h2]
 simp only[map_pure,pure_bind]
 have hall:((List.map (λ_=>Value.type T) (jY::jZ::vs)).toArray.all λx=>x==Value.type T)=true:=by
  simp only[List.all_toArray,List.all_map,List.all_eq_true]
  intro _ _
  show(Value.type T==Value.type T)=true
  exact beq_self_eq_true _
 have h0:(List.map (λ_=>Value.type T) (jY::jZ::vs)).toArray[0]?=some (Value.type T):=by rfl
 rw[h0]
 simp only[hall,if_true,pure_bind,Option.isSome_some]
section
variable {C:Cx}{T:Tab}{D:Den}{A:Around}{g:Gh}{σ:St}{s:Shared}
theorem Ak.perm {F:Fz}{φ:List Addr}{α:Type}{enc:α->V}{vs ws:List Value}(h:vs.Perm ws):∀{ks:List α},Ak C F φ (ks.map enc) vs->∃ks':List α,ks'.Perm ks/\Ak C F φ (ks'.map enc) ws:=by
 induction h with
 |nil=>intro ks h;exact⟨ks,.refl _,h⟩
 |cons x _ ih=>
  intro ks h
  cases ks with
  |nil=>have h:_=_:=h;cases h
  |cons k ks=>
   refine Co h λy r e h1 h2=>?_
   cases e
   refine Ac (ih h2) λks' p q=>?_
   exact⟨k::ks',p.cons k,⟨_,_,rfl,h1,q⟩⟩
 |swap x y l=>
  intro ks h
  match ks with
  |[]=>have h:_=_:=h;cases h
  |[k]=>obtain⟨_,_,e,_,rfl⟩:=h;cases e
  |k::k2::ks=>
   obtain⟨_,_,e,h1,_,_,rfl,h2,h3⟩:=h
   cases e
   exact⟨k2::k::ks,.swap ..,⟨_,_,rfl,h2,_,_,rfl,h1,h3⟩⟩
 |trans _ _ ih1 ih2=>
  intro ks h
  refine Ac (ih1 h) λks1 p1 q1=>?_
  refine Ac (ih2 q1) λks2 p2 q2=>?_
  exact⟨ks2,p2.trans p1,q2⟩
theorem Mz {κ:JI}:∀{a b:List κ.α},a.Perm b->a.Pairwise κ.kle->b.Pairwise κ.kle->a=b
 |[],b,p,_,_=>by rw[List.nil_perm.mp p]
 |x::a,[],p,_,_=>by cases List.perm_nil.mp p
 |x::a,y::b,p,ha,hb=>by
  obtain⟨ha1,ha2⟩:=List.pairwise_cons.mp ha
  refine AU (List.pairwise_cons.mp hb) λhb1 hb2=>?_
  have e:x=y:=by
   rcases List.mem_cons.1 (p.mem_iff.mp (List.mem_cons_self ..):x∈y::b) with h|h
   ·exact h
   ·rcases List.mem_cons.1 (p.mem_iff.mpr (List.mem_cons_self ..):y∈x::a) with h'|h'
    ·exact h'.symm
    ·exact PyProof.Rows.KeyOrd.kle_antisymm (ha1 _ h') (hb1 _ h)
  subst e
  rw[Mz (List.Perm.cons_inv p) ha2 hb2]
theorem Wd {κ:JI}{enc:κ.α->V}(henc:∀a x,Rv C g (enc a) x->κ.keyOf x=some a){ks k0:List κ.α}{vs:List Value}(hx:A5 C g (ks.map enc) vs)(h0:k0.Perm ks)(hs0:k0.Pairwise κ.kle){xs:Array Keyed}(hp:xs.Perm (pairsOf vs))(hs:SortedToK κ xs (pairsOf vs).size):
  A5 C g (k0.map enc) (xs.map (·.2)).toList:=by
 have hl:xs.toList.Perm (vs.zip vs):=by rw[<-pairsOf_toList];exact Array.perm_iff_toList_perm.mp hp
 have hmem:∀p,p∈xs.toList->p.1=p.2/\p.1∈vs:=λp hp'=>mem_zip_self (hl.mem_iff.mp hp')
 have hws:vs.Perm (xs.map (·.2)).toList:=by
  rw[Array.toList_map]
  have:=hl.symm.map (·.2)
  rwa [List.map_snd_zip (Nat.le_refl _)] at this
 refine Ac (Ak.perm hws hx) λks' p1 q1=>?_
 have hpw:ks'.Pairwise κ.kle:=by
  rw[List.pairwise_iff_getElem]
  intro i j hi hj hij
  have hlen:=q1.length
  simp only[Array.toList_map,List.length_map,Array.length_toList] at hlen
  have key:∀i (hi:i<ks'.length),KK κ xs i=ks'[i]:=λi hi=>by
   have hi':i<xs.size:=by exact((BM 0x10121311121a11101c) hlen hi)
   refine AA (Ak.getElem q1 (j:=i) (by simpa using hi)) λh3 r=>?_
   have r2:Rv C g (enc ks'[i]) xs[i].2:=by simpa using r
   have:=henc _ _ r2
   have hm:=(hmem xs[i] (by simp)).1
   unfold KK
   rw[Array.getElem?_eq_getElem hi']
   dsimp only
   rw[hm,this];rfl
  have h1:=hs i j (Nat.le_of_lt hij) (by rw[<-hp.size_eq];exact((BM 0x12101311121c11101a) hj hlen))
  rwa [key i hi,key j hj] at h1
 have:=Mz (p1.trans h0.symm) hpw hs0
 rw[<-this];exact q1
theorem N7 {prog:Program}{w:World}{A:Around}{E:Value->Shared->Prop}{s:Shared}{a:Addr}{vs:List Value}{n:Nat}{P:Fin->Shared->Prop}(ho:s.heap.get? a=some (seqObj "list" vs.toArray n))(h2:vs.length<2)
  (h:∀out:Array Value,out.toList=vs->P (.done (.ret .none)) {s with heap:=sortedHeap s.heap a vs out}):
  wpAny (model prog w) A (Builtin.«list.sort» ⟨[.ref a],[]⟩) P E s:=by
 rw[list_sort_plain]
 have ha:a<s.heap.objs.size:=Heap.lt_size ho
 refine wpAny_bind (listItems_at ho rfl ?_)
 refine wpAny_bind (listUpdate_at ho rfl ?_)
 obtain⟨e1,ho1⟩:∃e1,(s.heap.update a (Obj.mapSeq λ_=>#[])).get? a=some (seqObj "list" #[] e1):=⟨_,get?_update_seq ho (λ_=>#[])⟩
 refine wpAny_bind (seqEpoch_at ho1 rfl ?_)
 refine wpAny_bind (wpAny_newTuple ?_)
 refine wpAny_bind (wpAny_newList ?_)
 refine wpAny_holding ?_
 have ho6:(((s.heap.update a (Obj.mapSeq λ_=>#[])).push (seqObj "tuple" vs.toArray 0)).push (seqObj "list" #[] 0)).get? a=some (seqObj "list" #[] e1):=by
  rw[Heap.get?_push_ne _ _ _ (by rw[size_push',Heap.size_update];exact Nat.ne_of_lt (Nat.lt_succ_of_lt ha)),Heap.get?_push_ne _ _ _ (by rw[Heap.size_update];exact Nat.ne_of_lt ha)]
  exact ho1
 show wpAny (model prog w) A _ P E {s with heap:=((s.heap.update a (Obj.mapSeq λ_=>#[])).push (seqObj "tuple" vs.toArray 0)).push (seqObj "list" #[] 0)}
 dsimp only
 have h2':vs.toArray.size<2:=by exact h2
 rw[if_pos h2',if_pos h2']
 refine wpAny_bind (wpAny_pure ?_)
 rw[StateT.run_pure]
 refine wpAny_bind (wpAny_pure ?_)
 dsimp only
 refine wpAny_bind (seqEpoch_at ho6 rfl ?_)
 refine wpAny_bind (listUpdate_at ho6 rfl ?_ (hsz2:=by rw[Array.size_map];show(pairsOf vs).size<=_;rw[pairsOf_size,sizeLine_eq];exact((Ao 0x1121888888882301212201a) h2)))
 simp only[bne_self_eq_false,Bool.false_eq_true,if_false]
 refine wpAny_pure (h _ ?_)
 show(Array.map (·.2) (pairsOf vs)).toList=vs
 rw[Array.toList_map,pairsOf_toList,List.map_snd_zip (Nat.le_refl _)]
theorem KL (K:Ok C g σ s){x:Value}{l l':List V}(h64:l.length<64)(hn:l'.length=l.length)
  (hcol:∀{R:List Value->Shared->Prop},(∀h' tk ws,BA s.heap h'->A5 C g l ws->R ws {s with heap:=h',toks:=tk})->wpAny (model C.prog C.w) A.in1 (collect x) R (λ_ _=>False) s)
  (hsort:∀{s':Shared}{a n:Addr}{ws:List Value}{P:Fin->Shared->Prop}{A':Around},A5 C g l ws->s'.heap.get? a=some (seqObj "list" ws.toArray n)->(∀out:Array Value,A5 C g l' out.toList->P (.done (.ret .none)) {s' with heap:=sortedHeap s'.heap a ws out})->
   wpAny (model C.prog C.w) A' (Builtin.«list.sort» ⟨[.ref a],[]⟩) P (λ_ _=>False) s'):
  Wp C A (call (.builtin "sorted") [x]) (Aa C (Rv C) g s σ (.lst l')) s:=by
 refine Calls.call_function_entry kind_sorted plain_sorted entry_sorted (args_sorted1 _) ?_
 unfold Builtin.«sorted»
 refine wpAny_bind (m:=checkCount "sorted" 1 1 _) (wpAny_pure ?_)
 refine wpAny_bind (hcol λh' tk ws hle hw=>?_)
 have hwl:ws.length=l.length:=hw.length
 refine wpAny_bind (wpAny_newList ?_ (by rw[hwl,sizeLine_eq];exact((Ao 0x118888888820121188201a) h64)))
 have hz:(h'.push (seqObj "list" ws.toArray 0)).get? h'.objs.size=some (seqObj "list" ws.toArray 0):=Heap.get?_push_size _ rfl
 show wpAny _ _ _ _ _ {s with heap:=h'.push (seqObj "list" ws.toArray 0),toks:=tk}
 refine wpAny_bind (wpAny_holding (wpAny_call_entry slot_list_sort ⟨_,hz,rfl⟩ entry_list_sort (hsort hw hz λout ho=>⟨_,rfl,?_⟩) (args_list_sort _)))
 refine AA (sortedHeap_at (vs:=ws) (out:=out) hz) λn e=>?_
 have fr:¬As s h'.objs.size:=λ⟨o,q⟩=>absurd (Heap.lt_size (hle _ _ q)) (Nat.lt_irrefl _)
 have hle2:BA s.heap (sortedHeap (h'.push (seqObj "list" ws.toArray 0)) h'.objs.size ws out):=λb o q=>by
  have q:=hle _ _ q
  have hb:=Heap.lt_size q
  rw[sortedHeap_old (Nat.ne_of_lt hb) (by rw[size_push'];exact Nat.lt_succ_of_lt hb)]
  exact Heap.get?_push_of_some _ q
 have e:(sortedHeap (h'.push (seqObj "list" ws.toArray 0)) h'.objs.size ws out).get? h'.objs.size=some {cls:=.type "list",data:=.seq out.toList.toArray n,slots:=#[]}:=by
  rw[e]
 refine CP (Q1 (tk:=tk) K fr hle2 e) λg' G K' f=>?_
 refine wpAny_pure ⟨_,rfl,g',G,K',?_⟩
 exact⟨by rw[hn];simp only[line];exact((Ao 0x118888888820121188201a) h64),_,_,rfl,f,ho.go G⟩
theorem Ho {κ:JI}(hO:κ.OneLt){enc:κ.α->V}(henc:∀a x,Rv C g (enc a) x->κ.keyOf x=some a){TT:String}(hT:∀a x,Rv C g (enc a) x->firstOfTuple' x=pure none/\typeOf x=pure (.type TT))
  {ks k0:List κ.α}(h64:ks.length<64)(hp0:k0.Perm ks)(hs0:k0.Pairwise κ.kle){s':Shared}{a n:Addr}{ws:List Value}{P:Fin->Shared->Prop}{A':Around}(hw:A5 C g (ks.map enc) ws)
  (ho:s'.heap.get? a=some (seqObj "list" ws.toArray n))(h:∀out:Array Value,A5 C g (k0.map enc) out.toList->P (.done (.ret .none)) {s' with heap:=sortedHeap s'.heap a ws out}):
  wpAny (model C.prog C.w) A' (Builtin.«list.sort» ⟨[.ref a],[]⟩) P (λ_ _=>False) s':=by
 have hlen:=hw.length
 simp only[List.length_map] at hlen
 have all:∀v∈ws,∃k,Rv C g (enc k) v:=λv hv=>by
  obtain⟨i,hi,rfl⟩:=List.mem_iff_getElem.1 hv
  obtain⟨_,r⟩:=Ak.getElem hw (j:=i) (by simp;exact((BM 0x11121310121a11101b) hlen hi))
  exact⟨_,by simpa using r⟩
 refine list_sort_treeK hO ho (λp hp=>?_) (λjY jZ rest e=>?_) (by exact((AR 0x1188211310111b1188201a) h64 hlen)) λst' hp hs=>h _ (Wd henc hw hp0 hs0 hp hs)
 ·rw[pairsOf_toList] at hp
  refine AA (all _ (mem_zip_self hp).2) λk hk=>?_
  exact⟨k,henc _ _ hk⟩
 ·refine RN (T:=TT) (λv hv=>?_) (λv hv=>?_)<;>obtain⟨k,hk⟩:=all v (by rw[e];exact hv)
  ·exact(hT _ _ hk).1
  ·exact(hT _ _ hk).2
end
end Mine.Internal
end
section
set_option maxRecDepth 10000
namespace Mine.Internal
open PySem PySem.Calls PyProof.Rows PySem.W
theorem Pl:∀a b:List Nat,Ud a b=decide (a<b)
 |[],[]=>rfl
 |[],_::_=>rfl
 |_::_,[]=>rfl
 |x::a,y::b=>by
  unfold Ud
  have ih:=Pl a b
  rw[Bool.eq_iff_iff,decide_eq_true_eq,List.cons_lt_cons_iff]
  split
  ·rename_i h;have:=Nat.le_of_ble_eq_true h;exact⟨λ_=>.inl this,λ_=>rfl⟩
  ·rename_i h
   have h:¬x<y:=λq=>by rw[show x.blt y=true from Nat.ble_eq_true_of_le q] at h;exact(tf h).elim
   split
   ·rename_i h2
    have:=Nat.eq_of_beq_eq_true h2
    rw[ih,decide_eq_true_eq]
    refine⟨λq=>.inr ⟨this,q⟩,λq=>?_⟩
    rcases q with q|⟨_,q⟩
    ·lia
    ·exact q
   ·rename_i h2
    have:x≠y:=λq=>by subst q;rw[Nat.beq_refl] at h2;exact(tf h2).elim
    refine⟨λq=>absurd q Bool.false_ne_true,λq=>?_⟩
    rcases q with q|⟨q,_⟩
    ·exact absurd q h
    ·exact absurd q this
noncomputable abbrev VC (a b:List Nat):Prop:=decide (b<a)=false
theorem Mu (a:List Nat):∀l:List (List Nat),l.Pairwise VC->(Mj a l).Perm (a::l)/\(Mj a l).Pairwise VC
 |[],_=>⟨.refl _,by simp[Mj]⟩
 |b::l,h=>by
  obtain⟨h1,h2⟩:=List.pairwise_cons.mp h
  refine AU (Mu a l h2) λp q=>?_
  unfold Mj
  rw[Pl]
  split
  ·rename_i hlt
   have hlt:=of_decide_eq_true hlt
   refine⟨.refl _,List.pairwise_cons.mpr ⟨λc hc=>?_,h⟩⟩
   have hb:¬b<a:=λz=>List.lt_irrefl _ (List.lt_trans z hlt)
   rcases List.mem_cons.1 hc with rfl|hc
   ·exact decide_eq_false hb
   ·have:=of_decide_eq_false (h1 c hc)
    exact decide_eq_false λz=>this (List.lt_trans z hlt)
  ·rename_i hlt
   have hlt:=of_decide_eq_false hlt
   refine⟨(p.cons b).trans (.swap ..),List.pairwise_cons.mpr ⟨λc hc=>?_,q⟩⟩
   rcases List.mem_cons.1 (p.mem_iff.mp hc) with rfl|hc
   ·exact decide_eq_false hlt
   ·exact h1 c hc
theorem MW:∀l:List (List Nat),(Sd l).Perm l/\(Sd l).Pairwise VC
 |[]=>⟨.refl _,.nil⟩
 |a::l=>by
  obtain⟨p,q⟩:=MW l
  refine AU (Mu a _ q) λp2 q2=>?_
  exact⟨p2.trans (p.cons a),q2⟩
theorem QZ:∀l:List (List Nat),Tf l=true->l.Pairwise (·<·)
 |[],_=>.nil
 |[a],_=>by simp
 |a::b::l,h=>by
  simp only[Tf,Bool.and_eq_true,Pl,decide_eq_true_eq] at h
  have ih:=QZ (b::l) h.2
  refine List.pairwise_cons.mpr ⟨λc hc=>?_,ih⟩
  rcases List.mem_cons.1 hc with rfl|hc
  ·exact h.1
  ·exact List.lt_trans h.1 ((List.pairwise_cons.mp ih).1 c hc)
theorem Q3:∀l:List Int,RM l=true->l.Pairwise (·<·)
 |[],_=>.nil
 |[a],_=>by simp
 |a::b::l,h=>by
  simp only[RM,Bool.and_eq_true,decide_eq_true_eq] at h
  have ih:=Q3 (b::l) h.2
  refine List.pairwise_cons.mpr ⟨λc hc=>?_,ih⟩
  rcases List.mem_cons.1 hc with rfl|hc
  ·exact h.1
  ·exact Int.lt_trans h.1 ((List.pairwise_cons.mp ih).1 c hc)
theorem M0:∀{l:List V}{is:List Int},D5 l=some is->l=is.map V.int
 |[],is,h=>by cases h;rfl
 |v::l,is,h=>by
  cases v<;>first|cases h;done|skip
  rename_i i
  obtain⟨r,e,rfl⟩:=Option.map_eq_some_iff.1 (show(D5 l).map (i::·)=some is from h)
  rw[M0 e];rfl
theorem MO:∀{l:List V}{is:List (List Nat)},NK l=some is->l=is.map V.str
 |[],is,h=>by cases h;rfl
 |v::l,is,h=>by
  cases v<;>first|cases h;done|skip
  rename_i i
  obtain⟨r,e,rfl⟩:=Option.map_eq_some_iff.1 (show(NK l).map (i::·)=some is from h)
  rw[MO e];rfl
theorem MD:∀{l:List V}{is:List (List Nat)},NH l=some is->l=is.map V.bytes
 |[],is,h=>by cases h;rfl
 |v::l,is,h=>by
  cases v<;>first|cases h;done|skip
  rename_i i
  obtain⟨r,e,rfl⟩:=Option.map_eq_some_iff.1 (show(NH l).map (i::·)=some is from h)
  rw[MD e];rfl
section
variable {C:Cx}{T:Tab}{D:Den}{A:Around}{g:Gh}{σ:St}{s:Shared}
theorem XX {l:List Nat}(h:∀b∈l,b<256):(l.map Nat.toUInt8).map UInt8.toNat=l:=by
 rw[List.map_map]
 refine(List.map_congr_left λb hb=>?_).trans (List.map_id l)
 have:=h b hb
 simp[Nat.toUInt8,UInt8.toNat_ofNat']
 exact this
theorem ML {l:List V}{c:V}(e:NM l=some c):l.length<64/\∃l',c=.lst l'/\l'.length=l.length/\∀{s':Shared}{a n:Addr}{ws:List Value}{P:Fin->Shared->Prop}{A':Around},A5 C g l ws->s'.heap.get? a=some (seqObj "list" ws.toArray n)->
  (∀out:Array Value,A5 C g l' out.toList->P (.done (.ret .none)) {s' with heap:=sortedHeap s'.heap a ws out})->wpAny (model C.prog C.w) A' (Builtin.«list.sort» ⟨[.ref a],[]⟩) P (λ_ _=>False) s':=by
 unfold NM at e
 split at e
 ·exact(ns e).elim
 ·rename_i h64
  have h64:l.length<64:=Nat.le_of_ble_eq_true h64
  refine⟨h64,?_⟩
  split at e
  ·refine AZ e ?_
   exact⟨[],rfl,rfl,λhw ho h=>N7 ho (by rw[hw.length];decide) λout eo=>h out (by rw[eo];exact hw)⟩
  ·refine AZ e ?_
   exact⟨_,rfl,rfl,λhw ho h=>N7 ho (by rw[hw.length];simp) λout eo=>h out (by rw[eo];exact hw)⟩
  ·split at e
   ·rename_i is hi
    refine AJ e λhr e=>?_
    refine AZ e ?_
    obtain rfl:=M0 hi
    refine⟨_,rfl,rfl,λhw ho h=>Ho (κ:=Fe) (enc:=V.int) (TT:="int") Td (λa x r=>?_) (λa x r=>?_) (by rw[List.length_map] at h64;exact h64) (.refl _) ((Q3 _ hr).imp λ{a b} q=>?_) hw ho h⟩
    ·refine AK r λt=>?_;rfl
    ·refine AK r λt=>?_;exact⟨rfl,rfl⟩
    ·exact decide_eq_false (by exact(Int.not_lt.mpr ((Fx 0x110000110006) q)))
   ·split at e
    ·rename_i ss hi
     refine AZ e ?_
     obtain rfl:=MO hi
     obtain⟨p,q⟩:=MW ss
     refine⟨_,rfl,by simp[p.length_eq],λhw ho h=>Ho (κ:=PyProof.Rows.strKind) (enc:=V.str) (TT:="str") strKind_oneLt (λa x r=>?_) (λa x r=>?_) (by rw[List.length_map] at h64;exact h64) p q hw ho h⟩
     ·refine CL r λt _=>?_;rfl
     ·refine CL r λt _=>?_;exact⟨rfl,rfl⟩
    ·split at e
     ·rename_i ss hi
      refine AJ e λhr e=>?_
      refine AZ e ?_
      obtain rfl:=MD hi
      refine⟨_,rfl,rfl,λhw ho h=>Ho (κ:=IQ) (enc:=V.bytes) (TT:="bytes") RV (λa x r=>?_) (λa x r=>?_) (by rw[List.length_map] at h64;exact h64) (.refl _) ((QZ _ hr).imp λ{a b} q=>?_) hw ho h⟩
      ·refine Cs r λt _ hb=>?_
       show some (_:List Nat)=some a
       rw[XX hb]
      ·refine Cs r λt _ _=>?_;exact⟨rfl,rfl⟩
      ·exact decide_eq_false λz=>List.lt_irrefl _ (List.lt_trans z q)
     ·exact(ns e).elim
theorem MN:∀{l:List V}{xs:List Value},xs.length=l.length->(∀i x,xs[i]?=some x->∃u,nth l i=some u/\Rv C g u x)->A5 C g l xs
 |[],xs,h,_=>List.length_eq_zero_iff.mp h
 |v::l,[],h,_=>nomatch h
 |v::l,x::xs,h,hx=>Ac (hx 0 x rfl) λu hu r=>Hj (s1 (show some v=some u from hu)▸r) (MN (Nat.succ.inj h) λi y hy=>hx (i+1) y hy)
theorem Uc (K:Ok C g σ s)(hh:A.handled=none){vs:List V}{xs:List Value}{c:V}(hx:A5 C g vs xs)(e:LX vs=some c):Wp C A (call (BI.val .sorted) xs) (Aa C (Rv C) g s σ c) s:=by
 revert hx;refine Ej e λv e hx=>?_
 refine DO hx λx h=>?_
 cases v<;>first|exact(ns e).elim|skip
 ·obtain⟨h64,l',rfl,hn,hsort⟩:=ML (C:=C) (g:=g) e
  refine BJ h λa ys _ ha hy=>KL K h64 hn (λ{R} h=>?_) hsort
  have hsz:=hy.length
  refine collect_list (K.isList ha) (h _ s.toks ys (λb o q=>?_) hy) (by rw[hsz,sizeLine_eq];exact((Ao 0x118888888820121188201a) h64))
  rw[Heap.get?_update_ne _ _ _ _ (Nat.ne_of_lt (Heap.lt_size q))]
  exact Heap.get?_push_of_some _ q
 ·rename_i l
  obtain⟨h64,l',rfl,hn,hsort⟩:=ML (C:=C) (g:=g) e
  refine D8 h λa o q hs hF hd=>?_
  rw[q]
  refine KL K h64 hn (λ{R} h=>?_) hsort
  have hg:=K.fz _ _ hF
  rw[List.length_map] at h64
  have fin:∀{KT:Type} [DecidableEq KT] (knd:PySem.KeyKind C.prog C.w KT)(kvs:List (KT×Value)),o.IsDictOf knd kvs->kvs.length=l.length->
    (∀i v',(∃k x,kvs[i]?=some (k,x)/\knd.is k v'=true)->∃u,nth (l.map (·.1)) i=some u/\Rv C g u v')->wpAny (model C.prog C.w) A.in1 (collect (.ref a)) R (λ_ _=>False) s:=λknd kvs h1 h2 h3=>by
   refine AA ((Heap.dictOf_iff.mpr ⟨o,hg,h1⟩).dictAt) λep hm=>?_
   refine kdu_collect (kdl_dict (knd:=knd) (kvs:=kvs) (ep:=ep) hs) hh hm (by rw[h2,sizeLine_eq];exact((Ao 0x118888888820121188201a) h64)) λh' tk acc hk hacc=>h h' tk acc.toList hk (MN ?_ λi x hx=>?_)
   ·rw[Array.length_toList,hacc.1,h2,List.length_map]
   ·exact h3 i x (hacc.2 i x (by rw[<-Array.getElem?_toList];exact hx))
  rcases hd with⟨kvs,h1,h2⟩|⟨kvs,h1,h2⟩
  ·refine fin (PySem.strKind C.prog C.w) kvs h1 h2.length λi v' ⟨k,x,q1,q2⟩=>?_
   obtain⟨c,z1,z2,rfl⟩:=Jq h2 q1
   refine⟨_,z1,?_⟩
   skip
   refine⟨z2,?_⟩
   cases v'<;>simp[PySem.strKind,Value.isStrOf] at q2
   rw[q2];exact⟨_,rfl⟩
  ·refine fin (PySem.intKind C.prog C.w) kvs h1 h2.length λi v' ⟨k,x,q1,q2⟩=>?_
   refine⟨_,I4 h2 q1,?_⟩
   cases v'<;>simp[PySem.intKind,Value.isInt] at q2
   rw[q2];exact AW
end
end Mine.Internal
end
section
set_option maxRecDepth 10000
namespace Mine.Internal
open PySem PySem.Calls PyProof.Rows PySem.W
section
variable {C:Cx}{T:Tab}{D:Den}{A:Around}{g:Gh}{σ:St}{s:Shared}{env:PySem.Env}{k:Ck}
theorem PV {pos:Pos}{as:List Expr}{vs:List V}{c:V}{jD:St}(hh:A.handled=none)(hs:as.all Ar=true)
  (h1:Wp C A (spliced (backTo pos (starEach as env))) (Aa C (A5 C) g s jD vs) s)(e:LX vs=some c):
  Wp C A (callWith pos (BI.val .sorted) [] (backTo pos (starEach as env)) []) (Aa C (Rv C) g s jD c) s:=by
 have hp:=B0 (env:=env) (pos:=pos) hs
 exact callWith_builtin hp (wpAny_mono (Eu hs h1) (λa jC ⟨hkw,jE,G,K,r⟩=>by rw[hkw];exact(Uc K hh r e).mono λy jG q=>q.of G) λ_ _ x=>x)
theorem ak (P:Px C T)(K:Ok C g σ s)(H:Ah env k g.loc){b:BI}{x:Str}{np pos:Pos}{as:List Expr}{vs:List V}{c:V}{jD:St}(hh:A.handled=none)(hd:Az x=true)
  (hk:k.sc.names.lookup x=some .globalImplicit)(hg:P.bn x=some b)(hs:as.all Ar=true)
  (h1:Wp C A (spliced (backTo pos (starEach as env))) (Aa C (A5 C) g s jD vs) s)(e:Be b vs=some c):
  Wp C A (eval (.Call (.Name x np) as [] pos) env) (Aa C (Rv C) g s jD c) s:=by
 by_cases hb:b=.sorted
 ·subst hb
  exact wpAny_Call_NameR (P.name K H hd hk (.inr (P.bnok x _ hg)) (PV hh hs h1 e))
 ·exact dB P K H hh hb hd hk hg hs h1 e
noncomputable abbrev Bz (x y:Str)(iter:Expr)(p1 p2 p3 p4:Pos)(scope:Scope)(pos:Pos):Expr:=.ListComp (.Name y p1) [⟨.Name x p2,iter,[],0⟩,⟨.Name y p3,.Name x p4,[],0⟩] scope pos
theorem JX (x y:Str)(iter:Expr)(p1 p2 p3 p4:Pos)(scope:Scope)(pos:Pos)(it acc:Value)(env:PySem.Env):
  compTurn (Bz x y iter p1 p2 p3 p4 scope pos) 0 it acc env=(standAt iter.pos>>=λ_=>pyNext it>>=λr=>match r with
   |none=>pure (.done .next)
   |some v=>letOwnedTupleGo (.Name x p2) it v>>=λ_=>assign (.Name x p2) env v>>=λ_=>
    eval (.Name x p4) env>>=λu=>standAt p4>>=λ_=>foldedSetIterable (.Name x p4) env u>>=λu=>holding [u] (pyIter u)>>=λi=>runOwn (.compStart (Bz x y iter p1 p2 p3 p4 scope pos) 1 i acc env) env>>=λ_=>
     again (.compLoop (Bz x y iter p1 p2 p3 p4 scope pos) 0 it acc env)):=by rfl
theorem KN (x y:Str)(iter:Expr)(p1 p2 p3 p4:Pos)(scope:Scope)(pos:Pos)(it acc:Value)(env:PySem.Env):
  compTurn (Bz x y iter p1 p2 p3 p4 scope pos) 1 it acc env=(standAt p4>>=λ_=>pyNext it>>=λr=>match r with
   |none=>pure (.done .next)
   |some v=>letOwnedTupleGo (.Name y p3) it v>>=λ_=>assign (.Name y p3) env v>>=λ_=>
    (eval (.Name y p1) env>>=λx=>call (.builtin "list.append") [acc,x]>>=λ_=>pure ())>>=λ_=>
     again (.compLoop (Bz x y iter p1 p2 p3 p4 scope pos) 1 it acc env)):=by rfl
theorem Qr {prog:Program}{w:World}{R:Result->Shared->Prop}{x y:Str}{iter:Expr}{p1 p2 p3 p4:Pos}{scope:Scope}{pos:Pos}{it acc:Value}{env:PySem.Env}
  (h0:codeAny (model prog w) A (.compLoop (Bz x y iter p1 p2 p3 p4 scope pos) 1 it acc env) R s)
  (h:wpAny (model prog w) A (pyIter it) (λit' s'=>codeAny (model prog w) A (.compLoop (Bz x y iter p1 p2 p3 p4 scope pos) 1 it' acc env) R s') (notedBy (model prog w) A env λx s'=>R (.error x) s') s):
  codeAny (model prog w) A (.compStart (Bz x y iter p1 p2 p3 p4 scope pos) 1 it acc env) R s:=by
 refine codeAny_of_tree ?_
 show wpAny _ _ ((compStart (Bz x y iter p1 p2 p3 p4 scope pos) 1 it acc env).onRaise (λx=>do noteFrame x env;standAt theWindowsPlace)) _ _ s
 refine wpAny_notedAt ?_
 skip
 show wpAny _ _ (ask>>=_) _ _ s
 refine wpAny_bind (wpAny_askSetting (wpAny_ite ?_))
 split
 ·first
   |exact wpAny_bind (wpAny_pure (wpAny_pure (And.intro rfl h0)))
   |exact wpAny_pure (And.intro rfl h0)
 ·first
   |exact wpAny_bind (wpAny_rule (wpAny_bind (wpAny_standAt (wpAny_bind (wpAny_mono h (λit' s' h'=>wpAny_pure (And.intro rfl h')) λ_ _ x=>x)))))
   |(refine wpAny_bind (wpAny_rule ?_);show wpAny _ _ (standAt p4>>=_) _ _ s;exact wpAny_bind (wpAny_standAt (wpAny_bind (wpAny_mono h (λit' s' h'=>wpAny_pure (And.intro rfl h')) λ_ _ x=>x))))
theorem Cc.store {jJ:Gh}{jL:Shared}{L Dl I:Addr}{acc:List V}{ys:List Value}(X:Cc C jJ jL L Dl I jJ σ s acc ys){cenv:PySem.Env}(hL:cenv.locals=L)(hk:cenv.scope.kind=.function){x:Str}{p:Pos}(hx:cenv.kindOf x=some .local)(hdb:Az x=true){v:Value}
  {E:Value->Shared->Prop}{Q:Unit->Shared->Prop}(h:∀s',Cc C jJ jL L Dl I jJ σ s' acc ys->(∀b o,b≠L->s.heap.get? b=some o->s'.heap.get? b=some o)->
   (∀{p':Pos}{E':Value->Shared->Prop}{Q':Value->Shared->Prop}{A':Around},Q' v s'->wpAny (model C.prog C.w) A' (eval (.Name x p') cenv) Q' E' s')->Q () s'):wpAny (model C.prog C.w) A (assign (.Name x p) cenv v) Q E s:=by
 refine AA X.ns λm hm=>?_
 subst hL
 refine wpAny_assign_Name (wpAny_storeName_local hx hm (λh' hn' hs'=>?_) (by rw[hk];rfl))
 have kd:∀b o,b≠cenv.locals->s.heap.get? b=some o->h'.get? b=some o:=λb o nb e=>hs'.extBut b o nb e
 refine h _ ⟨X.go.raw_upd (s'':={s with heap:=h',toks:=s.toks+1}) X.ok X.rL X.z.nL hs',X.ok.raw_upd X.rL hs' rfl rfl,⟨X.rL.f,X.rL.o,let ⟨o,es,ep,z,_⟩:=hn';⟨o,z⟩⟩,X.rD.ext (s':={s with heap:=h',toks:=s.toks+1}) λo e=>kd _ o (Ne.symm X.z.LD) e,⟨_,hn'⟩,
  X.lst.ext (s':={s with heap:=h',toks:=s.toks+1}) λo e=>kd _ o (Ne.symm X.z.LD) e,X.acc,X.z⟩ kd λ{p'} {E'} {Q'} {A'} q=>?_
 exact wpAny_Name (wpAny_loadName_local hk hx hn' (by simp) q) (EG hdb)
theorem Yi {jJ:Gh}{jL:Shared}{L Dl I I2:Addr}{x y:Str}{iter:Expr}{p1 p2 p3 p4:Pos}{scope:Scope}{pos:Pos}{cenv:PySem.Env}{fp:List Addr}{jO:List V}{P:Nat->Value->Prop}{Ae:Nat->Heap->Prop}{R:Result->Shared->Prop}{jC:Shared}
  (hL:cenv.locals=L)(hk:cenv.scope.kind=.function)(hy:cenv.kindOf y=some .local)(hdb:Az y=true)
  (W:Walks C.prog C.w A I2 fp [I2] jO.length P Ae)(hpl:∀i h,Ae i h->Ex h I2)(hfp:∀b∈fp,b=I2\/∃o,jJ.F b=some o)(hP:∀i v',i<jO.length->P i v'->∃u,nth jO i=some u/\Rv C jJ u v')
  (n2L:I2≠L)(n2D:I2≠Dl)(n2:¬As jL I2):
  ∀(l:List V)(i:Nat)(s:Shared)(acc:List V)(ys:List Value),jO.drop i=l->i<=jO.length->Cc C jJ jL L Dl I jJ σ s acc ys->AX jJ s I2->Ae i s.heap->(acc++l).length<=line->ys.length<=acc.length->
   (∀s' ys',Cc C jJ jL L Dl I jJ σ s' (acc++l) ys'->(∀b o,b≠L->b≠Dl->b≠I2->s.heap.get? b=some o->s'.heap.get? b=some o)->R (.ok .next) s')->
   codeAny (model C.prog C.w) A (.compLoop (Bz x y iter p1 p2 p3 p4 scope pos) 1 (.ref I2) (.ref Dl) cenv) R s:=by
 intro l
 induction l with
 |nil=>
  intro i s acc ys hdr hin X rI hst hz hys hR
  refine codeAny_of_tree ?_
  show wpAny _ A ((compTurn (Bz x y iter p1 p2 p3 p4 scope pos) 1 (.ref I2) (.ref Dl) cenv).onRaise (λx=>do noteFrame x cenv;theTreesLotGoes x)) _ _ s
  refine wpAny_noted ?_
  rw[KN]
  refine wpAny_bind (wpAny_standAt (wpAny_bind (W.done s _ _ (drop_nil hdr hin▸hst) λh' tk hb=>wpAny_pure ?_)))
  have hb':∀b o,b≠I2->s.heap.get? b=some o->h'.get? b=some o:=λb o nb e=>hb b o (λq=>nb (List.mem_singleton.1 q)) e
  refine hR _ ys ?_ λb o _ _ nb e=>hb' b o nb e
  rw[List.append_nil]
  exact X.mv rI n2 (Ne.symm n2L) (Ne.symm n2D) hb' rfl rfl
 |cons v l ih=>
  intro i s acc ys hdr hin X rI hst hz hys hR
  refine BH (EU hdr) λhlt hvi hdr'=>?_
  refine codeAny_of_tree ?_
  show wpAny _ A ((compTurn (Bz x y iter p1 p2 p3 p4 scope pos) 1 (.ref I2) (.ref Dl) cenv).onRaise (λx=>do noteFrame x cenv;theTreesLotGoes x)) _ _ s
  refine wpAny_noted ?_
  rw[KN]
  refine wpAny_bind (wpAny_standAt (wpAny_bind (W.item i s _ _ hlt hst λz h' tk hPx hst1 hbI=>?_)))
  have hb':∀b o,b≠I2->s.heap.get? b=some o->h'.get? b=some o:=λb o nb e=>hbI b o (λq=>nb (List.mem_singleton.1 q)) e
  have P1:=hpl _ _ hst1
  refine Hl (id P1) λoI nI hoI _=>?_
  have X1:Cc C jJ jL L Dl I jJ σ {s with heap:=h',toks:=tk} acc ys:=X.mv rI n2 (Ne.symm n2L) (Ne.symm n2D) hb' rfl rfl
  refine Ac (hP i z hlt hPx) λu hu rv=>?_
  rw[s1 (hu.symm.trans hvi)] at rv
  refine wpAny_bind (GB P1 (wpAny_bind (X1.store hL hk hy hdb λjG X2 k2 hload=>?_)))
  refine wpAny_bind (wpAny_bind (hload (wpAny_bind ?_)))
  rw[List.append_cons] at hz hR
  refine Fh X2.lst (Nat.le_trans hys (Nat.le_trans (by rw[List.length_append,List.length_append];exact(AR 0x101120231133112102014)) hz)) λh5 hf5 hs5=>wpAny_pure (wpAny_pure ⟨rfl,?_⟩)
  have kd:=Cf hs5
  refine ih (i+1) {jG with heap:=h5} (acc++[v]) (ys++[z]) hdr' hlt (X2.push hs5 hf5 rv) ⟨rI.f,rI.o,oI,kd _ _ n2D (k2 _ _ n2L hoI)⟩ (W.frame _ _ _ hst1 λb hb o ho=>?_) hz (by rw[List.length_append,List.length_append];exact Nat.succ_le_succ hys) λs' ys' X' k'=>hR s' ys' X' λb o b1 b2 b3 e=>k' b o b1 b2 b3 (kd b o b2 (k2 b o b1 (hb' b o b3 e)))
  refine(hfp b hb).elim (λe=>?_) λe=>AA e λo' ho'=>?_
  ·rw[e] at ho ⊢;exact kd _ o n2D (k2 _ _ n2L ho)
  ·exact kd b o (λz=>sn (ho'.symm.trans (z▸X2.rD.f))) (k2 _ _ (λz=>sn (ho'.symm.trans (z▸X2.rL.f))) ho)
theorem Cc.along {jJ:Gh}{jL s':Shared}{L Dl I:Addr}{acc:List V}{ys:List Value}(X:Cc C jJ jL L Dl I jJ σ s acc ys)(G:Go jJ s jJ s')(K:Ok C jJ σ s'):Cc C jJ jL L Dl I jJ σ s' acc ys:=by
 refine Xn X.ns λm o es ep z1 z2=>?_
 refine Ac X.lst λoD e1 e2=>?_
 refine AU (G.raw X.rL z1) λRL q1=>?_
 refine AU (G.raw X.rD e1) λRD q2=>?_
 exact⟨X.go.trans G,K,RL,RD,⟨m,o,es,ep,q1,z2⟩,⟨oD,q2,e2⟩,X.acc,X.z⟩
theorem Wm (hh:A.handled=none){jJ:Gh}{jL:Shared}{L Dl I:Addr}{x y:Str}{iter:Expr}{p1 p2 p3 p4:Pos}{scope:Scope}{pos:Pos}{cenv:PySem.Env}{fp:List Addr}{jO:List V}{P:Nat->Value->Prop}{Ae:Nat->Heap->Prop}{R:Result->Shared->Prop}
  (hL:cenv.locals=L)(hk:cenv.scope.kind=.function)(hx:cenv.kindOf x=some .local)(hdx:Az x=true)(hy:cenv.kindOf y=some .local)(hdb:Az y=true)
  (W:Walks C.prog C.w A I fp [I] jO.length P Ae)(hpl:∀i h,Ae i h->Ex h I)(hfp:∀b∈fp,b=I\/∃o,jJ.F b=some o)(hP:∀i v',i<jO.length->P i v'->∃u,nth jO i=some u/\Rv C jJ u v'):
  ∀(l:List V)(i:Nat)(s:Shared)(acc q:List V)(ys:List Value),jO.drop i=l->E_ l=some q->i<=jO.length->Cc C jJ jL L Dl I jJ σ s acc ys->AX jJ s I->Ae i s.heap->(acc++q).length<=line->ys.length<=acc.length->
   (∀s' ys',Cc C jJ jL L Dl I jJ σ s' (acc++q) ys'->R (.ok .next) s')->
   codeAny (model C.prog C.w) A (.compLoop (Bz x y iter p1 p2 p3 p4 scope pos) 0 (.ref I) (.ref Dl) cenv) R s:=by
 intro l
 induction l with
 |nil=>
  intro i s acc q ys hdr hq hin X rI hst hz hys hR
  refine codeAny_of_tree ?_
  show wpAny _ A ((compTurn (Bz x y iter p1 p2 p3 p4 scope pos) 0 (.ref I) (.ref Dl) cenv).onRaise (λx=>do noteFrame x cenv;theTreesLotGoes x)) _ _ s
  refine wpAny_noted ?_
  rw[JX]
  refine wpAny_bind (wpAny_standAt (wpAny_bind (W.done s _ _ (drop_nil hdr hin▸hst) λh' tk hb=>wpAny_pure (hR _ ys ?_))))
  rw[<-s1 (show some []=some q from hq),List.append_nil]
  exact X.mv rI X.z.nI X.z.LI X.z.DI (λb o nb e=>hb b o (λq=>nb (List.mem_singleton.1 q)) e) rfl rfl
 |cons v l ih=>
  intro i s acc q ys hdr hq hin X rI hst hz hys hR
  refine BH (EU hdr) λhlt hvi hdr'=>?_
  cases v<;>first|exact(ns hq).elim|skip
  rename_i lu
  refine Ac (Option.map_eq_some_iff.1 (show(E_ l).map (lu++·)=some q from hq)) λq' hq' eq=>?_
  rw[<-eq,<-List.append_assoc] at hz hR
  refine codeAny_of_tree ?_
  show wpAny _ A ((compTurn (Bz x y iter p1 p2 p3 p4 scope pos) 0 (.ref I) (.ref Dl) cenv).onRaise (λx=>do noteFrame x cenv;theTreesLotGoes x)) _ _ s
  refine wpAny_noted ?_
  rw[JX]
  refine wpAny_bind (wpAny_standAt (wpAny_bind (W.item i s _ _ hlt hst λz h' tk hPx hst1 hbI=>?_)))
  have P1:=hpl _ _ hst1
  refine Hl (id P1) λoI nI hoI _=>?_
  have X1:Cc C jJ jL L Dl I jJ σ {s with heap:=h',toks:=tk} acc ys:=X.mv rI X.z.nI X.z.LI X.z.DI (λb o nb e=>hbI b o (λq=>nb (List.mem_singleton.1 q)) e) rfl rfl
  refine Ac (hP i z hlt hPx) λu hu rv=>?_
  rw[s1 (hu.symm.trans hvi)] at rv
  refine wpAny_bind (GB P1 (wpAny_bind (X1.store hL hk hx hdx λjG X2 k2 hload=>?_)))
  have eI:jG.heap.get? I=some oI:=k2 _ _ (Ne.symm X.z.LI) hoI
  refine wpAny_bind (hload (wpAny_bind (wpAny_standAt (wpAny_bind (wpAny_of_eq (EY (e:=.Name x p4) rfl z) (wpAny_bind (wpAny_holding ?_)))))))
  refine wpAny_mono (WY X2.ok hh rv (show A4 (.lst lu)=some lu from rfl)) (λit jK hsrc=>?_) λ_ _ x=>x.elim
  cases hsrc with|mk I2 fp2 P2 St2 W2 h02 hpl2 hfp2 hP2 hz2 RI2 nI2 G3 K3=>
  have eI3:=(G3.raw (a:=I) ⟨rI.f,rI.o,oI,eI⟩ eI).2
  refine wpAny_bind (wpAny_runOwn ?_)
  have loop:codeAny (model C.prog C.w) A (.compLoop (Bz x y iter p1 p2 p3 p4 scope pos) 1 (.ref I2) (.ref Dl) cenv) (λr s'=>match r with
    |.ok f=>wpAny (model C.prog C.w) A (again (.compLoop (Bz x y iter p1 p2 p3 p4 scope pos) 0 (.ref I) (.ref Dl) cenv)) (λfin s'=>match fin with|.done f=>R (.ok f) s'|.again c'=>c'.quiet=true/\codeAny (model C.prog C.w) A c' R s') (notedBy (model C.prog C.w) A cenv λe s'=>R (.error e) s') s'
    |.error e=>cameBackBy (model C.prog C.w) A cenv (notedBy (model C.prog C.w) A cenv λe s'=>R (.error e) s') e s') jK:=by
   refine Yi (jC:=jK) hL hk hy hdb W2 hpl2 hfp2 hP2 (λz=>nI2 (z▸X2.rL.lt)) (λz=>nI2 (z▸X2.rD.lt)) (λz=>nI2 (X2.go.live _ z)) lu 0 jK acc ys rfl (Nat.zero_le _) (X2.along G3 K3) RI2 h02 (Nat.le_trans (by rw[List.length_append (bs:=q')];exact Nat.le_add_right _ _) hz) hys λjR ys' X4 k4=>?_
   have eI4:jR.heap.get? I=some oI:=k4 _ _ (Ne.symm X.z.LI) (Ne.symm X.z.DI) (λz=>nI2 (z▸⟨_,eI⟩)) eI3
   refine wpAny_pure ⟨rfl,ih (i+1) jR (acc++lu) q' ys' hdr' hq' hlt X4 ⟨rI.f,rI.o,oI,eI4⟩ (W.frame _ _ _ hst1 λb hb o ho=>?_) hz (Nat.le_of_eq X4.acc.length) hR⟩
   refine(hfp b hb).elim (λe=>?_) λe=>AA e λo' ho'=>?_
   ·rw[e] at ho ⊢;exact eI4.trans (hoI.symm.trans ho)
   ·exact(X4.ok.fz _ _ ho').trans ((X1.ok.fz _ _ ho').symm.trans ho)
  exact Qr loop (W2.self 0 _ _ _ h02 loop)
structure FlatSt (scope:Scope)(x y:Str):Prop where
 kind:scope.kind=.function
 cell:∀y∈scope.names,y.2≠.cell
 nofree:∀y∈scope.names,y.2≠.free
 names:∀y∈scope.names,y.2=.local->scope.names.lookup y.1=some .local
 lx:scope.names.lookup x=some .local
 ly:scope.names.lookup y=some .local
theorem XH (hh:A.handled=none)(H:Ah env k g.loc){x y:Str}{iter:Expr}{p1 p2 p3 p4:Pos}{scope:Scope}{pos:Pos}(c:FlatSt scope x y)(hset:BE iter=false)(hdx:Az x=true)(hdb:Az y=true){v:V}{l q:List V}{jD:St}
  (h1:Wp C A (eval iter env) (Aa C (Rv C) g s jD v) s)(e1:A4 v=some l)(e2:E_ l=some q)(hz:q.length<=line):
  Wp C A (eval (Bz x y iter p1 p2 p3 p4 scope pos) env) (DP C g s jD q) s:=by
 rw[arm_eval_ListComp]
 have hcells:∀x,(x,NameKind.free)∈scope.names->∃c,env.cells.lookup x=some c:=λx hx=>absurd rfl (c.nofree _ hx)
 refine Ac (GJ hcells) λcl hclos hcl=>?_
 refine wpAny_comprehension_free (g:=⟨.Name x p2,iter,[],0⟩) (gs:=[⟨.Name y p3,.Name x p4,[],0⟩]) rfl (EY hset) hclos c.kind c.names (h1.r λxv jC jE G1 K1 rx=>(WY K1 hh rx e1).mono λit jG S=>?_)
 cases S with|mk I fp P Ae W h0 hpl hfp hP hzl RI nI G2 K2=>
 refine wpAny_newObj_type ?_
 refine wpAny_newFunctionEnv (λy hy=>c.cell y hy) (by intro y hy;simp at hy) (λjS hns hsb=>?_) c.kind
 generalize hs3:({jG with heap:=jG.heap.push {cls:=.type "list",data:=.seq ([]:List Value).toArray}}:Shared)=jK at hns hsb ⊢
 refine BH (Oj K2 G2 RI nI hs3 hns hsb (jK.toks+([]:List (Str×Value)).length)) λX RI4 k4=>?_
 have loop:codeAny (model C.prog C.w) A (.compLoop (Bz x y iter p1 p2 p3 p4 scope pos) 0 (.ref I) (.ref jG.heap.objs.size) {newEnv scope jK.heap.objs.size env.globals cl env.qual none .none (some env) env.builtins with scope:=relabel scope env})
   (compPost (model C.prog C.w) A (λ_ _=>False) none (DP C g s jD q) (.ref jG.heap.objs.size) jK.heap.objs.size) {jK with heap:=jS,toks:=jK.toks+([]:List (Str×Value)).length}:=by
  refine Wm (L:=jK.heap.objs.size) (jJ:=jE) (jL:=jC) (jO:=l) hh rfl ?_ ?_ hdx ?_ hdb W hpl hfp hP l 0 _ [] q [] rfl e2 (Nat.zero_le _) X
   RI4 ?_ hz (Nat.le_refl _) (λs' ys' X'=>?_)
  ·show(relabel scope env).kind=_
   exact c.kind
  ·exact lookup_relabel_local c.lx
  ·exact lookup_relabel_local c.ly
  ·exact W.frame _ _ _ h0 λb hb o ho=>k4 _ _ ho
  ·exact X'.ns.imp λm hm=>⟨hm,λh' hs=>X'.new G1 hz hs⟩
 exact codeAny_compStart_list loop (W.self 0 _ _ _ (W.frame _ _ _ h0 λb hb o ho=>k4 _ _ ho) loop)
end
end Mine.Internal
end
section
set_option maxRecDepth 10000
namespace Mine.Internal
open PySem PySem.Calls PyProof.Rows PySem.W
theorem NT {α:Type}{x k:Str}{v:α}{l:List (Str×α)}(h:x≠k):((k,v)::l).lookup x=l.lookup x:=by
 show(match x==k with|true=>some v|false=>l.lookup x)=_;rw[beq_eq_false_iff_ne.mpr h]
theorem Om {α:Type}{x:Str}{v:α}{l:List (Str×α)}:((x,v)::l).lookup x=some v:=by
 show(match x==x with|true=>some v|false=>l.lookup x)=_;rw[beq_self_eq_true]
theorem El:∀{ns:List Str}{vs:List Value},ns.Nodup->∀i (h:i<ns.length),(ns.zip vs).lookup ns[i]=vs[i]?
 |[],_,_,_,h=>absurd h (Nat.not_lt_zero _)
 |_::_,[],_,_,_=>rfl
 |n::ns,v::vs,_,0,_=>Om
 |n::ns,v::vs,hn,i+1,h=>(NT λ(e:ns[i]'(Nat.lt_of_succ_lt_succ h)=n)=>(List.nodup_cons.mp hn).1 (e▸List.getElem_mem (Nat.lt_of_succ_lt_succ h))).trans (El (List.nodup_cons.mp hn).2 i (Nat.lt_of_succ_lt_succ h))
theorem F2 {α:Type}{x:Str}:∀{l r:List (Str×α)},(l++r).lookup x=(l.lookup x).or (r.lookup x)
 |[],r=>rfl
 |(k,v)::l,r=>by
  by_cases h:x=k
  ·subst h;rw[List.cons_append,Om,Om];rfl
  ·rw[List.cons_append,NT h,NT h];exact F2
theorem JW {α β:Type}{M:Model}{A:Around}{E:Value->Shared->Prop}{s:Shared}{f:α->β->Sem (ForInStep β)}{step:β->α->β}(hf:∀x b,f x b=pure (.yield (step b x))){Q:β->Shared->Prop}:
  ∀{l:List α}{b:β},Q (l.foldl step b) s->wpAny M A (forIn l b f) Q E s
 |[],b,h=>by rw[List.forIn_nil];exact wpAny_pure h
 |x::l,b,h=>by
  rw[List.forIn_cons,hf]
  exact wpAny_bind (wpAny_pure (JW hf (by simpa using h)))
noncomputable def Dh (b:List (Str×Value))(x:Str×Value):List (Str×Value):=if(b.lookup x.1).isNone then b++[(x.1,x.2)] else b
theorem Qo {n k:Str}{v:Value}{b:List (Str×Value)}:(Dh b (k,v)).lookup n=(b.lookup n).or (([(k,v)]:List (Str×Value)).lookup n):=by
 unfold Dh
 split
 ·exact F2
 ·rename_i h
  cases hb:b.lookup n with
  |some w=>rfl
  |none=>
   have:n≠k:=λe=>h (by rw[<-e,hb];rfl)
   exact(NT (v:=v) (l:=[]) this).symm
theorem IA {n:Str}:∀{l b:List (Str×Value)},(l.foldl Dh b).lookup n=(b.lookup n).or (l.lookup n)
 |[],b=>Option.or_none.symm
 |(k,v)::l,b=>by
  rw[List.foldl_cons,IA,Qo,Option.or_assoc,<-F2];rfl
theorem GI {F:Str->Option Value}:∀{ns:List Str}{ws:List Value},ws.length=ns.length->(∀i (h:i<ns.length),F ns[i]=ws[i]?)->ns.filterMap (λn=>(F n).map (n,·))=ns.zip ws
 |[],ws,_,_=>rfl
 |n::ns,w::ws,h,hF=>by
  rw[List.filterMap_cons,show F n=some w from hF 0 (Nat.succ_pos _)]
  exact congrArg ((n,w)::·) (GI (Nat.succ.inj h) λi hi=>hF (i+1) (Nat.succ_lt_succ hi))
theorem UA {ns:List Str}{vals ds:List Value}(hn:ns.Nodup)(hl:vals.length<=ns.length)(hd1:ns.length<=vals.length+ds.length)(hd2:ds.length<=ns.length):
  ns.filterMap (λn=>((((ns.drop (ns.length - ds.length)).zip ds).foldl Dh (ns.zip vals)).lookup n).map (n,·))=ns.zip (vals++ds.drop (ds.length - (ns.length - vals.length))):=by
 refine GI (by rw[List.length_append,List.length_drop,Nat.sub_sub_self (Nat.sub_le_iff_le_add'.2 hd1),Nat.add_sub_of_le hl]) λi hi=>?_
 rw[IA,El hn i hi]
 by_cases hv:i<vals.length
 ·rw[List.getElem?_append_left hv,List.getElem?_eq_getElem hv];rfl
 ·rw[List.getElem?_eq_none (Nat.le_of_not_lt hv),List.getElem?_append_right (Nat.le_of_not_lt hv),List.getElem?_drop]
  have hj:i - (ns.length - ds.length)<(ns.drop (ns.length - ds.length)).length:=by rw[List.length_drop];exact((Ky 0x14121311131413c10131213b11101a) hi (Nat.sub_add_cancel ((Ky 0x13141210121413b131119121113019) hd1 (Nat.not_lt.mp hv) (Nat.sub_add_cancel hd2))) (Nat.sub_add_cancel ((Ky 0x10141210121413b13111910131a121113019) hd1 hi (Nat.not_lt.mp hv) (Nat.sub_add_cancel hd2))))
  have e:ns[i]=(ns.drop (ns.length - ds.length))[i - (ns.length - ds.length)]:=by
   rw[List.getElem_drop];congr 1;exact(Nat.le_antisymm ((BM 0x10111321212111013c) (Nat.sub_add_cancel ((Ky 0x13141210121413b131119121113019) hd1 (Nat.not_lt.mp hv) (Nat.sub_add_cancel hd2)))) ((BM 0x12101113212111013b) (Nat.sub_add_cancel ((Ky 0x13141210121413b131119121113019) hd1 (Nat.not_lt.mp hv) (Nat.sub_add_cancel hd2)))))
  show List.lookup ns[i] _=_
  rw[e,El (hn.sublist (List.drop_sublist ..)) _ hj]
  congr 1;exact(Nat.le_antisymm ((gr 0x161313012118171413b118151113c12171613c15141313c12111013b) (Nat.sub_add_cancel ((Ky 0x13141210121413b131119121113019) hd1 (Nat.not_lt.mp hv) (Nat.sub_add_cancel hd2))) (Nat.sub_add_cancel ((Ft 0x12131210111313b121113019) hd1 (Nat.sub_add_cancel hl))) (Nat.sub_add_cancel ((AR 0x111012111019) (Nat.not_lt.mp hv))) (Nat.sub_add_cancel hd2) (Nat.sub_add_cancel hl)) ((gr 0x161310132118121713b118141113c15171613c15141313b12111013b) (Nat.sub_add_cancel ((Ft 0x12131210111313b121113019) hd1 (Nat.sub_add_cancel hl))) (Nat.sub_add_cancel ((AR 0x111012111019) (Nat.not_lt.mp hv))) (Nat.sub_add_cancel ((Ky 0x13141210121413b131119121113019) hd1 (Nat.not_lt.mp hv) (Nat.sub_add_cancel hd2))) (Nat.sub_add_cancel hl) (Nat.sub_add_cancel hd2)))
theorem Pq {ns:List Str}{vals ds:List Value}(hn:ns.Nodup)(hl:vals.length<=ns.length)(hd1:ns.length<=vals.length+ds.length):(ns.take (ns.length - ds.length)).filter (λn=>((ns.zip vals).lookup n).isNone)=[]:=by
 rw[List.filter_eq_nil_iff]
 intro x hx
 refine AA (List.mem_iff_getElem.1 hx) λi h=>AA h λhi e=>?_
 rw[List.length_take] at hi
 rw[<-e,List.getElem_take,El hn i (Nat.lt_of_lt_of_le hi (Nat.min_le_right ..)),List.getElem?_eq_getElem (Nat.lt_of_lt_of_le (Nat.lt_of_lt_of_le hi (Nat.min_le_left ..)) (Nat.sub_le_iff_le_add.2 hd1))]
 exact Bool.false_ne_true
theorem Sr {s:Shared}{fd:FuncData}{ns:List Str}{vals ds:List Value}(h1:fd.params.posonlyargs=[])(h2:fd.params.args.map (·.arg)=ns)(h3:fd.params.vararg=none)(h4:fd.params.kwonlyargs=[])(h5:fd.params.kwarg=none)
  (hn:ns.Nodup)(hl:vals.length<=ns.length)(hd1:ns.length<=vals.length+ds.length)(hd2:ds.length<=ns.length)
  (hds:∀{M:Model}{A:Around}{E:Value->Shared->Prop}{Q:Option (Array Value)->Shared->Prop},(∀r:Option (Array Value),(r.getD #[]).toList=ds->Q r s)->wpAny M A (seqItems? fd.defaults) Q E s):
  BindsTo s fd ⟨vals,[]⟩ (ns.zip (vals++ds.drop (ds.length - (ns.length - vals.length)))):=by
 intro M A E Q q
 cases fd with|mk fn qn ps body sc gl cl df kd doc pm an co ct bl=>
 cases ps with|mk po ar va ko kwd kw dfl=>
 have h1:po=[]:=h1
 have h3:va=none:=h3
 have h4:ko=[]:=h4
 have h5:kw=none:=h5
 subst h1 h3 h4 h5
 have h2:ar.map (·.arg)=ns:=h2
 subst h2
 have hdrop:ds.drop (ds.length - (ar.map (·.arg)).length)=ds:=by rw[Nat.sub_eq_zero_of_le hd2];rfl
 have hm:=Pq hn hl hd1
 have hs:=UA hn hl hd1 hd2
 skip
 refine wpAny_bind (wpAny_pure (wpAny_bind (hds λr hr=>?_)))
 subst hr
 refine bm_if_false (c:=decide (vals.length>(ar.map (·.arg)).length)&&true) (by rw[decide_eq_false (Nat.not_lt.mpr hl)];rfl) ?_
 refine bm_if_false (c:=!((ar.map (·.arg)).take ((ar.map (·.arg)).length - (((r.getD #[]).toList).drop ((r.getD #[]).toList.length - (ar.map (·.arg)).length)).length) |>.filter λn=>(((ar.map (·.arg)).zip vals).lookup n).isNone).isEmpty) (by rw[hdrop,hm];rfl) ?_
 refine wpAny_bind (JW (step:=Dh) (λx b=>by cases x;unfold Dh;dsimp only;split<;>rfl) (wpAny_bind (wpAny_pure (bm_if_false rfl (wpAny_pure ?_)))))
 show Q (List.filterMap (λn=>(List.lookup n ((((ar.map (·.arg)).drop ((ar.map (·.arg)).length - ((r.getD #[]).toList.drop ((r.getD #[]).toList.length - (ar.map (·.arg)).length)).length)).zip ((r.getD #[]).toList.drop ((r.getD #[]).toList.length - (ar.map (·.arg)).length))).foldl Dh ((ar.map (·.arg)).zip vals))).map (n,·)) (ar.map (·.arg)++[])) s
 rw[List.append_nil,hdrop,hs]
 exact q
end Mine.Internal
end
section
set_option maxRecDepth 10000
namespace Mine.Internal
open PySem PySem.Calls PyProof.Rows PySem.W
noncomputable def Ay:Option Tag->Option Tag
 |some (.ho n)=>some (.ho n)
 |some (.hd n)=>some (.hd n)
 |_=>none
theorem RG {t:Option Tag}{n:Nat}(h:t=some (.ho n)):Ay t=some (.ho n):=by subst h;rfl
theorem Tp {t:Option Tag}{n:Nat}(h:t=some (.hd n)):Ay t=some (.hd n):=by subst h;rfl
theorem HD {t:Option Tag}{u:Tag}(h:Ay t=some u):t=some u:=by
 unfold Ay at h
 split at h<;>first|exact h|exact(ns h).elim
noncomputable def Gh.call (g:Gh)(L:Addr)(cs:List (Str×Addr))(loc:Nat->Option AN)(me:Option (Addr×Addr):=none):Gh:=
 {g with me:=me,Ω:=λb=>if b=L then some .dic else if cs.any (λp=>p.2==b&&cs.lookup p.1==some p.2) then some .cel else Ay (g.Ω b),loc:=loc}
noncomputable def Gh.back (g jH:Gh):Gh:=
 {jH with me:=g.me,loc:=g.loc,Ω:=λb=>match Ay (jH.Ω b) with|some t=>some t|none=>match Ay (g.Ω b) with|some _=>none|none=>g.Ω b}
section
variable {C:Cx}{g:Gh}{σ:St}{s:Shared}
theorem IV {cs:List (Str×Addr)}{b:Addr}(h:cs.any (λp=>p.2==b&&cs.lookup p.1==some p.2)=true):∃n,(n,b)∈cs/\cs.lookup n=some b:=by
 refine Ac (List.any_eq_true.1 h) λp hp e=>?_
 rw[Bool.and_eq_true,beq_iff_eq,beq_iff_eq] at e
 obtain⟨e1,e2⟩:=e
 subst e1
 exact⟨p.1,hp,e2⟩
theorem I5 {L:Addr}{cs:List (Str×Addr)}{jM:Nat->Option AN}{me:Option (Addr×Addr)}(fresh:s.heap.objs.size<=L)(above:∀n c,(n,c)∈cs->L<c){b:Addr}(hb:As s b):(g.call L cs jM me).Ω b=Ay (g.Ω b):=by
 refine AA hb λo e=>?_
 have hlt:=Nat.lt_of_lt_of_le (Heap.lt_size e) fresh
 have nC:cs.any (λp=>p.2==b&&cs.lookup p.1==some p.2)=false:=by
  rw[Bool.eq_false_iff]
  intro q
  refine Ac (IV q) λn hn _=>?_
  exact Nat.lt_asymm (above n b hn) hlt
 show(if b=L then some .dic else if cs.any (λp=>p.2==b&&cs.lookup p.1==some p.2) then some .cel else Ay (g.Ω b))=_
 rw[if_neg (Nat.ne_of_lt hlt),nC];rfl
theorem Ok.enter (K:Ok C g σ s){L:Addr}{cs:List (Str×Addr)}{m cm:Str->Option Value}{jC:Shared}(X:InCallC s L m cs cm jC){jM:Nat->Option AN}{r:Bf}{me:Option (Addr×Addr)}
  (hloc:∀i l,jM i=some l->(∃x,l=.d L x)\/(∃n c,l=.c c/\cs.lookup n=some c))(hinj:∀i j l,jM i=some l->jM j=some l->i=j)
  (hr:∀i sl l,nth r i=some sl->jM i=some l->sl=.un\/∃v y,sl=.val v/\l.has jC.heap y/\Rv C g v y)(hl:∀n c,cs.lookup n=some c->∃v,jC.heap.IsCell c v):Ok C (g.call L cs jM me) ⟨r,σ.h⟩ jC:=by
 obtain⟨⟨⟨h',tk,rfl⟩,hns,keep,fresh⟩,hcell,apart,above⟩:=X
 have nL:∀b,As s b->b≠L:=λb ⟨o,e⟩ z=>by subst z;exact absurd (Heap.lt_size e) (Nat.not_lt.mpr fresh)
 have nC:∀b,As s b->cs.any (λp=>p.2==b&&cs.lookup p.1==some p.2)=false:=λb ⟨o,e⟩=>by
  rw[Bool.eq_false_iff]
  intro q
  refine Ac (IV q) λn hn _=>?_
  exact Nat.lt_asymm (above n b hn) (Nat.lt_of_lt_of_le (Heap.lt_size e) fresh)
 have old:∀b,As s b->(g.call L cs jM me).Ω b=Ay (g.Ω b):=λb hb=>by
  show(if b=L then some .dic else if cs.any (λp=>p.2==b&&cs.lookup p.1==some p.2) then some .cel else Ay (g.Ω b))=_
  rw[if_neg (nL b hb),nC b hb];rfl
 have ownL:∀b t,g.Ω b=some t->As s b:=λb t e=>(K.own b t e).2
 have freshF:∀b,¬As s b->g.F b=none:=λb hb=>(K.none_of_fresh hb).1
 refine{
  fz:=λa o e=>keep _ _ (K.fz _ _ e)
  base:=K.base
  own:=λa t e=>?_
  len:=K.len
  cells:=λn c e=>BX.mono (g:=g) (h:=s.heap) (.refl _) (.refl _) (λa q=>⟨?_,λo z=>keep _ _ z⟩) (K.cells n c e)
  slots:=λi sl l e el=>?_
  locs:=λi l e=>?_
  inj:=hinj
  gens:=K.gens
  os:=K.os}
 ·have e:(if a=L then some Tag.dic else if cs.any (λp=>p.2==a&&cs.lookup p.1==some p.2) then some .cel else Ay (g.Ω a))=some t:=e
  by_cases q:a=L
  ·subst q
   refine WB hns λo _ _ z _=>?_
   exact⟨freshF a λz=>nL a z rfl,o,z⟩
  ·rw[if_neg q] at e
   by_cases q2:cs.any (λp=>p.2==a&&cs.lookup p.1==some p.2)=true
   ·refine Ac (IV q2) λn _ hn=>?_
    refine Hl (hl n a hn) λv o z _=>?_
    exact⟨freshF a λz=>(by rw[nC a z] at q2;exact(ft q2).elim),o,z⟩
   ·rw[if_neg q2] at e
    have e2:=HD e
    obtain⟨z1,o,z2⟩:=K.own a t e2
    exact⟨z1,o,keep _ _ z2⟩
 ·rcases q with q|q
  ·rw[old a (ownL a _ q),q];rfl
  ·rw[old a (ownL a _ q),q];rfl
 ·rcases hr i sl l e el with rfl|⟨v,y,rfl,h1,h2⟩
  ·trivial
  ·exact⟨y,h1,h2⟩
 ·rcases hloc i l e with⟨x,rfl⟩|⟨n,c,rfl,hc⟩
  ·exact⟨if_pos rfl,_,hns⟩
  ·have hm:=mem_of_lookup hc
   refine AA (hl n c hc) λv hv=>?_
   refine⟨?_,v,hv⟩
   show(if c=L then some Tag.dic else if cs.any (λp=>p.2==c&&cs.lookup p.1==some p.2) then some .cel else Ay (g.Ω c))=_
   have ha:cs.any (λp=>p.2==c&&cs.lookup p.1==some p.2)=true:=List.any_eq_true.2 ⟨(n,c),hm,by rw[Bool.and_eq_true,beq_iff_eq,beq_iff_eq];exact⟨rfl,hc⟩⟩
   rw[if_neg (Nat.ne_of_gt (above n c hm)),if_pos ha]
theorem Ok.leaveC (K:Ok C g σ s){jG:Shared}{jH:Gh}{jF:St}(hF:Bk g.F jH.F)(hφ:Dz g.φ jH.φ)(hlive:∀a,As s a->As jG a)
  (kp:∀b o,s.heap.get? b=some o->Ay (g.Ω b)=none->jG.heap.get? b=some o/\jH.F b=g.F b/\jH.Ω b=none)(jW:Ok C jH jF jG):
  Go g s (g.back jH) jG/\Ok C (g.back jH) ⟨σ.r,jF.h⟩ jG:=by
 have j1:∀b t,g.Ω b=some t->Ay (g.Ω b)=none->(g.back jH).Ω b=some t:=λb t e q=>by
  obtain⟨_,o,z⟩:=K.own b t e
  refine BH (kp b o z q) λ_ _ z3=>?_
  show(match Ay (jH.Ω b) with|some t=>some t|none=>match Ay (g.Ω b) with|some _=>none|none=>g.Ω b)=_
  rw[z3,q];exact e
 have j2:∀b t,Ay (jH.Ω b)=some t->(g.back jH).Ω b=some t:=λb t e=>by
  show(match Ay (jH.Ω b) with|some t=>some t|none=>_)=_
  rw[e]
 have locKeep:∀i l,g.loc i=some l->(∀v,l.has s.heap v->l.has jG.heap v)/\C_ (g.back jH) jG.heap l:=λi l e=>by
  have q:=K.locs i l e
  cases l with
  |d L' x=>
   obtain⟨q1,m',q2⟩:=q
   have n:∀m,s.heap.Ns L' m->jG.heap.Ns L' m:=λm ⟨o,es,ep,h,t⟩=>⟨o,es,ep,(kp L' o h (by rw[q1];rfl)).1,t⟩
   exact⟨λv ⟨m,a,b⟩=>⟨m,n m a,b⟩,j1 _ _ q1 (by rw[q1];rfl),m',n m' q2⟩
  |c c=>
   obtain⟨q1,v,q2⟩:=q
   have n:∀v,s.heap.IsCell c v->jG.heap.IsCell c v:=λv ⟨o,h,t⟩=>⟨o,(kp c o h (by rw[q1];rfl)).1,t⟩
   exact⟨λv h=>n _ h,j1 _ _ q1 (by rw[q1];rfl),v,n v q2⟩
 refine⟨⟨⟨hF,hφ,rfl,rfl,hlive,λa o e q=>?_⟩,λi l v e h=>(locKeep i l e).1 v h⟩,{
  fz:=jW.fz
  base:=jW.base
  own:=λa t e=>?_
  len:=jW.len
  cells:=λn c e=>BX.mono (g:=jH) (h:=jG.heap) (.refl _) (.refl _) (λa q=>⟨?_,λo z=>z⟩) (jW.cells n c e)
  slots:=λi sl l e el=>Bs.mono (g:=g) (h:=s.heap) hF hφ rfl (locKeep i l el).1 (λa q=>?_) (K.slots i sl l e el)
  locs:=λi l e=>(locKeep i l e).2
  inj:=K.inj
  gens:=jW.gens
  os:=jW.os}⟩
 ·obtain⟨z1,z2,z3⟩:=kp a o e (by rw[q];rfl)
  refine⟨z1,z2,?_⟩
  show(match Ay (jH.Ω a) with|some t=>some t|none=>match Ay (g.Ω a) with|some _=>none|none=>g.Ω a)=_
  rw[z3,q];rfl
 ·have e:(match Ay (jH.Ω a) with|some t=>some t|none=>match Ay (g.Ω a) with|some _=>none|none=>g.Ω a)=some t:=e
  cases h2:Ay (jH.Ω a) with
  |some u=>
   rw[h2] at e
   cases e
   exact jW.own a t (HD h2)
  |none=>
   rw[h2] at e
   cases h1:Ay (g.Ω a) with
   |some u=>rw[h1] at e;exact(ns e).elim
   |none=>
    rw[h1] at e
    have e:g.Ω a=some t:=e
    obtain⟨y1,o,y2⟩:=K.own a t e
    refine BH (kp a o y2 h1) λz1 z2 z3=>?_
    exact⟨z2.trans y1,o,z1⟩
 ·rcases q with q|q
  ·rw[j2 a _ (RG q),q]
  ·rw[j2 a _ (Tp q),q]
 ·rcases q with q|q<;>exact⟨by rw[j1 a _ q (by rw[q];rfl),q],λo z=>(kp a o z (by rw[q];rfl)).1⟩
theorem Ok.leave (K:Ok C g σ s){L:Addr}{cs:List (Str×Addr)}{m cm:Str->Option Value}{jC jG:Shared}(X:InCallC s L m cs cm jC){jM:Nat->Option AN}{me:Option (Addr×Addr)}{jH:Gh}{jF:St}(G:GoS (g.call L cs jM me) jC jH jG)(jW:Ok C jH jF jG):
  Go g s (g.back jH) jG/\Ok C (g.back jH) ⟨σ.r,jF.h⟩ jG:=by
 obtain⟨⟨⟨h',tk,rfl⟩,hns,keep,fresh⟩,hcell,apart,above⟩:=X
 refine K.leaveC G.F G.φ (λa ha=>G.live a (ha.imp (keep a))) (λb o e q=>G.keep b o (keep _ _ e) ?_) jW
 rw[I5 fresh (λn c h=>above n c h) ⟨o,e⟩];exact q
end
end Mine.Internal
end
section
set_option maxRecDepth 10000
namespace Mine.Internal
open PySem PySem.Calls PyProof.Rows PySem.W
noncomputable def Pm:Nat->List Str->List (Str×Nat)
 |_,[]=>[]
 |n,x::r=>(x,n)::Pm (n+1) r
theorem Qx {x:Str}:∀{names:List Str}{n i:Nat},lk x (Pm n names)=some i->n<=i/\names[i - n]?=some x
 |[],n,i,h=>by cases h
 |y::r,n,i,h=>by
  unfold Pm lk at h
  split at h
  ·rename_i e
   cases h
   have:=Lb e
   subst this
   exact⟨Nat.le_refl _,by simp⟩
  ·refine AU (Qx h) λh1 h2=>?_
   refine⟨by exact((AR 0x111012111120139) h1),?_⟩
   have:i - n=(i - (n+1))+1:=by exact(Nat.le_antisymm ((Ft 0x11231301212112113313c12111013b) (Nat.sub_add_cancel ((AR 0x111012111120139) h1)) (Nat.sub_add_cancel h1)) ((Ft 0x13112013212111313c12112113013b) (Nat.sub_add_cancel h1) (Nat.sub_add_cancel ((AR 0x111012111120139) h1))))
   rw[this,List.getElem?_cons_succ];exact h2
theorem C7 {x:Str}:∀{names:List (Str×NameKind)}{n:Nat}{acc:List (Str×Addr)},(x,NameKind.cell)∈names\/(acc.lookup x).isSome=true->((cellsFrom n names acc).lookup x).isSome=true
 |[],n,acc,h=>by
  rcases h with h|h
  ·cases h
  ·exact h
 |(y,kd)::r,n,acc,h=>by
  unfold cellsFrom
  split
  ·rename_i hk
   refine C7 ?_
   rcases h with h|h
   ·rcases List.mem_cons.1 h with e|h
    ·cases e
     right;simp[List.lookup_cons]
    ·exact .inl h
   ·right
    rw[List.lookup_cons]
    split
    ·rfl
    ·exact h
  ·rename_i hk
   refine C7 ?_
   rcases h with h|h
   ·rcases List.mem_cons.1 h with e|h
    ·cases e;exact absurd rfl hk
    ·exact .inl h
   ·exact .inr h
theorem Kx {kindOf:Str->Option NameKind}{x:Str}:∀{binds:List (Str×Value)}{m:Str->Option Value},x∉binds.map (·.1)->bindL kindOf binds m x=m x
 |[],m,_=>rfl
 |(n,v)::r,m,h=>by
  simp only[List.map_cons,List.mem_cons,not_or] at h
  rw[bindL,Kx h.2]
  split
  ·simp[h.1]
  ·rfl
theorem JJ {kindOf:Str->Option NameKind}{x:Str}:∀{binds:List (Str×Value)}{m:Str->Option Value},x∉binds.map (·.1)->bindC kindOf binds m x=m x
 |[],m,_=>rfl
 |(n,v)::r,m,h=>by
  simp only[List.map_cons,List.mem_cons,not_or] at h
  rw[bindC,JJ h.2]
  split
  ·rfl
  ·simp[h.1]
theorem MF {kindOf:Str->Option NameKind}{x:Str}{v:Value}:∀{binds:List (Str×Value)}{m:Str->Option Value},(binds.map (·.1)).Nodup->(x,v)∈binds->kindOf x=some .local->bindL kindOf binds m x=some v
 |(n,w)::r,m,hn,h,hk=>by
  simp only[List.map_cons,List.nodup_cons] at hn
  rw[bindL]
  rcases List.mem_cons.1 h with e|h
  ·cases e
   rw[if_pos hk,Kx hn.1];simp
  ·exact MF hn.2 h hk
theorem MU {kindOf:Str->Option NameKind}{x:Str}{v:Value}:∀{binds:List (Str×Value)}{m:Str->Option Value},(binds.map (·.1)).Nodup->(x,v)∈binds->kindOf x≠some .local->bindC kindOf binds m x=some v
 |(n,w)::r,m,hn,h,hk=>by
  simp only[List.map_cons,List.nodup_cons] at hn
  rw[bindC]
  rcases List.mem_cons.1 h with e|h
  ·cases e
   rw[if_neg hk,JJ hn.1];simp
  ·exact MU hn.2 h hk
noncomputable def CY (sc:Scope)(L:Addr)(cs:List (Str×Addr))(names:List Str)(i:Nat):Option AN:=match names[i]? with
 |none=>none
 |some x=>if sc.names.lookup x=some .local then some (.d L x) else(cs.lookup x).map AN.c
structure FnSt (C:Cx)(a:Addr)(f:Fn)(k:Ck)(body:List Stmt)(names:List Str)(o:Obj)(fd:FuncData):Prop where
 ho:C.base a=some o
 hd:o.data=.func fd
 sc:fd.scope=k.sc
 gl:fd.globals=mainGlobals
 bl:fd.builtins=builtinsNs
 body:fd.body=.stmts body
 clo:fd.closure=[]
 co:k.sc.isCoroutine=false
 gen:k.sc.isGenerator=false
 kind:k.sc.kind=.function
 code:∀h:Heap,Bk C.base h.get?->h.CodeRec fd.code fd.qualname
 p1:fd.params.posonlyargs=[]
 p2:fd.params.args.map (·.arg)=names.take f.np
 p3:fd.params.vararg=none
 p4:fd.params.kwonlyargs=[]
 p5:fd.params.kwarg=none
 nd:names.Nodup
 np:f.np<=names.length
 nv:names.length<=f.nv
 ndf:f.dfl.length<=f.np
 vars:k.vars=Pm 0 names
 n:k.n=names.length
 kinds:∀x∈names,k.sc.names.lookup x=some .local\/k.sc.names.lookup x=some .cell
 dfl:∃ds,Ak C C.base [] f.dfl ds/\∀s:Shared,Bk C.base s.heap.get?->∀{M:Model}{A:Around}{E:Value->Shared->Prop}{Q:Option (Array Value)->Shared->Prop},(∀r:Option (Array Value),(r.getD #[]).toList=ds->Q r s)->wpAny M A (seqItems? fd.defaults) Q E s
theorem Dw {sc:Scope}{L:Addr}{cs:List (Str×Addr)}{names:List Str}{i:Nat}{l:AN}(h:CY sc L cs names i=some l):
  ∃x,names[i]?=some x/\((sc.names.lookup x=some .local/\l=.d L x)\/(sc.names.lookup x≠some .local/\∃c,cs.lookup x=some c/\l=.c c)):=by
 unfold CY at h
 split at h
 ·exact(ns h).elim
 ·rename_i x e
  refine⟨x,e,?_⟩
  split at h
  ·rename_i q;refine AZ h ?_;exact .inl ⟨q,rfl⟩
  ·rename_i q
   obtain⟨c,h1,rfl⟩:=Option.map_eq_some_iff.1 h
   exact .inr ⟨q,c,h1,rfl⟩
theorem Ql {sc:Scope}{L:Addr}{cs:List (Str×Addr)}{names:List Str}(hn:names.Nodup)(hp:cs.Pairwise λx y=>x.2≠y.2){i j:Nat}{l:AN}(h:CY sc L cs names i=some l)(h':CY sc L cs names j=some l):i=j:=by
 refine Ac (Dw h) λx e q=>?_
 refine Ac (Dw h') λy e' q'=>?_
 have hxy:x=y:=by
  rcases q with⟨_,rfl⟩|⟨_,c,h1,rfl⟩<;>rcases q' with⟨_,q'⟩|⟨_,c',h1',q'⟩
  ·cases q';rfl
  ·cases q'
  ·cases q'
  ·cases q';exact name_of_addr hp (mem_of_lookup h1) (mem_of_lookup h1')
 subst hxy
 obtain⟨hi,ei⟩:=List.getElem?_eq_some_iff.1 e
 obtain⟨hj,ej⟩:=List.getElem?_eq_some_iff.1 e'
 exact(List.getElem_inj hn).1 (ei.trans ej.symm)
end Mine.Internal
end
section
set_option maxRecDepth 10000
namespace Mine.Internal
open PySem PySem.Calls PyProof.Rows PySem.W
section
variable {C:Cx}{T:Tab}(P:Px C T){D:Den}{A:Around}{g:Gh}{σ:St}{s:Shared}
theorem PC {α:Type}:∀{l:List α}{n:Nat},nth l n=l[n]?
 |[],_=>by simp[nth]
 |a::l,0=>by simp[nth]
 |a::l,n+1=>by simp[nth,PC (l:=l)]
theorem Iq {f:Fn}{as vs:List V}(h:D9 f as=some vs){xs:List Value}(hx:Ak C g.F g.φ as xs):xs.length<=f.np/\f.np<=xs.length+f.dfl.length/\vs.length=f.np/\
  ∀ds,Ak C g.F g.φ f.dfl ds->Ak C g.F g.φ vs (xs++ds.drop (f.dfl.length - (f.np - xs.length))):=by
 refine AJ h λq h=>Ab q λh1 h2=>?_
 have h1:=Nat.le_of_ble_eq_true h1
 have h2:=Nat.le_of_ble_eq_true h2
 rw[<-s1 h,hx.length]
 exact⟨h1,by exact((Ft 0x11121331213121013c111019) h2 (Nat.sub_add_cancel h1)),by rw[List.length_append,List.length_drop];exact(Nat.le_antisymm ((gp 0x15101413212131113c15141313b12111013b) (Nat.sub_add_cancel ((BM 0x12101210211412111013b) (Nat.sub_add_cancel h2))) (Nat.sub_add_cancel h1) (Nat.sub_add_cancel h2)) ((gp 0x10141351212131113b15141313c12111013c) (Nat.sub_add_cancel ((BM 0x12101210211412111013b) (Nat.sub_add_cancel h2))) (Nat.sub_add_cancel h1) (Nat.sub_add_cancel h2))),λds hd=>hx.append (Ak.drop _ hd)⟩
noncomputable def frame (vs:List V)(n:Nat):Bf:=vs.map Slot.val++List.replicate n .un
theorem Vf {vs:List V}{n i:Nat}{sl:Slot}(h:nth (frame vs n) i=some sl):(∃v,vs[i]?=some v/\sl=.val v)\/sl=.un:=by
 rw[PC] at h
 unfold frame at h
 by_cases hi:i<vs.length
 ·rw[List.getElem?_append_left (by simpa using hi),List.getElem?_map] at h
  obtain⟨v,h1,rfl⟩:=Option.map_eq_some_iff.1 h
  exact .inl ⟨v,h1,rfl⟩
 ·rw[List.getElem?_append_right (by simpa using hi)] at h
  have:=List.mem_of_getElem? h
  exact .inr (List.eq_of_mem_replicate this)
theorem Ob {vs:List V}{ys:List Value}{m:Nat}{h:Heap}{lc:Nat->Option AN}(hy:Ak C g.F g.φ vs ys)(hh:∀i l,lc i=some l->i<vs.length->∀y,ys[i]?=some y->l.has h y):∀i sl l,nth (frame vs m) i=some sl->lc i=some l->sl=.un\/∃v y,sl=.val v/\l.has h y/\Rv C g v y:=λi sl l e1 e2=>
 (Vf e1).elim (λh=>Ac h λv hv e=>.inr (Ac (hy.nth ((PC ..).trans hv)) λy hy1 hy2=>⟨v,y,e,hh i l e2 (List.getElem?_eq_some_iff.1 hv).1 y hy1,hy2⟩)) .inl
include P in
theorem Pj {a:Addr}{f:Fn}{k:Ck}{body:List Stmt}{names:List Str}{o:Obj}{fd:FuncData}(S:FnSt C a f k body names o fd)(hroom:A.depth<recursionLimit)(K:Ok C g σ s){xs:List Value}
  (h1:xs.length<=f.np)(h2:f.np<=xs.length+f.dfl.length){R:Result->Shared->Prop}
  (h:∀(env:PySem.Env)(L:Addr)(cs:List (Str×Addr))(m cm:Str->Option Value)(jC:Shared)(jM:Nat->Option AN)(ds:List Value),Ah env k jM->InCallC s L m cs cm jC->Ak C C.base [] f.dfl ds->
   (∀i l,jM i=some l->i<f.np->∀y,(xs++ds.drop (f.dfl.length - (f.np - xs.length)))[i]?=some y->l.has jC.heap y)->
   (∀i l,jM i=some l->(∃x,l=.d L x)\/(∃n c,l=.c c/\cs.lookup n=some c))->(∀i j l,jM i=some l->jM j=some l->i=j)->(∀n c,cs.lookup n=some c->∃v,jC.heap.IsCell c v)->
   (∀i,i<f.np->∃l,jM i=some l)->
   Wp C (A.deeper env) (execs body env) (λfl s'=>R (.ok (.ret (match fl with|.ret v=>v|_=>.none))) s') jC):
  codeAny (model C.prog C.w) A (.call (.ref a) ⟨xs,[]⟩) R s:=by
 have hbase:Bk C.base s.heap.get?:=λb o e=>K.fz _ _ (K.base _ _ e)
 refine Ac S.dfl λds hds hseq=>?_
 have hdl:=hds.length
 have hnl:(names.take f.np).length=f.np:=by rw[List.length_take];exact Nat.min_eq_left S.np
 have hnd:(names.take f.np).Nodup:=S.nd.sublist (List.take_sublist ..)
 refine codeAny_call_function hroom (hbase _ _ S.ho) S.hd (by rw[S.sc];exact S.co) (by rw[S.sc];exact S.gen) S.body (S.code _ hbase) ?_
 refine Sr (ds:=ds) S.p1 S.p2 S.p3 S.p4 S.p5 hnd (by rw[hnl];exact h1) (by rw[hnl,hdl];exact h2) (by rw[hnl,hdl];exact S.ndf) (hseq s hbase) _ _ _ _ ?_
 rw[hnl,hdl]
 generalize hys:xs++ds.drop (f.dfl.length - (f.np - xs.length))=ys
 have hyl:ys.length=f.np:=by
  rw[<-hys,List.length_append,List.length_drop,hdl,Nat.sub_sub_self (Nat.sub_le_iff_le_add'.2 h2),Nat.add_sub_of_le h1]
 have hbn:(((names.take f.np).zip ys).map (·.1))=names.take f.np:=List.map_fst_zip (Nat.le_of_eq (hnl.trans hyl.symm))
 rw[S.sc,S.gl,S.bl,S.clo]
 have hkinds:∀x∈(names.take f.np).zip ys,k.sc.names.lookup x.1=some .local\/(k.sc.names.lookup x.1=some .cell/\((cellsFrom (s.heap.objs.size+1) k.sc.names []).lookup x.1).isSome=true):=λx hx=>by
  have hm:x.1∈names.take f.np:=by rw[<-hbn];exact List.mem_map_of_mem hx
  rcases S.kinds x.1 (List.mem_of_mem_take hm) with q|q
  ·exact .inl q
  ·exact .inr ⟨q,C7 (.inl (mem_of_lookup q))⟩
 refine wpAny_newFunctionEnv_cells S.kind hkinds λenv he jC X=>?_
 refine⟨(P.nolim _ hbase).keeps X.toInCall.keep,codeAny_func ?_⟩
 have hkof:∀x,env.kindOf x=k.sc.names.lookup x:=λx=>by rw[he];rfl
 have hcs:env.cells=cellsFrom (s.heap.objs.size+1) k.sc.names []:=by rw[he];rfl
 have at_:∀i (hi:i<f.np) x,names[i]?=some x->∃y,ys[i]?=some y/\(x,y)∈(names.take f.np).zip ys:=λi hi x hxi=>by
  have hi2:i<ys.length:=by exact((BM 0x10121311121a11101c) hyl hi)
  refine⟨ys[i],List.getElem?_eq_getElem hi2,List.mem_of_getElem? (i:=i) ?_⟩
  rw[List.getElem?_zip_eq_some,List.getElem?_take_of_lt hi]
  exact⟨hxi,List.getElem?_eq_getElem hi2⟩
 have X2:InCallC s env.locals (bindL env.kindOf ((names.take f.np).zip ys) λ_=>none) env.cells (bindC env.kindOf ((names.take f.np).zip ys) λ_=>none) jC:=X
 have loc_:∀i x,names[i]?=some x->∃l,CY k.sc env.locals env.cells names i=some l/\((k.sc.names.lookup x=some .local/\l=.d env.locals x)\/(k.sc.names.lookup x=some .cell/\∃c,env.cells.lookup x=some c/\l=.c c)):=λi x ex=>by
  rcases S.kinds x (List.mem_of_getElem? ex) with q|q
  ·exact⟨.d env.locals x,by unfold CY;rw[ex];dsimp only;rw[if_pos q],.inl ⟨q,rfl⟩⟩
  ·refine AA (Option.isSome_iff_exists.1 (C7 (x:=x) (names:=k.sc.names) (n:=s.heap.objs.size+1) (acc:=[]) (.inl (mem_of_lookup q)))) λc hc=>?_
   exact⟨.c c,by unfold CY;rw[ex];dsimp only;rw[if_neg (by rw[q];decide),hcs,hc];rfl,.inr ⟨q,c,by rw[hcs];exact hc,rfl⟩⟩
 refine wpAny_mono (h env env.locals env.cells _ _ jC (CY k.sc env.locals env.cells names) ds ?_ X2 hds ?_ ?_ ?_ ?_ ?_) (λfl s' q=>q) λ_ _ x=>x.elim
 ·refine⟨by rw[he];rfl,S.kind,by rw[he];rfl,by rw[he];rfl,λx i hi=>?_,λi hi=>?_⟩
  ·rw[S.vars] at hi
   refine AU (Qx hi) λ_ ex=>?_
   rw[Nat.sub_zero] at ex
   refine Ac (loc_ i x ex) λl hl q=>?_
   rcases q with⟨q,rfl⟩|⟨q,c,hc,rfl⟩
   ·exact .inl ⟨q,hl⟩
   ·exact .inr ⟨.inl q,c,hc,hl⟩
  ·rw[S.n] at hi
   unfold CY
   rw[List.getElem?_eq_none hi]
 ·intro i l el hi y hy'
  rw[hys] at hy'
  refine Ac (Dw el) λx ex q=>?_
  refine Ac (at_ i hi x ex) λy2 ey hm=>?_
  have:y2=y:=Option.some.inj (ey.symm.trans hy')
  subst this
  rcases q with⟨q,rfl⟩|⟨q,c,hc,rfl⟩
  ·exact⟨_,X.toInCall.ns,MF (by rw[hbn];exact hnd) hm (by rw[hkof];exact q)⟩
  ·have:=X.cell x c hc
   rwa [MU (by rw[hbn];exact hnd) hm (by rw[hkof];exact q)] at this
 ·intro i l el
  refine Ac (Dw el) λx ex q=>?_
  rcases q with⟨q,rfl⟩|⟨q,c,hc,rfl⟩
  ·exact .inl ⟨x,rfl⟩
  ·exact .inr ⟨x,c,rfl,hc⟩
 ·exact λi j l e1 e2=>Ql S.nd X.apart e1 e2
 ·exact λn c hc=>⟨_,X.cell n c hc⟩
 ·intro i hi
  have hi2:i<names.length:=Nat.lt_of_lt_of_le hi S.np
  refine Ac (loc_ i _ (List.getElem?_eq_getElem hi2)) λl hl _=>?_
  exact⟨l,hl⟩
theorem Rm.deeper {n:Nat}(h:Rm A (n+1))(env:PySem.Env):Rm (A.deeper env) n:=by
 refine⟨h.hd,?_,?_⟩
 ·have:=h.dp;show A.depth+1+4*n+8<recursionLimit;exact((BM 0x12118211451201333312118212113450133a) this)
 ·have:=h.un;show A.units+3+64*n+64<cLine;exact((BM 0x12118821118853201333312118821211318850133a) this)
include P in
theorem VM {n:Nat}{a:Addr}{f:Fn}{k:Ck}{body:List Stmt}{names:List Str}{o:Obj}{fd:FuncData}(S:FnSt C a f k body names o fd)(hA:Rm A (n+1))(K:Ok C g σ s){as:List V}{xs:List Value}{v:V}{h':Hp}
  (hx:A5 C g as xs)(e:SE T D f as σ.h=some (v,h'))
  (hb:∀A' env g σ s fl,Rm A' n->Ah env k g.loc->Ok C g σ s->Bd T D f.body σ=some fl->Wp C A' (execs body env) (AQ C g s fl.2 fl.1) s):
  Wp C A (call (.ref a) xs) (Aa C (Rv C) g s ⟨σ.r,h'⟩ v) s:=by
 refine Ai e λvs ha e2=>Ac (Option.map_eq_some_iff.1 e2) λfl e3 e4=>Cz (Iq ha hx) λh1 h2 h3 h4=>?_
 refine wpAny_call (Pj P S (by have:=hA.dp;exact((BM 0x12101340211412118212113450133a) this)) K h1 h2 λenv L cs m cm jC jM ds H X hds hhas hloc hinj hl _=>?_)
 have K1:Ok C (g.call L cs jM) ⟨frame vs (f.nv - f.np),σ.h⟩ jC:=K.enter X hloc hinj (Ob (h4 ds (hds.mono K.base ⟨g.φ,rfl⟩)) λi l e hi y hy=>hhas i l e (h3▸hi) y hy) hl
 refine(hb _ env (g.call L cs jM) _ jC fl (hA.deeper env) H K1 e3).mono λfw jG q=>CP q λjH G K2 r=>AU (K.leave X G K2) λG3 K3=>?_
 cases fl with|mk fr jF=>
 cases fr with
 |nxt=>
  have r:fw=.next:=r
  subst r
  have e4:=Prod.mk.inj e4
  rw[<-e4.1,<-e4.2]
  exact⟨_,G3,K3,QF⟩
 |ret u=>
  refine Ac r λx q rx=>?_
  subst q
  have e4:=Prod.mk.inj e4
  rw[<-e4.1,<-e4.2]
  exact⟨_,G3,K3,rx⟩
end
end Mine.Internal
end
section
set_option maxRecDepth 10000
namespace Mine.Internal
open PySem PySem.Calls PyProof.Rows PySem.W
section
variable {C:Cx}{T:Tab}(P:Px C T){D:Den}{A:Around}{g:Gh}{σ:St}{s:Shared}
theorem Ok.slot0 {r:Bf}{h:Hp}{sl sl':Slot}(K:Ok C g ⟨sl::r,h⟩ s)(hs:∀l,g.loc 0=some l->Bs C g s.heap 0 l sl'):Ok C g ⟨sl'::r,h⟩ s:=by
 refine{K with slots:=λi x l e el=>?_}
 cases i with
 |zero=>refine AZ e ?_;exact hs l el
 |succ i=>exact K.slots (i+1) x l e el
theorem R9 {a:Addr}{rest:List Value}{n:Nat}(h:Rm A (n+1)):(A.under (.builtin "type.__call__" ⟨.ref a::rest,[]⟩)).handled=none/\(A.under (.builtin "type.__call__" ⟨.ref a::rest,[]⟩)).depth<=A.depth+1/\(A.under (.builtin "type.__call__" ⟨.ref a::rest,[]⟩)).units<=A.units+1:=by
 have hw:(Code.builtin "type.__call__" ⟨.ref a::rest,[]⟩).weight=1:=by
  unfold Code.weight
  have h1:(Code.builtin "type.__call__" ⟨.ref a::rest,[]⟩).frames=0:=by rfl
  have h2:(Code.builtin "type.__call__" ⟨.ref a::rest,[]⟩).isCreation=true:=rfl
  have h3:(Code.builtin "type.__call__" ⟨.ref a::rest,[]⟩).isGuard=false:=by show guardIds.contains "type.__call__"=false;decide+kernel
  have h4:(Code.builtin "type.__call__" ⟨.ref a::rest,[]⟩).isCaller=false:=by rfl
  rw[h1,h2,h3,h4];rfl
 have hu:(Code.builtin "type.__call__" ⟨.ref a::rest,[]⟩).cUnits=1:=by rfl
 refine⟨h.hd,?_,?_⟩
 ·show A.depth+_<=_;rw[hw];exact Nat.le_refl _
 ·show A.units+_<=_;rw[hu];exact Nat.le_refl _
theorem XS (K:Ok C g σ s){X Dd:Addr}(nX:¬As s X)(nD:¬As s Dd)(XD:X≠Dd){gf jH:Gh}{jC jG:Shared}{jF:St}{l0:AN}{c:Nat}{fs:List (Nat×V)}{z:Bool}
  (gfF:gf.F=g.F)(j8:gf.φ=g.φ)(gfm:gf.me=some (X,Dd))(gfo:∀b,As s b->gf.Ω b=Ay (g.Ω b))(keep:∀b o,s.heap.get? b=some o->jC.heap.get? b=some o)(G:GoS gf jC jH jG)(K7:Ok C jH jF jG)
  (hsl:nth jF.r 0=some (.uo c fs))(hl0:gf.loc 0=some l0):Aa C (Rv C) g s (Ka z σ.r jF.h c fs) (Oe z jF.h c fs) (.ref X) jG:=by
 obtain⟨a',d',m',q1,q2,q3,q4,q5,q6,q7⟩:=K7.slots 0 _ l0 hsl (by rw[G.loc];exact hl0)
 rw[G.me,gfm] at q7
 (have z1:=(p2 q7).1;have z2:=(p2 q7).2;clear q7;subst z1 z2)
 have kp:∀b o,s.heap.get? b=some o->Ay (g.Ω b)=none->jG.heap.get? b=some o/\jH.F b=g.F b/\jH.Ω b=none:=λb o e q=>by
  rw[<-gfF]
  exact G.keep b o (keep _ _ e) (by rw[gfo b ⟨o,e⟩];exact q)
 obtain⟨G8,K8⟩:=K.leaveC (jG:=jG) (jH:=jH) (jF:=jF) (by rw[<-gfF];exact G.F) (by rw[<-j8];exact G.φ) (λb ⟨o,e⟩=>G.live b ⟨o,keep _ _ e⟩) kp K7
 have back0:∀b,g.Ω b=none->Ay (jH.Ω b)=none->(g.back jH).Ω b=none:=λb e1 e2=>by
  show(match Ay (jH.Ω b) with|some t=>some t|none=>match Ay (g.Ω b) with|some _=>none|none=>g.Ω b)=none
  rw[e2,e1];rfl
 have RX8:AX (g.back jH) jG (X):=⟨(K7.own _ _ q2).1,back0 _ (K.none_of_fresh nX).2 (by rw[q2];rfl),(K7.own _ _ q2).2⟩
 have RD8:AX (g.back jH) jG Dd:=⟨(K7.own _ _ q3).1,back0 _ (K.none_of_fresh nD).2 (by rw[q3];rfl),(K7.own _ _ q3).2⟩
 have r6:Cw C (g.back jH).F (g.back jH).φ fs m':=q6
 cases z with
 |true=>
  obtain⟨⟨od,es,ep,e1,e2,e3,e4,e5⟩,own⟩:=q5
  refine AU (K8.chill RD8 e1) λK9 f9=>?_
  have G9:=G8.chill RD8 (o:=od) nD
  have RX9:AX ((g.back jH).frz Dd od) jG (X):=⟨by show(if X=Dd then some od else(g.back jH).F (X))=none;rw[if_neg XD];exact RX8.f,RX8.o,RX8.lt⟩
  refine AU (K9.chill RX9 q4) λK10 f10=>?_
  have hF9:Bk (g.back jH).F ((g.back jH).frz Dd od).F:=.frz (.inl RD8.f)
  have hF10:Bk ((g.back jH).frz Dd od).F (((g.back jH).frz Dd od).frz (X) (instObj (C.cad c) Dd)).F:=.frz (.inl RX9.f)
  refine⟨_,G9.chill RX9 nX,K10,?_⟩
  exact⟨_,_,m',rfl,f10,⟨⟨od,es,ep,hF10 _ _ f9,e2,e3,e4,e5⟩,own⟩,r6.mono (hF9.trans hF10) (.refl _)⟩
 |false=>
  have K9:=K8.cell (a:=X) (c:=.ins c fs) (j3:=λb=>if b=X then some (.ho jF.h.length) else if b=Dd then some (.hd jF.h.length) else(g.back jH).Ω b)
   (λb t e=>by
    rw[if_neg (λz=>by rw[z,RX8.o] at e;exact(ns e).elim),if_neg (λz=>by rw[z,RD8.o] at e;exact(ns e).elim)];exact e)
   (λb t e=>by
    by_cases z:b=X
    ·subst z;exact .inr RX8
    ·by_cases z2:b=Dd
     ·subst z2;exact .inr RD8
     ·simp only[if_neg z,if_neg z2] at e;exact .inl e)
   ⟨X,Dd,m',by have:=K8.len;simp only at this;rw[<-this];exact EL,if_pos rfl,by show(if Dd=X then _ else if Dd=Dd then some (Tag.hd jF.h.length) else _)=_;rw[if_neg (Ne.symm XD),if_pos rfl],q4,q5,Cw.mono (φ:=(g.back jH).φ) (.refl _) ⟨_,rfl⟩ r6⟩
  refine⟨_,G8.cell λb hb q=>?_,K9,?_⟩
  ·show(if b=X then _ else if b=Dd then _ else(g.back jH).Ω b)=none
   rw[if_neg (λq:b=X=>nX (q▸hb)),if_neg (λq:b=Dd=>nD (q▸hb))];exact q
  ·exact⟨_,by have:=K8.len;simp only at this;rw[<-this];exact EL,rfl⟩
include P in
theorem YY {n c:Nat}{z:Bool}{a:Addr}{f:Fn}{k:Ck}{body:List Stmt}{names:List Str}{o:Obj}{fd:FuncData}(S:FnSt C a f k body names o fd)(hnp:0<f.np){A2:Around}(hdp:A2.depth<recursionLimit)(hRm:∀env,Rm (A2.deeper env) n)(K:Ok C g σ s){s2:Shared}(K2:Ok C g σ s2){X Dd:Addr}
  (nX:¬As s X)(nD:¬As s Dd)(XD:X≠Dd)(RX2:AX g s2 X)(eX2:s2.heap.get? X=some (instObj (C.cad c) Dd))(RD2:AX g s2 Dd)(eD2:s2.heap.get? Dd=some emptyDict)(hk2:∀b o,s.heap.get? b=some o->s2.heap.get? b=some o)
  {vs:List V}{xs:List Value}{fs:List (Nat×V)}{jF:St}(h1:xs.length+1<=f.np)(h2:f.np<=xs.length+1+f.dfl.length)(h3:vs.length+1=f.np)(h4:∀ds,Ak C g.F g.φ f.dfl ds->Ak C g.F g.φ vs (xs++ds.drop (f.dfl.length - (f.np - (xs.length+1)))))
  (e3:Bd T D f.body ⟨Slot.uo c []::frame vs (f.nv - f.np),σ.h⟩=some (.nxt,jF))(hsl:nth jF.r 0=some (.uo c fs))
  (hb:∀A' env g σ s fl,Rm A' n->Ah env k g.loc->Ok C g σ s->Bd T D f.body σ=some fl->Wp C A' (execs body env) (AQ C g s fl.2 fl.1) s)
  {R:Result->Shared->Prop}(hR:∀s',Aa C (Rv C) g s (Ka z σ.r jF.h c fs) (Oe z jF.h c fs) (.ref X) s'->R (.ok (.ret .none)) s'):codeAny (model C.prog C.w) A2 (.call (.ref a) ⟨.ref X::xs,[]⟩) R s2:=by
 refine Pj P S hdp K2 (xs:=.ref X::xs) h1 h2 λenv L cs m cm jC jM ds H X2 hds hhas hloc hinj hl hpar=>?_
 have hfr:∀i sl l,nth (Slot.un::frame vs (f.nv - f.np)) i=some sl->jM i=some l->sl=.un\/∃v y,sl=.val v/\l.has jC.heap y/\Rv C g v y:=λi sl l e1 e2=>by
  cases i with
  |zero=>exact .inl (s1 e1).symm
  |succ i=>exact Ob (lc:=λi=>jM (i+1)) (h4 ds (hds.mono K.base ⟨g.φ,rfl⟩)) (λi l e hi y hy=>hhas (i+1) l e (h3▸Nat.succ_lt_succ hi) y hy) i sl l e1 e2
 generalize frame vs (f.nv - f.np)=fr0 at e3 hfr
 have K3:Ok C (g.call L cs jM (some (X,Dd))) ⟨Slot.un::fr0,σ.h⟩ jC:=K2.enter X2 hloc hinj hfr hl
 obtain⟨⟨⟨hp,tk,es1⟩,hns,keep,fresh⟩,hcell,apart,above⟩:=X2
 have rawc:∀b,AX g s2 b->AX (g.call L cs jM (some (X,Dd))) jC b:=λb R=>⟨R.f,by rw[I5 fresh above R.lt,R.o];rfl,R.lt.imp (keep b)⟩
 have RX3:=rawc _ RX2
 have RD3:=rawc _ RD2
 have eX3:=keep _ _ eX2
 have eD3:=keep _ _ eD2
 have K4:=K3.ow (t:=.uqd 0) RD3
 have RX4:AX ((g.call L cs jM (some (X,Dd))).ow Dd (.uqd 0)) jC (X):=⟨RX3.f,by show(if X=Dd then _ else _)=none;rw[if_neg XD];exact RX3.o,RX3.lt⟩
 have K5:=K4.ow (t:=.uq 0) RX4
 generalize hgf:((g.call L cs jM (some (X,Dd))).ow Dd (.uqd 0)).ow (X) (.uq 0)=gf at K5
 have gfF:gf.F=g.F:=by rw[<-hgf];rfl
 have j8:gf.φ=g.φ:=by rw[<-hgf];rfl
 have gfl:gf.loc=jM:=by rw[<-hgf];rfl
 have gfm:gf.me=some (X,Dd):=by rw[<-hgf];rfl
 have gfX:gf.Ω (X)=some (.uq 0):=by rw[<-hgf];exact if_pos rfl
 have gfD:gf.Ω Dd=some (.uqd 0):=by
  rw[<-hgf]
  show(if Dd=X then _ else if Dd=Dd then some (Tag.uqd 0) else _)=_
  rw[if_neg (Ne.symm XD),if_pos rfl]
 have gfo:∀b,As s b->gf.Ω b=Ay (g.Ω b):=λb hb=>by
  have hb2:As s2 b:=let ⟨o,e⟩:=hb;⟨o,hk2 b o e⟩
  rw[<-hgf]
  show(if b=X then _ else if b=Dd then _ else(g.call L cs jM (some (X,Dd))).Ω b)=_
  rw[if_neg (λq:b=X=>nX (q▸hb)),if_neg (λq:b=Dd=>nD (q▸hb))]
  exact I5 fresh above hb2
 have K6:Ok C gf ⟨Slot.uo c []::fr0,σ.h⟩ jC:=K5.slot0 λl hl0=>by
  rw[gfl] at hl0
  refine⟨X,Dd,λ_=>none,hhas 0 l hl0 hnp _ rfl,gfX,gfD,eX3,⟨⟨emptyDict,#[],0,eD3,rfl,λe he=>by cases he;contradiction,λ_=>rfl,Nat.le_refl _⟩,λ_ _ e=>by exact(ns e).elim⟩,trivial,gfm⟩
 refine(hb (A2.deeper env) env gf _ jC _ (hRm env) (by rw[gfl];exact H) K6 e3).mono λfw jG ⟨jH,G,K7,r⟩=>?_
 have r:fw=.next:=r
 subst r
 refine hR _ ?_
 exact AA (hpar 0 hnp) λl0 hl0=>XS K nX nD XD gfF j8 gfm gfo (λb o e=>keep _ _ (hk2 b o e)) G K7 hsl (gfl▸hl0)
include P in
theorem TQ {n c:Nat}{z:Bool}{a:Addr}{f:Fn}{k:Ck}{body:List Stmt}{names:List Str}{o:Obj}{fd:FuncData}(S:FnSt C a f k body names o fd)(hnp:0<f.np)(hdf:f.dfl.length<=f.np - 1)(hmk:makesIn P.K (C.cad c)=true)
  (hin:findIn P.K (.ref (C.cad c)) "__init__"=some (some (.ref a)))(htf:typeIn P.K (.ref a)=some (.type "function"))(hA:Rm A (n+1))(K:Ok C g σ s){as:List V}{xs:List Value}{fs:List (Nat×V)}{h':Hp}
  (hx:A5 C g as xs)(e:O7 T D c f as σ.h=some (fs,h'))
  (hb:∀A' env g σ s fl,Rm A' n->Ah env k g.loc->Ok C g σ s->Bd T D f.body σ=some fl->Wp C A' (execs body env) (AQ C g s fl.2 fl.1) s):
  Wp C A (call (.ref (C.cad c)) xs) (Aa C (Rv C) g s (Ka z σ.r h' c fs) (Oe z h' c fs)) s:=by
 refine Ai e λvs ha e2=>Ai e2 λfl e3 e4=>Cz (Iq ha hx) λh1 h2 h3 h4=>?_
 have X:=P.kIn K
 cases fl with|mk fr jF=>
 dsimp only at e4 h1 h2 h3 h4
 split at e4
 ·rename_i c' fs' hsl
  have hc:c'=c/\fs'=fs/\jF.h=h':=by
   split at e4
   ·rename_i q;have e4:=p2 e4;exact⟨Nat.eq_of_beq_eq_true q,e4.1,e4.2⟩
   ·exact(ns e4).elim
  obtain⟨rfl,rfl,rfl⟩:=hc
  refine wpAny_call ?_
  obtain⟨hh,gg,d,t,os⟩:=s
  refine make_core (makes_of X hmk) (looks_findIn X hin) (λself=>bind_fn X self htf) (.inl rfl) ?_
  refine BH (R9 (a:=C.cad c') (rest:=xs) hA) λu1 u2 u3=>?_
  generalize A.under (.builtin "type.__call__" ⟨.ref (C.cad c')::xs,[]⟩)=A2 at u1 u2 u3
  refine Cz (K.push (s':=(⟨hh.push emptyDict,gg,d,t,os⟩:Shared)) (o:=emptyDict) rfl rfl rfl rfl) λK1 G1 RD1 eD1=>?_
  refine Cz (K1.push (s':=(⟨(hh.push emptyDict).push (instObj (C.cad c') hh.objs.size),gg,d,t,os⟩:Shared)) (o:=instObj (C.cad c') hh.objs.size) rfl rfl rfl rfl) λK2 G2 RX2 eX2=>?_
  have hsz:(hh.push emptyDict).objs.size=hh.objs.size+1:=Heap.size_push ..
  dsimp only at RD1 eD1 RX2 eX2
  rw[hsz] at RX2 eX2
  refine AU (G2.raw RD1 eD1) λRD2 eD2=>?_
  have hA1:=hA.dp;have hA2:=hA.un
  refine YY P S hnp (by exact((Ft 0x13101340221413118212213451133a112113019) u2 hA1)) (λenv=>⟨u1,?_,?_⟩) K K2 (Bg (Nat.le_succ _)) (Bg (Nat.le_refl _)) (Nat.succ_ne_self _) RX2 eX2 RD2 eD2 (λb o e=>Heap.get?_push_of_some _ (Heap.get?_push_of_some _ e)) (vs:=vs) (by exact((BM 0x12112013212112113b111019) h1 (Nat.sub_add_cancel ((Ao 0x10112210102a) hnp)))) (by exact((Ft 0x12112113331213112013c121113019) h2 (Nat.sub_add_cancel ((Ao 0x10112210102a) hnp)))) (by exact(Nat.le_antisymm ((BM 0x12112013212112113b11101b) h3 (Nat.sub_add_cancel ((Ao 0x10112210102a) hnp))) ((BM 0x11201321212112113c11101c) h3 (Nat.sub_add_cancel ((Ao 0x10112210102a) hnp))))) (λds hd=>?_) e3 hsl hb (λs' q=>⟨rfl,q⟩)
  ·show A2.depth+1+4*n+8<recursionLimit;exact((Ft 0x13118221451201333313118212213451133a112113019) u2 hA1)
  ·show A2.units+3+64*n+64<cLine;exact((Ft 0x13118822118853201333313118821221318851133a112113019) u3 hA2)
  ·rw[Nat.add_comm xs.length 1,<-Nat.sub_sub];exact h4 ds hd
 ·exact(ns e4).elim
end
end Mine.Internal
end
section
set_option maxRecDepth 10000
namespace Mine.Internal
open PySem PySem.Calls PyProof.Rows PySem.W
noncomputable def wo {α:Type}(o:Option α)(f:α->Bool):Bool:=match o with
 |some a=>f a
 |none=>false
theorem BV {α:Type}{o:Option α}{f:α->Bool}(h:wo o f=true):∃a,o=some a/\f a=true:=by
 cases o with
 |none=>exact(ft h).elim
 |some a=>exact⟨a,rfl,h⟩
structure Inf where
 p:Pos
 x:Str
 c:Const
 n:Nat
 sc:Scope
 l:List Expr
noncomputable def p0:Pos:=⟨0,0,0,0⟩
noncomputable def i0 (p:Pos)(l:List Expr):Inf:=⟨p,⟨#[]⟩,.none,0,⟨.function,[],false,false,[]⟩,l⟩
noncomputable def e0 (o:Option Expr):Expr:=o.getD (.List [] p0)
noncomputable def Af:Expr->Inf
 |.BoolOp _ l p=>i0 p l
 |.BinOp a _ b p=>i0 p [a,b]
 |.UnaryOp _ a p=>i0 p [a]
 |.IfExp t a b p=>i0 p [t,a,b]
 |.Dict ks vs p=>i0 p ((ks.zip vs).flatMap λq=>[e0 q.1,q.2])
 |.ListComp e gs sc p=>{i0 p (e::gs.flatMap λg=>g.target::g.iter::g.ifs) with sc:=sc}
 |.Compare a _ l p=>i0 p (a::l)
 |.Call f l _ p=>i0 p (f::l)
 |.Constant c n p=>{i0 p [] with c:=c,n:=n}
 |.Attribute a _ p=>i0 p [a]
 |.Subscript a i p=>i0 p [a,i]
 |.Name x p=>{i0 p [] with x:=x}
 |.List l p=>i0 p l
 |.Tuple l n p=>{i0 p l with n:=n}
 |.Slice a b c p=>i0 p [e0 a,e0 b,e0 c]
 |_=>i0 p0 []
noncomputable def hd (l:List Expr):Expr:=e0 l.head?
noncomputable def Ad (o:Expr)(n:Nat):Expr:=e0 (nth (Af o).l n)
structure Nm where
 gl:Str->Option Gl
 bn:Str->Option BI
 fld:Nat->Str
 mnm:Nat->Str
noncomputable def Px.nm {C:Cx}{T:Tab}(P:Px C T):Nm:=⟨P.gl,P.bn,C.fld,P.mnm⟩
noncomputable def ON (x:Str):Bool:=!E3 x.cps.toList [95,95,100,101,98,117,103,95,95]&&!E3 x.cps.toList [95,95,99,108,97,115,115,100,105,99,116,95,95]
theorem TG {x:Str}(h:ON x=true):Az x=true:=h
noncomputable def EZ (b:NameKind)(o:Option NameKind):Bool:=wo o λa=>decide (a=b)
theorem C6 {b:NameKind}{o:Option NameKind}(h:EZ b o=true):o=some b:=Ac (BV h) λa h1 h2=>h1.trans (congrArg some (of_decide_eq_true h2))
noncomputable def vr (k:Ck)(x:Str)(i:Nat):Bool:=ON x&&wo (lk x k.vars) λj=>Nat.beq i j
theorem CH {k:Ck}{x:Str}{i:Nat}{M:Prop}(h:vr k x i=true)(q:lk x k.vars=some i->Az x=true->M):M:=
 Ab h λh1 h2=>Ac (BV h2) λj h3 h4=>q (h3.trans (congrArg some (Nat.eq_of_beq_eq_true h4).symm)) h1
noncomputable def CV (k:Ck)(x:Str):Bool:=ON x&&EZ .globalImplicit (lk x k.sc.names)
theorem Ew {k:Ck}{x:Str}{M:Prop}(h:CV k x=true)(q:Az x=true->k.sc.names.lookup x=some .globalImplicit->M):M:=Ab h λh1 h2=>q h1 (D1.symm.trans (C6 h2))
noncomputable def V4 (scope sc:Scope):Scope:=
 {scope with names:=scope.names.map λp=>match decide (p.2=.free)&&(decide (sc.kind=.function)&&EZ .cell (lk p.1 sc.names)) with
  |true=>(p.1,.cell)
  |false=>p}
theorem d_ (kd:NameKind)(sk:ScopeKind)(n:Str)(o:Option NameKind):(match decide (kd=.free)&&(decide (sk=.function)&&EZ .cell o) with
  |true=>(n,NameKind.cell)
  |false=>(n,kd))=if(kd==.free&&sk==.function&&o==some .cell) then(n,NameKind.cell) else(n,kd):=by
 cases kd<;>try rfl
 cases sk<;>try rfl
 cases o with
 |none=>rfl
 |some z=>cases z<;>rfl
theorem Zc (scope sc:Scope):V4 scope sc=EB scope sc:=by
 unfold V4 EB
 congr 1
 refine List.map_congr_left λp hp=>?_
 rw[D1]
 exact d_ p.2 sc.kind p.1 (sc.names.lookup p.1)
noncomputable def Kc {α:Type}(f:α->α->Bool):List α->Bool
 |[]=>true
 |x::r=>!(r.any λy=>f x y)&&Kc f r
theorem Gz {α:Type}{f:α->α->Bool}(hf:∀x,f x x=true):∀{l:List α},Kc f l=true->l.Nodup
 |[],_=>.nil
 |x::r,h=>Ab h λh1 h2=>List.nodup_cons.mpr ⟨λhx=>List.any_eq_false.1 (B_ h1) x hx (hf x),Gz hf h2⟩
noncomputable def RJ:List (Str×Nat)->Nat->Nat
 |[],n=>n
 |p::r,n=>RJ r (match Nat.ble n p.2 with|true=>p.2+1|false=>n)
noncomputable def Df (k:Ck)(scope:Scope):List (Str×NameKind)->List (Str×Nat)
 |[]=>[]
 |p::r=>match decide (p.2=.free)&&EZ .free (lk p.1 scope.names),lk p.1 k.vars with
  |true,some i=>(p.1,i)::Df k scope r
  |true,none=>Df k scope r
  |false,_=>Df k scope r
noncomputable def Dq (scope:Scope)(fr:Bool)(y:Str×NameKind):Bool:=match y.2 with
 |.cell=>false
 |.local=>EZ .local (lk y.1 scope.names)
 |.free=>fr
 |.globalExplicit=>true
 |.globalImplicit=>true
theorem WC {scope:Scope}{fr:Bool}{y:Str×NameKind}(h:Dq scope fr y=true):y.2≠.cell:=λe=>by unfold Dq at h;rw[e] at h;exact ft h
theorem Xv {scope:Scope}{fr:Bool}{y:Str×NameKind}(h:Dq scope fr y=true)(e:y.2=.local):scope.names.lookup y.1=some .local:=by unfold Dq at h;rw[e] at h;exact D1.symm.trans (C6 h)
theorem Xh {scope:Scope}{fr:Bool}{y:Str×NameKind}(h:Dq scope fr y=true)(e:y.2=.free):fr=true:=by unfold Dq at h;rw[e] at h;exact h
noncomputable def FR {α:Type}:List α->Bool
 |[]=>true
 |_::_=>false
theorem Ey {α:Type}{l:List α}(h:FR l=true):l=[]:=by cases l<;>first|rfl|exact(ft h).elim
noncomputable def dJ (k:Ck)(y:Str×NameKind):Bool:=wo (lk y.1 k.vars) λ_=>EZ .cell (lk y.1 k.sc.names)||EZ .free (lk y.1 k.sc.names)
noncomputable def J8 (k:Ck)(scope:Scope)(tg:List (Str×Nat)):Bool:=decide (scope.kind=.function)&&(scope.names.all (λy=>Dq scope (dJ k y) y)&&(tg.all (λp=>EZ .local (lk p.1 scope.names))&&(Kc D_ (tg.map (·.1))&&(Kc Nat.beq (tg.map (·.2))&&(!FR tg&&
 (tg.all (λp=>Nat.ble k.n p.2&&Nat.blt p.2 (RJ tg k.n))&&Nat.ble k.n (RJ tg k.n)))))))
noncomputable def kIn (k:Ck)(scope:Scope)(tg:List (Str×Nat)):Ck:=⟨V4 scope k.sc,tg++Df k scope scope.names,RJ tg k.n⟩
theorem Kl {α:Type}{x:Str}{a:α}:∀{l:List (Str×α)},lk x l=some a->(x,a)∈l
 |[],h=>(ns h).elim
 |p::r,h=>by
  unfold lk at h
  cases e:D_ x p.1 with
  |true=>
   rw[e] at h
   rw[Lb e,<-s1 h];exact List.mem_cons_self
  |false=>
   rw[e] at h
   exact List.mem_cons_of_mem _ (Kl h)
theorem Hm {k:Ck}{scope:Scope}{x:Str}{i:Nat}:∀{l:List (Str×NameKind)},(x,i)∈Df k scope l->(x,NameKind.free)∈l/\scope.names.lookup x=some .free/\lk x k.vars=some i
 |[],h=>nomatch h
 |(n,kd)::r,h=>by
  have rec_:(x,i)∈Df k scope r->(x,NameKind.free)∈(n,kd)::r/\scope.names.lookup x=some .free/\lk x k.vars=some i:=λh=>BH (Hm h) λa b c=>⟨List.mem_cons_of_mem _ a,b,c⟩
  unfold Df at h
  dsimp only at h
  cases e1:decide (kd=.free)&&EZ .free (lk n scope.names) with
  |false=>rw[e1] at h;exact rec_ h
  |true=>
   rw[e1] at h
   cases e2:lk n k.vars with
   |none=>rw[e2] at h;exact rec_ h
   |some j=>
    rw[e2] at h
    refine(List.mem_cons.1 h).elim (λe=>?_) rec_
    refine Ab e1 λe3 e4=>?_
    rw[(Prod.mk.inj e).1,(Prod.mk.inj e).2,<-of_decide_eq_true e3]
    exact⟨List.mem_cons_self,D1.symm.trans ((C6 e4).trans (congrArg some (of_decide_eq_true e3).symm)),e2⟩
theorem My {k:Ck}{scope:Scope}{t:Tgt}{tgt:Expr}{tg:List (Str×Nat)}(ht:EM t tgt=some tg)(h:J8 k scope tg=true):CompSt k scope t tgt tg (kIn k scope tg):=
 Ab h λc1 h=>Ab h λc2 h=>Ab h λc3 h=>Ab h λc4 h=>Ab h λc5 h=>Ab h λc6 h=>Ab h λc7 c8=>
 have c2:=List.all_eq_true.1 c2
 {ht:=ht
  kind:=of_decide_eq_true c1
  cell:=λy hy=>WC (c2 y hy)
  names:=λy hy=>Xv (c2 y hy)
  loc:=λp hp=>D1.symm.trans (C6 (List.all_eq_true.1 c3 p hp))
  d1:=Gz (f:=D_) (λx=>Dg x.cps.toList) c4
  d2:=Gz Nat.beq_refl c5
  ne:=λe=>by rw[show tg=[] from e] at c6;exact ft c6
  idx:=λp hp=>Ab (List.all_eq_true.1 c7 p hp) λa b=>⟨Nat.le_of_ble_eq_true a,Nat.le_of_ble_eq_true b⟩
  free:=λx hx=>Ac (BV (Xh (c2 _ hx) rfl)) λi h1 h2=>⟨i,h1,by
   rw[<-D1];exact(Bool.or_eq_true_iff.1 h2).imp C6 C6⟩
  sc:=Zc _ _
  vars:=λx i hx=>(List.mem_append.1 (Kl hx)).imp id Hm
  n:=Nat.le_of_ble_eq_true c8}
noncomputable def Ld (scope:Scope)(x y:Str):Bool:=decide (scope.kind=.function)&&(scope.names.all (Dq scope false)&&(EZ .local (lk x scope.names)&&EZ .local (lk y scope.names)))
theorem R_ {scope:Scope}{x y:Str}(h:Ld scope x y=true):FlatSt scope x y:=
 Ab h λc1 h=>Ab h λc2 h=>Ab h λc3 c4=>
 have c2:=List.all_eq_true.1 c2
 ⟨of_decide_eq_true c1,λy hy=>WC (c2 y hy),λy hy e=>ft (Xh (c2 y hy) e),λy hy=>Xv (c2 y hy),D1.symm.trans (C6 c3),D1.symm.trans (C6 c4)⟩
noncomputable def glF (g:Option Gl)(f:Nat):Bool:=wo g λq=>match q with|.fn j=>Nat.beq j f|.cls _=>false|.val _=>false
noncomputable def glC (g:Option Gl)(f:Nat):Bool:=wo g λq=>match q with|.fn _=>false|.cls j=>Nat.beq j f|.val _=>false
noncomputable def glV (g:Option Gl)(f:Nat):Bool:=wo g λq=>match q with|.fn _=>false|.cls _=>false|.val j=>Nat.beq j f
theorem ZI {g:Option Gl}{f:Nat}(h:glF g f=true):g=some (.fn f):=Ac (BV h) λq h1 h2=>by cases q<;>first|exact(ft h2).elim|(rw[h1,Nat.eq_of_beq_eq_true h2])
theorem ZT {g:Option Gl}{f:Nat}(h:glC g f=true):g=some (.cls f):=Ac (BV h) λq h1 h2=>by cases q<;>first|exact(ft h2).elim|(rw[h1,Nat.eq_of_beq_eq_true h2])
theorem ZP {g:Option Gl}{f:Nat}(h:glV g f=true):g=some (.val f):=Ac (BV h) λq h1 h2=>by cases q<;>first|exact(ft h2).elim|(rw[h1,Nat.eq_of_beq_eq_true h2])
noncomputable def Vl (b:BI):Nat:=b.ctorIdx
noncomputable def gZ:Nat->BI
 |0=>.len|1=>.range|2=>.bytes|3=>.list|4=>.tuple|5=>.int|6=>.ord|7=>.chr|8=>.min|9=>.max|10=>.sum|_=>.sorted
noncomputable def Jf (g:Option BI)(b:BI):Bool:=wo g λc=>Nat.beq (Vl c) (Vl b)
theorem Rn (b:BI):gZ (Vl b)=b:=by cases b<;>rfl
theorem Ly {g:Option BI}{b:BI}(h:Jf g b=true):g=some b:=Ac (BV h) λc h1 h2=>by rw[h1,<-Rn c,<-Rn b,Nat.eq_of_beq_eq_true h2]
noncomputable def Fq (e:E):Bool:=Nat.beq e.ctorIdx 7
noncomputable def Sl (e:E):Bool:=Nat.beq e.ctorIdx 6||(Nat.beq e.ctorIdx 30||Nat.beq e.ctorIdx 31)
noncomputable def gy (k:Ck)(o:Expr)(i:Nat):Expr×Bool:=(.Name (Af o).x (Af o).p,vr k (Af o).x i)
noncomputable def C5 (o:Expr):Expr:=.Name (Af o).x (Af o).p
noncomputable def ln (ap p:Pos):Bool:=Nat.beq ap.endLine p.line
noncomputable def WH {α β:Type}(d:β)(o:Option α)(f:α->β×Bool):β×Bool:=match o with
 |none=>(d,false)
 |some a=>f a
theorem SK {α β:Type}{d:β}{o:Option α}{f:α->β×Bool}{M:β->Prop}(h:(WH d o f).2=true)(k:∀a,o=some a->(f a).2=true->M (f a).1):M (WH d o f).1:=by
 cases o with
 |none=>exact(ft h).elim
 |some a=>exact k a rfl h
section
variable (N:Nm)
mutual
noncomputable def tr:E->Nat->Ck->Expr->Expr×Bool
 |.cst v,_,_,o=>(.Constant (Af o).c (Af o).n (Af o).p,HU v (Af o).c)
 |.var i,_,k,o=>gy k o i
 |.fz i,_,k,o=>gy k o i
 |.glb j,_,k,o=>(C5 o,CV k (Af o).x&&glV (N.gl (Af o).x) j)
 |.bin q a b,_,k,o=>(.BinOp (tr a 0 k (Ad o 0)).1 q.py (tr b 0 k (Ad o 1)).1 (Af o).p,(tr a 0 k (Ad o 0)).2&&(tr b 0 k (Ad o 1)).2)
 |.neg a,_,k,o=>(.UnaryOp .USub (tr a 0 k (Ad o 0)).1 (Af o).p,(tr a 0 k (Ad o 0)).2)
 |.cmp q a b,_,k,o=>(.Compare (tr a 0 k (Ad o 0)).1 [q.py] [(tr b 0 k (Ad o 1)).1] (Af o).p,!BE (tr b 0 k (Ad o 1)).1&&((tr a 0 k (Ad o 0)).2&&(tr b 0 k (Ad o 1)).2))
 |.cmp2 q r a b c,m,k,o=>(.Compare (tr a 0 k (Ad o 0)).1 [q.py,r.py] [(tr b 0 k (Ad o 1)).1,(tr c 0 k (Ad o 2)).1] (Af o).p,Nat.beq m 2&&(!BE (tr c 0 k (Ad o 2)).1&&((tr a 0 k (Ad o 0)).2&&((tr b 0 k (Ad o 1)).2&&(tr c 0 k (Ad o 2)).2))))
 |.and l,m,k,o=>(.BoolOp .And (BC l m k (Af o).l).1 (Af o).p,(BC l m k (Af o).l).2)
 |.or l,m,k,o=>(.BoolOp .Or (BC l m k (Af o).l).1 (Af o).p,(BC l m k (Af o).l).2)
 |.not a,m,k,o=>(.UnaryOp .Not (tr a 1 k (Ad o 0)).1 (Af o).p,Nat.beq m 1&&(tr a 1 k (Ad o 0)).2)
 |.tst a,m,k,o=>((tr a (match Fq a with|true=>2|false=>0) k o).1,(Fq a||(Sl a||FA (tr a 0 k o).1))&&(tr a (match Fq a with|true=>2|false=>0) k o).2)
 |.ite t a b,_,k,o=>(.IfExp (tr t 1 k (Ad o 0)).1 (tr a 0 k (Ad o 1)).1 (tr b 0 k (Ad o 2)).1 (Af o).p,(tr t 1 k (Ad o 0)).2&&((tr a 0 k (Ad o 1)).2&&(tr b 0 k (Ad o 2)).2))
 |.tup l,_,k,o=>(.Tuple (BC l 0 k (Af o).l).1 (Af o).n (Af o).p,(BC l 0 k (Af o).l).2)
 |.lst l,_,k,o=>(.List (BC l 0 k (Af o).l).1 (Af o).p,(BC l 0 k (Af o).l).2)
 |.lstH l,_,k,o=>(.List (BC l 0 k (Af o).l).1 (Af o).p,(BC l 0 k (Af o).l).2)
 |.dsp l,_,k,o=>(.Dict (EW l k (Af o).l).1 (EW l k (Af o).l).2.1 (Af o).p,Nat.ble (EW l k (Af o).l).1.length 15&&(EW l k (Af o).l).2.2)
 |.sub a i,_,k,o=>(.Subscript (tr a 0 k (Ad o 0)).1 (tr i 0 k (Ad o 1)).1 (Af o).p,(tr a 0 k (Ad o 0)).2&&(tr i 0 k (Ad o 1)).2)
 |.slc a lo hi st,_,k,o=>(.Subscript (tr a 0 k (Ad o 0)).1 (.Slice (MP lo k (Ad (Ad o 1) 0)).1 (MP hi k (Ad (Ad o 1) 1)).1 (MP st k (Ad (Ad o 1) 2)).1 (Af (Ad o 1)).p) (Af o).p,(tr a 0 k (Ad o 0)).2&&((MP lo k (Ad (Ad o 1) 0)).2&&((MP hi k (Ad (Ad o 1) 1)).2&&(MP st k (Ad (Ad o 1) 2)).2)))
 |.att a f,_,k,o=>(.Attribute (tr a 0 k (Ad o 0)).1 (N.fld f) (Af o).p,Bw (tr a 0 k (Ad o 0)).1&&(tr a 0 k (Ad o 0)).2)
 |.call f as,_,k,o=>(.Call (C5 (Ad o 0)) (BC as 0 k (Af o).l.tail).1 [] (Af o).p,CV k (Af (Ad o 0)).x&&(glF (N.gl (Af (Ad o 0)).x) f&&(BC as 0 k (Af o).l.tail).2))
 |.new f as,_,k,o=>(.Call (C5 (Ad o 0)) (BC as 0 k (Af o).l.tail).1 [] (Af o).p,CV k (Af (Ad o 0)).x&&(glC (N.gl (Af (Ad o 0)).x) f&&(BC as 0 k (Af o).l.tail).2))
 |.mth a m as,_,k,o=>(.Call (.Attribute (tr a 0 k (Ad (Ad o 0) 0)).1 (N.mnm m) (Af (Ad o 0)).p) (BC as 0 k (Af o).l.tail).1 [] (Af o).p,Bw (tr a 0 k (Ad (Ad o 0) 0)).1&&(ln (Af (Ad o 0)).p (Af o).p&&(Nat.blt (BC as 0 k (Af o).l.tail).1.length 29&&((tr a 0 k (Ad (Ad o 0) 0)).2&&(BC as 0 k (Af o).l.tail).2))))
 |.bi b as,_,k,o=>(.Call (C5 (Ad o 0)) (BC as 0 k (Af o).l.tail).1 [] (Af o).p,CV k (Af (Ad o 0)).x&&(Jf (N.bn (Af (Ad o 0)).x) b&&(BC as 0 k (Af o).l.tail).2))
 |.join a b,_,k,o=>(.Call (.Attribute (tr a 0 k (Ad (Ad o 0) 0)).1 "join" (Af (Ad o 0)).p) [(tr b 0 k (Ad o 1)).1] [] (Af o).p,Bw (tr a 0 k (Ad (Ad o 0) 0)).1&&(ln (Af (Ad o 0)).p (Af o).p&&(Ar (tr b 0 k (Ad o 1)).1&&((tr a 0 k (Ad (Ad o 0) 0)).2&&(tr b 0 k (Ad o 1)).2))))
 |.fromB a,_,k,o=>(.Call (.Attribute (C5 (Ad (Ad o 0) 0)) (PySem.Str.ofString "from_bytes") (Af (Ad o 0)).p) [(tr a 0 k (Ad o 1)).1,.Constant (.str (PySem.Str.ofString "big")) (Af (Ad o 2)).n (Af (Ad o 2)).p] [] (Af o).p,CV k (Af (Ad (Ad o 0) 0)).x&&(Jf (N.bn (Af (Ad (Ad o 0) 0)).x) .int&&(ln (Af (Ad o 0)).p (Af o).p&&(Ar (tr a 0 k (Ad o 1)).1&&(tr a 0 k (Ad o 1)).2))))
 |.comp e t it c,_,k,o=>WH o (EM t (Ad o 1)) λtg=>(.ListComp (tr e 0 (kIn k (Af o).sc tg) (Ad o 0)).1 [⟨Ad o 1,(tr it 0 k (Ad o 2)).1,(WT c (kIn k (Af o).sc tg) (Ad o 3)).1,0⟩] (Af o).sc (Af o).p,J8 k (Af o).sc tg&&(!BE (tr it 0 k (Ad o 2)).1&&((tr it 0 k (Ad o 2)).2&&((tr e 0 (kIn k (Af o).sc tg) (Ad o 0)).2&&(WT c (kIn k (Af o).sc tg) (Ad o 3)).2))))
 |.flat a,_,k,o=>(Bz (Af (Ad o 1)).x (Af (Ad o 0)).x (tr a 0 k (Ad o 2)).1 (Af (Ad o 0)).p (Af (Ad o 1)).p (Af (Ad o 3)).p (Af (Ad o 4)).p (Af o).sc (Af o).p,Ld (Af o).sc (Af (Ad o 1)).x (Af (Ad o 0)).x&&(ON (Af (Ad o 1)).x&&(ON (Af (Ad o 0)).x&&(!BE (tr a 0 k (Ad o 2)).1&&(tr a 0 k (Ad o 2)).2))))
 |.pkLen i,_,k,o=>(.Call (C5 (Ad o 0)) [C5 (Ad o 1)] [] (Af o).p,CV k (Af (Ad o 0)).x&&(Jf (N.bn (Af (Ad o 0)).x) .len&&vr k (Af (Ad o 1)).x i))
 |.pkSub i e,_,k,o=>(.Subscript (C5 (Ad o 0)) (tr e 0 k (Ad o 1)).1 (Af o).p,vr k (Af (Ad o 0)).x i&&(tr e 0 k (Ad o 1)).2)
 |.pkNe i,_,k,o=>(.Compare (C5 (Ad o 0)) [.NotEq] [.List [] (Af (Ad o 1)).p] (Af o).p,vr k (Af (Ad o 0)).x i)
 |.pkIn neg e i,_,k,o=>(.Compare (tr e 0 k (Ad o 0)).1 [if neg then .NotIn else .In] [C5 (Ad o 1)] (Af o).p,vr k (Af (Ad o 1)).x i&&(tr e 0 k (Ad o 0)).2)
 |.pkAtt i f,_,k,o=>(.Attribute (C5 (Ad o 0)) (N.fld f) (Af o).p,vr k (Af (Ad o 0)).x i)
 |.bad,_,_,o=>(o,true)
termination_by structural x=>x
noncomputable def BC:List E->Nat->Ck->List Expr->List Expr×Bool
 |[],_,_,_=>([],true)
 |e::r,m,k,os=>((tr e m k (hd os)).1::(BC r m k os.tail).1,Ar (tr e m k (hd os)).1&&((tr e m k (hd os)).2&&(BC r m k os.tail).2))
termination_by structural x=>x
noncomputable def EW:List (E×E)->Ck->List Expr->List (Option Expr)×List Expr×Bool
 |[],_,_=>([],[],true)
 |(a,b)::r,k,os=>(some (tr a 0 k (hd os)).1::(EW r k os.tail.tail).1,(tr b 0 k (hd os.tail)).1::(EW r k os.tail.tail).2.1,(tr a 0 k (hd os)).2&&((tr b 0 k (hd os.tail)).2&&(EW r k os.tail.tail).2.2))
termination_by structural x=>x
noncomputable def MP:Option E->Ck->Expr->Option Expr×Bool
 |none,_,_=>(none,true)
 |some e,k,o=>(some (tr e 0 k o).1,(tr e 0 k o).2)
termination_by structural x=>x
noncomputable def WT:Option E->Ck->Expr->List Expr×Bool
 |none,_,_=>([],true)
 |some e,k,o=>([(tr e 1 k o).1],(tr e 1 k o).2)
termination_by structural x=>x
end
end
end Mine.Internal
end
section
set_option maxRecDepth 10000
namespace Mine.Internal
open PySem PySem.Calls PyProof.Rows PySem.W
section
variable (C:Cx)(T:Tab)(D:Den)(A:Around)(k:Ck)
noncomputable def Ax (e:E)(pe:Expr):Prop:=∀(env:PySem.Env)(g:Gh)(σ:St)(s:Shared)(v:V)(jI:St),Ah env k g.loc->Ok C g σ s->ev T D e σ=some (v,jI)->Wp C A (eval pe env) (Aa C (Rv C) g s jI v) s
noncomputable def EX (e:E)(pe:Expr):Prop:=∀(env:PySem.Env)(g:Gh)(σ:St)(s:Shared)(b:Bool)(jI:St),Ah env k g.loc->Ok C g σ s->Cd T D e σ=some (b,jI)->GK C A env g pe jI b s
noncomputable def aK (e:E)(pe:Expr):Prop:=∀(env:PySem.Env)(g:Gh)(σ:St)(s:Shared)(v:V)(b:Bool)(jI:St),Ah env k g.loc->Ok C g σ s->ev T D e σ=some (v,jI)->HZ v=some b->GK C A env g pe jI b s
noncomputable def GG (l:List E)(pes:List Expr):Prop:=∀(env:PySem.Env)(g:Gh)(σ:St)(s:Shared)(vs:List V)(jI:St),Ah env k g.loc->Ok C g σ s->CU T D l σ=some (vs,jI)->∀pos:Pos,Wp C A (spliced (backTo pos (starEach pes env))) (Aa C (A5 C) g s jI vs) s
noncomputable def U5 (l:List (E×E))(ks:List (Option Expr))(ps:List Expr):Prop:=∀(env:PySem.Env)(g:Gh)(σ:St)(s:Shared)(vs:List (V×V))(jI:St),Ah env k g.loc->Ok C g σ s->Hy T D l σ=some (vs,jI)->∀pos:Pos,Wp C A (evalPairs (pairTrees ks ps env pos)) (Aa C (JR C) g s jI vs) s
noncomputable def Qt (o:Option E)(po:Option Expr):Prop:=∀(env:PySem.Env)(g:Gh)(σ:St)(s:Shared)(v:Option Int)(jI:St),Ah env k g.loc->Ok C g σ s->US T D o σ=some (v,jI)->Wp C A (evalPart po env) (Aa C (λ_=>O5) g s jI v) s
noncomputable def QU (o:Option E)(ifs:List Expr):Prop:=∀(env:PySem.Env)(g:Gh)(σ:St)(s:Shared)(b:Bool)(jI:St),Ah env k g.loc->Ok C g σ s->OY T D o σ=some (b,jI)->Wp C A (Ls ifs env) (Aa C (λ_ (b:Bool) c=>c=b) g s jI b) s
noncomputable def Ll (op:PySem.BoolOp)(f:St->Option (V×St))(pes:List Expr):Prop:=∀(env:PySem.Env)(g:Gh)(σ:St)(s:Shared)(v:V)(jI:St),Ah env k g.loc->Ok C g σ s->f σ=some (v,jI)->∀pos:Pos,Wp C A (boolOp pos op (evalEach pes env)) (Aa C (Rv C) g s jI v) s
noncomputable def LA (op:PySem.BoolOp)(f:St->Option (Bool×St))(pes:List Expr):Prop:=∀(env:PySem.Env)(g:Gh)(σ:St)(s:Shared)(b:Bool)(jI:St),Ah env k g.loc->Ok C g σ s->f σ=some (b,jI)->Wp C A (allTrue op pes env) (Aa C (λ_ (b:Bool) c=>c=b) g s jI b) s
end
section
variable {C:Cx}{T:Tab}{D:Den}{A:Around}{k:Ck}{n:Nat}
theorem Rm.un16 (h:Rm A n):A.units+16<cLine:=by have:=h.un;exact((BM 0x12128201331880211412118821118850133a) this)
theorem ZV {β:Type}{u v:V}{h:Hp}{F:List V->Int->Option β}{G:V->V->Option β}{y:β}{M:V->V->Prop}(e:(match u,v with
   |.ref n,.int j=>match nth h n with
    |some (.lst l)=>F l j
    |_=>none
   |u,v=>G u v)=some y)(k1:∀n j l,nth h n=some (.lst l)->F l j=some y->M (.ref n) (.int j))(k2:G u v=some y->M u v):M u v:=by
 cases u with
 |ref m=>
  cases v with
  |int j=>
   dsimp only at e
   cases hn:nth h m with
   |none=>rw[hn] at e;exact(ns e).elim
   |some c=>
    rw[hn] at e
    cases c with
    |ins=>exact(ns e).elim
    |lst l=>exact k1 _ _ _ hn e
  |_=>exact k2 e
 |_=>exact k2 e
theorem ZN {β:Type}{u:V}{h:Hp}{F:Nat->List (Nat×V)->Option β}{y:β}{M:V->Prop}(e:(match u with
   |.obj c fs=>F c fs
   |.ref n=>match nth h n with
    |some (.ins c fs)=>F c fs
    |_=>none
   |_=>none)=some y)(k1:∀c fs,F c fs=some y->M (.obj c fs))(k2:∀n c fs,nth h n=some (.ins c fs)->F c fs=some y->M (.ref n)):M u:=by
 cases u with
 |obj c fs=>exact k1 _ _ e
 |ref m=>
   dsimp only at e
   cases hn:nth h m with
   |none=>rw[hn] at e;exact(ns e).elim
   |some c=>
    rw[hn] at e
    cases c with
    |lst=>exact(ns e).elim
    |ins l=>exact k2 _ _ _ hn e
 |_=>exact(ns e).elim
theorem TS {β:Type}{u:V}{F:Int->Option β}{y:β}{M:V->Prop}(e:(match u with
   |.int i=>F i
   |_=>none)=some y)(k:∀i,F i=some y->M (.int i)):M u:=by
 cases u with
 |int i=>exact k _ e
 |_=>exact(ns e).elim
theorem Sa:GG C T D A k [] []:=λenv g σ s vs jI H K e pos=>by
 refine BU (show some (([]:List V),σ)=_ from e) ?_;exact Q_ K
theorem BN {x:E}{r:List E}{p:Expr}{q:List Expr}(hn:Ar p=true)(hx:Ax C T D A k x p)(hr:GG C T D A k r q):GG C T D A k (x::r) (p::q):=λenv g σ s vs jI H K e pos=>
 Ai (show(ev T D x σ).bind _=_ from e) λy e1 e=>by
  refine AS e λz e2=>?_
  exact Vo hn (hx env g σ s _ _ H K e1) λjE jC G K1=>hr env jE _ jC _ _ (H.go G) K1 e2 pos
theorem fI:U5 C T D A k [] [] []:=λenv g σ s vs jI H K e pos=>by
 refine BU (show some (([]:List (V×V)),σ)=_ from e) ?_;exact Yn K
theorem Ze {x y:E}{r:List (E×E)}{a b:Expr}{ks:List (Option Expr)}{ps:List Expr}(hx:Ax C T D A k x a)(hy:Ax C T D A k y b)(hr:U5 C T D A k r ks ps):U5 C T D A k ((x,y)::r) (some a::ks) (b::ps):=λenv g σ s vs jI H K e pos=>
 Ai (show(ev T D x σ).bind _=_ from e) λu e1 e=>Ai e λw e2 e=>by
  refine AS e λz e3=>?_
  exact Wf (hx env g σ s _ _ H K e1) (λjE jC G K1=>hy env jE _ jC _ _ (H.go G) K1 e2) λjE jC G K1=>hr env jE _ jC _ _ (H.go G) K1 e3 pos
theorem aV:Qt C T D A k none none:=λenv g σ s v jI H K e=>by
 refine BU (show some ((none:Option Int),σ)=_ from e) ?_;exact TF K
theorem bf {x:E}{p:Expr}(hx:Ax C T D A k x p):Qt C T D A k (some x) (some p):=λenv g σ s v jI H K e=>by
 refine Ap (show(ev T D x σ).bind _=_ from e) λu jD e1 e=>?_
 have q1:=hx env g σ s _ _ H K e1
 refine TS (M:=λu=>Wp C A (eval p env) (Aa C (Rv C) g s jD u) s->Wp C A (evalPart (some p) env) (Aa C (λ_=>O5) g s jI v) s) e (λi e q1=>?_) q1
 refine BU e ?_
 exact Tq q1
theorem bN:QU C T D A k none []:=λenv g σ s b jI H K e=>by
 refine BU (show some (true,σ)=_ from e) ?_;exact wpAny_pure ⟨g,.refl g s,K,rfl⟩
theorem Zj {x:E}{p:Expr}(hx:EX C T D A k x p):QU C T D A k (some x) [p]:=λenv g σ s b jI H K e=>by
 unfold Ls
 rw[List.forIn_cons,if_pos rfl]
 exact wpAny_bind (wpAny_bind ((hx env g σ s b jI H K e).mono λc jC r=>wpAny_pure (wpAny_pure r)))
theorem bc {x:E}{r:List E}{p:Expr}{q:List Expr}(hq:q.length=r.length)(hx:Ax C T D A k x p)(hr:Ll C A k .And (Kp T D r) q):Ll C A k .And (Kp T D (x::r)) (p::q):=λenv g σ s v jI H K e pos=>by
 cases r with
 |nil=>
  rw[List.length_eq_zero_iff.mp hq]
  exact hx env g σ s v jI H K e
 |cons y r=>
  cases q with
  |nil=>exact(nomatch hq)
  |cons p' q=>
   refine Ai (show(ev T D x σ).bind _=_ from e) λu e1 e=>Ai e λb e2 e=>?_
   have hb:=Gw e2
   refine IE (b:=b) (jD:=u.2) (hb▸hx env g σ s _ _ H K e1) λjE jC G K1=>?_
   cases b with
   |true=>exact hr env jE _ jC _ _ (H.go G) K1 e pos
   |false=>refine BU e ?_;exact⟨hb,rfl⟩
theorem ZU {x:E}{r:List E}{p:Expr}{q:List Expr}(hq:q.length=r.length)(hx:Ax C T D A k x p)(hr:Ll C A k .Or (Pb T D r) q):Ll C A k .Or (Pb T D (x::r)) (p::q):=λenv g σ s v jI H K e pos=>by
 cases r with
 |nil=>
  rw[List.length_eq_zero_iff.mp hq]
  exact hx env g σ s v jI H K e
 |cons y r=>
  cases q with
  |nil=>exact(nomatch hq)
  |cons p' q=>
   refine Ai (show(ev T D x σ).bind _=_ from e) λu e1 e=>Ai e λb e2 e=>?_
   have hb:=Gw e2
   refine IE (b:=b) (jD:=u.2) (hb▸hx env g σ s _ _ H K e1) λjE jC G K1=>?_
   cases b with
   |false=>exact hr env jE _ jC _ _ (H.go G) K1 e pos
   |true=>refine BU e ?_;exact⟨hb,rfl⟩
theorem YW {x:E}{r:List E}{p:Expr}{q:List Expr}(hx:EX C T D A k x p)(hr:LA C A k .And (FJ T D r) q):LA C A k .And (FJ T D (x::r)) (p::q):=λenv g σ s b jI H K e=>
 Ap (show(Cd T D x σ).bind _=_ from e) λb jD e1 e=>Hh (b:=b) (jD:=jD) (hx env g σ s _ _ H K e1) λjE jC G K1=>by
  cases b with
  |true=>exact hr env jE _ jC _ _ (H.go G) K1 e
  |false=>refine BU e ?_;exact⟨rfl,rfl⟩
theorem YO {x:E}{r:List E}{p:Expr}{q:List Expr}(hx:EX C T D A k x p)(hr:LA C A k .Or (HG T D r) q):LA C A k .Or (HG T D (x::r)) (p::q):=λenv g σ s b jI H K e=>
 Ap (show(Cd T D x σ).bind _=_ from e) λb jD e1 e=>Hh (b:=b) (jD:=jD) (hx env g σ s _ _ H K e1) λjE jC G K1=>by
  cases b with
  |false=>exact hr env jE _ jC _ _ (H.go G) K1 e
  |true=>refine BU e ?_;exact⟨rfl,rfl⟩
theorem iy {i:Nat}{x:Str}{p:Pos}(h:vr k x i=true):Ax C T D A k (.fz i) (.Name x p):=λenv g σ s w jI H K e=>CH h λh1 h2=>fY H K h1 h2 e
theorem dP {i:Nat}{x:Str}{p:Pos}(h:vr k x i=true):Ax C T D A k (.var i) (.Name x p):=λenv g σ s w jI H K e=>CH h λh1 h2=>by
 refine AS (show(Es σ.r i).map _=_ from e) λv e1=>?_
 exact ZX H K h1 h2 e1
theorem dM {v:V}{c:Const}{m:Nat}{p:Pos}(h:HU v c=true):Ax C T D A k (.cst v) (.Constant c m p):=λenv g σ s w jI H K e=>by
 refine BU (show some (v,σ)=_ from e) ?_;exact Ub K h
theorem fD {q:Hu}{a b:E}{x y:Expr}{p:Pos}(ha:Ax C T D A k a x)(hb:Ax C T D A k b y):Ax C T D A k (.bin q a b) (.BinOp x q.py y p):=λenv g σ s w jI H K e=>
 Ai (show(ev T D a σ).bind _=_ from e) λu e1 e=>Ai e λv e2 e=>by
  refine AS e λz e3=>?_
  exact Zs rfl (ha env g σ s _ _ H K e1) (λjE jC G K1=>hb env jE _ jC _ _ (H.go G) K1 e2) e3
theorem dr {a:E}{x:Expr}{p:Pos}(ha:Ax C T D A k a x):Ax C T D A k (.neg a) (.UnaryOp .USub x p):=λenv g σ s w jI H K e=>
 Ap (show(ev T D a σ).bind _=_ from e) λu jD e1 e=>by
  have q1:=ha env g σ s _ _ H K e1
  refine TS (M:=λu=>Wp C A (eval x env) (Aa C (Rv C) g s jD u) s->Wp C A (eval (.UnaryOp .USub x p) env) (Aa C (Rv C) g s jI w) s) e (λi e q1=>?_) q1
  refine BU e ?_
  exact bB q1
theorem dj (hA:Rm A n){q:GS}{a b:E}{x y:Expr}{p:Pos}(h:(!BE y)=true)(ha:Ax C T D A k a x)(hb:Ax C T D A k b y):Ax C T D A k (.cmp q a b) (.Compare x [q.py] [y] p):=λenv g σ s w jI H K e=>
 Ai (show(ev T D a σ).bind _=_ from e) λu e1 e=>Ai e λv e2 e=>by
  refine AS e λz e3=>?_
  exact Zu rfl (B_ h) hA.un16 (ha env g σ s _ _ H K e1) (λjE jC G K1=>hb env jE _ jC _ _ (H.go G) K1 e2) e3
theorem da {t a b:E}{z x y:Expr}{p:Pos}(ht:EX C T D A k t z)(ha:Ax C T D A k a x)(hb:Ax C T D A k b y):Ax C T D A k (.ite t a b) (.IfExp z x y p):=λenv g σ s w jI H K e=>
 Ap (show(Cd T D t σ).bind _=_ from e) λc jD e1 e=>bU (ht env g σ s _ _ H K e1) λjE jC G K1=>by
  cases c with
  |true=>exact ha env jE _ jC _ _ (H.go G) K1 e
  |false=>exact hb env jE _ jC _ _ (H.go G) K1 e
theorem d8 {l:List E}{xs:List Expr}{m:Nat}{p:Pos}(hl:GG C T D A k l xs):Ax C T D A k (.tup l) (.Tuple xs m p):=λenv g σ s w jI H K e=>
 Ai (show(CU T D l σ).bind _=_ from e) λx e1 e=>AJ e λhz e=>by
  refine BU e ?_
  exact Zp hz (hl env g σ s _ _ H K e1 p)
theorem fv {l:List E}{xs:List Expr}{p:Pos}(hl:GG C T D A k l xs):Ax C T D A k (.lst l) (.List xs p):=λenv g σ s w jI H K e=>
 Ai (show(CU T D l σ).bind _=_ from e) λx e1 e=>by
  refine AS e λz e3=>?_
  exact cU e3 (hl env g σ s _ _ H K e1 p)
theorem Z3 {l:List E}{xs:List Expr}{p:Pos}(hl:GG C T D A k l xs):Ax C T D A k (.lstH l) (.List xs p):=λenv g σ s w jI H K e=>
 Ai (show(CU T D l σ).bind _=_ from e) λx e1 e=>AJ e λhz e=>by
  refine BU e ?_
  exact Y7 hz (hl env g σ s _ _ H K e1 p)
theorem fx {a:E}{lo hi st:Option E}{x:Expr}{l h t:Option Expr}{p q:Pos}(ha:Ax C T D A k a x)(h1:Qt C T D A k lo l)(h2:Qt C T D A k hi h)(h3:Qt C T D A k st t):Ax C T D A k (.slc a lo hi st) (.Subscript x (.Slice l h t p) q):=λenv g σ s w jI H K e=>
 Ai (show(ev T D a σ).bind _=_ from e) λx e1 e=>Ai e λy e2 e=>Ai e λz e3 e=>Ai e λu e4 e=>by
  refine AS e λr e5=>?_
  exact ZY (ha env g σ s _ _ H K e1) (λjE jC G K1=>h1 env jE _ jC _ _ (H.go G) K1 e2) (λjE jC G K1=>h2 env jE _ jC _ _ (H.go G) K1 e3) (λjE jC G K1=>h3 env jE _ jC _ _ (H.go G) K1 e4) e5
theorem eT {a i:E}{x y:Expr}{p:Pos}(ha:Ax C T D A k a x)(hi:Ax C T D A k i y):Ax C T D A k (.sub a i) (.Subscript x y p):=λenv g σ s w jI H K e=>
 Ap (show(ev T D a σ).bind _=_ from e) λu jD e1 e=>Ap e λv jF e2 e=>by
  have q1:=ha env g σ s _ _ H K e1
  have q2:=λjE jC (G:Go g s jE jC)(K1:Ok C jE jD jC)=>hi env jE _ jC _ _ (H.go G) K1 e2
  refine ZV (M:=λu v=>Wp C A (eval x env) (Aa C (Rv C) g s jD u) s->(∀jE jC,Go g s jE jC->Ok C jE jD jC->Wp C A (eval y env) (Aa C (Rv C) jE jC jF v) jC)->Wp C A (eval (.Subscript x y p) env) (Aa C (Rv C) g s jI w) s) e (λn j l hn e q1 q2=>?_) (λe q1 q2=>?_) q1 q2
  ·refine AS e λz e3=>?_
   exact Y5 q1 q2 hn e3
  ·refine AS e λz e3=>?_
   exact aW q1 q2 e3
variable {P:Px C T}
theorem du {x:Str}{j:Nat}{p:Pos}(h1:CV k x=true)(h2:glV (P.gl x) j=true):Ax C T D A k (.glb j) (.Name x p):=λenv g σ s w jI H K e=>Ew h1 λh3 h4=>by
 refine AS (show(T.glb j).map _=_ from e) λu e1=>?_
 exact Z8 P K H h3 h4 (ZP h2) e1
theorem eH {a:E}{f:Nat}{x:Expr}{p:Pos}(hn:Bw x=true)(ha:Ax C T D A k a x):Ax C T D A k (.att a f) (.Attribute x (P.nm.fld f) p):=λenv g σ s w jI H K e=>
 Ap (show(ev T D a σ).bind _=_ from e) λu jD e1 e=>by
  have q1:=ha env g σ s _ _ H K e1
  refine ZN (M:=λu=>Wp C A (eval x env) (Aa C (Rv C) g s jD u) s->Wp C A (eval (.Attribute x (P.nm.fld f) p) env) (Aa C (Rv C) g s jI w) s) e (λc fs e q1=>?_) (λm c fs hm e q1=>?_) q1
  ·refine AJ e λhf e=>?_
   refine AS e λz e3=>?_
   exact Zi P hn q1 hf e3
  ·refine AJ e λhf e=>?_
   refine AS e λz e3=>?_
   exact Za P hn q1 hm hf e3
theorem Xa {l:List (E×E)}{ks:List (Option Expr)}{vs:List Expr}{p:Pos}(h1:ks.all (·.isSome)=true)(h2:ks.length=vs.length/\ks.length=l.length)(h3:Nat.ble ks.length 15=true)(hl:U5 C T D A k l ks vs){env:PySem.Env}{g:Gh}{σ:St}{s:Shared}{ps d:List (V×V)}{jI:St}
  (P:Px C T)(H:Ah env k g.loc)(K:Ok C g σ s)(e:Hy T D l σ=some (ps,jI))(hk:DT ps=true)(e2:BD ps []=some d):
  Wp C A (eval (.Dict ks vs p) env) (Dk C g s jI d) s:=by
 cases ks with
 |nil=>
  rw[List.length_eq_zero_iff.mp h2.1.symm]
  cases List.length_eq_zero_iff.mp h2.2.symm
  cases(show some _=some _ from e)
  cases(show some _=some _ from e2)
  exact I6 K P
 |cons x r=>
  exact Y6 P K h1 h2.1 (λz=>nomatch z) (Nat.le_of_ble_eq_true h3) (λjE jC G K1=>hl env jE _ jC _ _ (H.go G) K1 e p) hk e2
theorem ZE (hD:DOk P D n)(hA:Rm A n){x:Str}{f:Nat}{l:List E}{xs:List Expr}{p q:Pos}(h1:CV k x=true)(h2:glF (P.gl x) f=true)(hs:xs.all Ar=true)(hl:GG C T D A k l xs):Ax C T D A k (.call f l) (.Call (.Name x p) xs [] q):=λenv g σ s w jI H K e=>Ew h1 λh3 h4=>
 Ai (show(CU T D l σ).bind _=_ from e) λy e1 e=>by
  refine AS e λz e3=>?_
  exact YN P hD hA K H h3 h4 (ZI h2) hs (hl env g σ s _ _ H K e1 q) e3
theorem fB (hD:DOk P D n)(hA:Rm A n){x:Str}{c:Nat}{l:List E}{xs:List Expr}{p q:Pos}(h1:CV k x=true)(h2:glC (P.gl x) c=true)(hs:xs.all Ar=true)(hl:GG C T D A k l xs):Ax C T D A k (.new c l) (.Call (.Name x p) xs [] q):=λenv g σ s w jI H K e=>Ew h1 λh3 h4=>
 Ai (show(CU T D l σ).bind _=_ from e) λy e1 e=>Ai e λz e2 e=>by
  have r:=λfs h' e3=>cG P (fs:=fs) (h':=h') (pos:=q) (np:=p) hD hA K H h3 h4 (ZT h2) hs (hl env g σ s _ _ H K e1 q) e2 e3
  cases z<;>(refine AS e λu e3=>?_;exact r _ _ e3)
theorem de (hD:DOk P D n)(hA:Rm A n){m:Nat}{a:E}{l:List E}{x:Expr}{xs:List Expr}{p q:Pos}(hn:Bw x=true)(hline:ln p q=true)(h29:Nat.blt xs.length 29=true)(ha:Ax C T D A k a x)(hs:xs.all Ar=true)(hl:GG C T D A k l xs):
  Ax C T D A k (.mth a m l) (.Call (.Attribute x (P.nm.mnm m) p) xs [] q):=λenv g σ s w jI H K e=>
 Ai (show(ev T D a σ).bind _=_ from e) λy e1 e=>Ai e λf e3 e=>Ai e λz e2 e=>by
  refine AS e λu e4=>?_
  exact cy P hD hA hn hs h29 (beq_iff_eq.mpr (Nat.eq_of_beq_eq_true hline)) (ha env g σ s _ _ H K e1) (λjE jC G K1=>hl env jE _ jC _ _ (H.go G) K1 e2 q) e3 e4
theorem ic (P:Px C T)(hA:Rm A n){b:BI}{x:Str}{l:List E}{xs:List Expr}{p q:Pos}(h1:CV k x=true)(h2:Jf (P.bn x) b=true)(hs:xs.all Ar=true)(hl:GG C T D A k l xs):Ax C T D A k (.bi b l) (.Call (.Name x p) xs [] q):=λenv g σ s w jI H K e=>Ew h1 λh3 h4=>
 Ai (show(CU T D l σ).bind _=_ from e) λy e1 e=>by
  refine AS e λz e3=>?_
  exact ak P K H hA.hd h3 h4 (Ly h2) hs (hl env g σ s _ _ H K e1 q) e3
end
end Mine.Internal
end
section
set_option maxRecDepth 10000
namespace Mine.Internal
open PySem PySem.Calls PyProof.Rows PySem.W
section
variable {C:Cx}{T:Tab}{D:Den}{A:Around}{k:Ck}{n:Nat}
theorem J7 {p q:Pos}(h:ln p q=true):(p.endLine==q.line)=true:=beq_iff_eq.mpr (Nat.eq_of_beq_eq_true h)
theorem Yv {β:Type}{u v:V}{F:List V->Option β}{y:β}{M:V->V->Prop}(e:(match u,v with
   |.bytes [],.lst l=>F l
   |_,_=>none)=some y)(k:∀l,F l=some y->M (.bytes []) (.lst l)):M u v:=by
 cases u with
 |bytes b=>cases b with
  |nil=>cases v with
   |lst l=>exact k l e
   |_=>exact(ns e).elim
  |cons=>exact(ns e).elim
 |_=>exact(ns e).elim
theorem ZK {β:Type}{u:V}{F:List Nat->Option β}{y:β}{M:V->Prop}(e:(match u with
   |.bytes l=>F l
   |_=>none)=some y)(k:∀l,F l=some y->M (.bytes l)):M u:=by
 cases u with
 |bytes l=>exact k _ e
 |_=>exact(ns e).elim
theorem Xl {β:Type}{o:Option Slot}{u:V}{F:List V->Int->Option β}{y:β}{M:V->Prop}(e:(match o,u with
   |some (.ul l),.int j=>F l j
   |_,_=>none)=some y)(k:∀l j,o=some (.ul l)->F l j=some y->M (.int j)):M u:=by
 cases o with
 |none=>exact(ns e).elim
 |some c=>cases c with
  |ul l=>cases u with
   |int j=>exact k _ _ rfl e
   |_=>exact(ns e).elim
  |_=>exact(ns e).elim
theorem fh {β:Type}{o:Option Slot}{F:Bool->β}{y:β}{M:Prop}(e:(match o with
   |some (.ul [])=>some (F false)
   |some (.ul (_::_))=>some (F true)
   |_=>none)=some y)(k:∀l,o=some (.ul l)->some (F !l.isEmpty)=some y->M):M:=by
 cases o with
 |none=>exact(ns e).elim
 |some c=>cases c with
  |ul l=>cases l with
   |nil=>exact k _ rfl e
   |cons=>exact k _ rfl e
  |_=>exact(ns e).elim
theorem ae {a b:E}{x y:Expr}{p q:Pos}(h1:Bw x=true)(h2:ln p q=true)(h3:Ar y=true)(ha:Ax C T D A k a x)(hb:Ax C T D A k b y):Ax C T D A k (.join a b) (.Call (.Attribute x "join" p) [y] [] q):=λenv g σ s w jI H K e=>
 Ap (show(ev T D a σ).bind _=_ from e) λu jD e1 e=>Ap e λv jF e2 e=>by
  have q1:=ha env g σ s _ _ H K e1
  have q2:=λjE jC (G:Go g s jE jC)(K1:Ok C jE jD jC)=>hb env jE _ jC _ _ (H.go G) K1 e2
  refine Yv (M:=λu v=>Wp C A (eval x env) (Aa C (Rv C) g s jD u) s->(∀jE jC,Go g s jE jC->Ok C jE jD jC->Wp C A (eval y env) (Aa C (Rv C) jE jC jF v) jC)->Wp C A (eval (.Call (.Attribute x "join" p) [y] [] q) env) (Aa C (Rv C) g s jI w) s) e (λl e q1 q2=>?_) q1 q2
  refine AS e λz e3=>?_
  exact Ai e3 λr e4 e5=>XQ h1 h3 (J7 h2) q1 q2 e4 e5
theorem Y_ (P:Px C T){a:E}{x:Str}{y:Expr}{np ap cp q:Pos}{m:Nat}(h1:CV k x=true)(h2:Jf (P.bn x) .int=true)(h3:ln ap q=true)(h4:Ar y=true)(ha:Ax C T D A k a y):
  Ax C T D A k (.fromB a) (.Call (.Attribute (.Name x np) (PySem.Str.ofString "from_bytes") ap) [y,.Constant (.str (PySem.Str.ofString "big")) m cp] [] q):=λenv g σ s w jI H K e=>Ew h1 λh5 h6=>
 Ap (show(ev T D a σ).bind _=_ from e) λu jD e1 e=>by
  refine ZK (M:=λu=>ev T D a σ=some (u,jD)->Wp C A (eval (.Call (.Attribute (.Name x np) (PySem.Str.ofString "from_bytes") ap) [y,.Constant (.str (PySem.Str.ofString "big")) m cp] [] q) env) (Aa C (Rv C) g s jI w) s) e (λl e e1=>AJ e λhl e=>?_) e1
  refine BU e ?_
  exact Vk P (c:=y) K H (Ly h2) h5 h6 h4 (J7 h3) (by decide) (λjE jC G K1=>ha env jE _ jC _ _ (H.go G) K1 e1) (Nat.le_of_ble_eq_true hl)
noncomputable def QT (e:E)(pe:Expr):Prop:=∀(env:PySem.Env)(g:Gh)(σ:St)(s:Shared)(v:V)(jI:St),Ah env k g.loc->Ok C g σ s->ev T D e σ=some (v,jI)->∃l,v=.lst l/\Wp C A (eval pe env) (DP C g s jI l) s
theorem QT.e {e:E}{pe:Expr}(h:QT (C:=C) (T:=T) (D:=D) (A:=A) (k:=k) e pe):Ax C T D A k e pe:=λenv g σ s w jI H K e=>
 Ac (h env g σ s w jI H K e) λl h1 q=>h1▸q.mono λ_ _ q=>q.frz
theorem gn {elt:E}{cond:Option E}{k':Ck}{pe:Expr}{ifs:List Expr}(he:Ax C T D A k' elt pe)(hc:QU C T D A k' cond ifs):∀cenv,CompOk C T D A cenv k' elt cond pe ifs:=
 λcenv=>⟨λg σ s b jI H K e=>hc cenv g σ s b jI H K e,λg σ s v jI H K e=>he cenv g σ s v jI H K e⟩
theorem TZ (hA:Rm A n){elt it:E}{t:Tgt}{cond:Option E}{tgt pe x:Expr}{ifs:List Expr}{tg:List (Str×Nat)}{scope:Scope}{p:Pos}(ht:EM t tgt=some tg)(h1:J8 k scope tg=true)(h2:(!BE x)=true)
  (hi:Ax C T D A k it x)(he:Ax C T D A (kIn k scope tg) elt pe)(hc:QU C T D A (kIn k scope tg) cond ifs):QT (C:=C) (T:=T) (D:=D) (A:=A) (k:=k) (.comp elt t it cond) (.ListComp pe [⟨tgt,x,ifs,0⟩] scope p):=λenv g σ s w jI H K e=>
 Ai (show(ev T D it σ).bind _=_ from e) λx e1 e=>Ai e λl e2 e=>Ai e λq e3 e=>by
  refine AS e λz e4=>?_
  exact⟨_,(Dc e4).1,XE hA.hd H (My ht h1) (B_ h2) (gn he hc) (hi env g σ s _ _ H K e1) e2 e3 (Dc e4).2⟩
theorem cv (hA:Rm A n){a:E}{x y:Str}{z:Expr}{p1 p2 p3 p4 p:Pos}{scope:Scope}(h1:Ld scope x y=true)(h2:ON x=true)(h3:ON y=true)(h4:(!BE z)=true)(ha:Ax C T D A k a z):QT (C:=C) (T:=T) (D:=D) (A:=A) (k:=k) (.flat a) (Bz x y z p1 p2 p3 p4 scope p):=λenv g σ s w jI H K e=>
 Ai (show(ev T D a σ).bind _=_ from e) λu e1 e=>Ai e λl e2 e=>Ai e λq e3 e=>by
  refine AS e λz e4=>?_
  exact⟨_,(Dc e4).1,XH hA.hd H (R_ h1) (B_ h4) (TG h2) (TG h3) (ha env g σ s _ _ H K e1) e2 e3 (Dc e4).2⟩
theorem cb {β:Type}{o:Option Slot}{F:List V->Option β}{y:β}{M:Prop}(e:(match o with
   |some (.ul l)=>F l
   |_=>none)=some y)(q:∀l,o=some (.ul l)->F l=some y->M):M:=by
 cases o with
 |none=>exact(ns e).elim
 |some c=>cases c with
  |ul l=>exact q l rfl e
  |_=>exact(ns e).elim
theorem bQ {β:Type}{o:Option Slot}{F:List (V×V)->Option β}{y:β}{M:Prop}(e:(match o with
   |some (.ud l)=>F l
   |_=>none)=some y)(q:∀l,o=some (.ud l)->F l=some y->M):M:=by
 cases o with
 |none=>exact(ns e).elim
 |some c=>cases c with
  |ud l=>exact q l rfl e
  |_=>exact(ns e).elim
theorem bq {β:Type}{o:Option Slot}{F:Nat->List (Nat×V)->Option β}{y:β}{M:Prop}(e:(match o with
   |some (.uo c l)=>F c l
   |_=>none)=some y)(q:∀c l,o=some (.uo c l)->F c l=some y->M):M:=by
 cases o with
 |none=>exact(ns e).elim
 |some c=>cases c with
  |uo c l=>exact q c l rfl e
  |_=>exact(ns e).elim
theorem Lq {β:Type}{b:Bool}{o:Option β}{y:β}{M:Prop}(e:(match b with
   |false=>none
   |true=>o)=some y)(q:b=true->o=some y->M):M:=by
 cases b with
 |false=>exact(ns e).elim
 |true=>exact q rfl e
theorem Q0 {r:Bf}{i:Nat}(h:C2 r i=true):∃l,nth r i=some (.ul l):=by
 unfold C2 at h
 cases hn:nth r i with
 |none=>rw[hn] at h;exact(ft h).elim
 |some c=>cases c with
  |ul l=>exact⟨l,rfl⟩
  |_=>rw[hn] at h;exact(ft h).elim
theorem YH (P:Px C T){i:Nat}{x y:Str}{np p q:Pos}(h1:CV k x=true)(h2:Jf (P.bn x) .len=true)(h3:vr k y i=true):Ax C T D A k (.pkLen i) (.Call (.Name x np) [.Name y p] [] q):=λenv g σ s w jI H K e=>Ew h1 λh5 h6=>CH h3 λh7 h8=>
 cb (F:=λl=>some (V.int l.length,σ)) e λl hs e=>by
  refine BU e ?_
  exact Vw P K H h5 h8 h6 (Ly h2) h7 hs
theorem YP {i:Nat}{a:E}{x:Expr}{y:Str}{p q:Pos}(h3:vr k y i=true)(ha:Ax C T D A k a x):Ax C T D A k (.pkSub i a) (.Subscript (.Name y p) x q):=λenv g σ s w jI H K e=>CH h3 λh7 h8=>
 Lq (show _=_ from e) λhu e=>Ap e λu jD e1 e=>by
  have q1:=ha env g σ s _ _ H K e1
  refine Xl (M:=λv=>Wp C A (eval x env) (Aa C (Rv C) g s jD v) s->Wp C A (eval (.Subscript (.Name y p) x q) env) (Aa C (Rv C) g s jI w) s) e (λl j hs e q1=>?_) q1
  refine AS e λz e3=>?_
  exact VU K H h8 h7 (Q0 hu) q1 hs e3
theorem Zn (hA:Rm A n){i:Nat}{y:Str}{np pp p:Pos}(h3:vr k y i=true):Ax C T D A k (.pkNe i) (.Compare (.Name y np) [.NotEq] [.List [] pp] p):=λenv g σ s w jI H K e=>CH h3 λh7 h8=>
 fh (F:=λb=>(V.bool b,σ)) e λl hs e=>by
  refine BU e ?_
  exact Yq K H hA.un16 h8 h7 hs
theorem aZ {neg:Bool}{i:Nat}{a:E}{x:Expr}{y:Str}{p q:Pos}(h3:vr k y i=true)(ha:Ax C T D A k a x):Ax C T D A k (.pkIn neg a i) (.Compare x [if neg then .NotIn else .In] [.Name y p] q):=λenv g σ s w jI H K e=>CH h3 λh7 h8=>
 Ap (show(ev T D a σ).bind _=_ from e) λu jD e1 e=>bQ (F:=λl=>match D0 u with
   |true=>(keyOf u l).map λb=>(V.bool (if neg then !b.isSome else b.isSome),jD)
   |false=>none) e λl hs e=>AJ e λhk e=>by
  refine AS e λz e3=>?_
  exact XB H rfl h8 h7 (ha env g σ s _ _ H K e1) hs hk e3
theorem YX {P:Px C T}{i f:Nat}{y:Str}{p q:Pos}(h3:vr k y i=true):Ax C T D A k (.pkAtt i f) (.Attribute (.Name y p) (P.nm.fld f) q):=λenv g σ s w jI H K e=>CH h3 λh7 h8=>
 bq (F:=λc fs=>match T.fok c f with|true=>(BG f fs).map (·,σ)|false=>none) e λc fs hs e=>AJ e λhf e=>by
  refine AS e λz e3=>?_
  exact VL P H K h7 h8 hs hf e3
theorem fc {a:E}{x:Expr}(h:FA x=true\/∃l o r p,x=.Compare l [o] [r] p)(ha:Ax C T D A k a x):EX C T D A k (.tst a) x:=λenv g σ s w jI H K e=>
 Ap (show(ev T D a σ).bind _=_ from e) λv jD e1 e=>by
  refine AS e λb e2=>?_
  have q:=ha env g σ s _ _ H K e1
  rw[show v=.bool b from Gw e2] at q
  refine h.elim (λh=>UX h q) λh=>?_
  refine i8 h λl o r p h=>?_
  subst h;exact XY q
theorem cf {a:E}{x:Expr}(ha:aK C T D A k a x):EX C T D A k (.tst a) x:=λenv g σ s w jI H K e=>
 Ap (show(ev T D a σ).bind _=_ from e) λv jD e1 e=>by
  refine AS e λb e2=>?_
  exact ha env g σ s _ _ _ H K e1 e2
theorem fZ {a:E}{x:Expr}{p:Pos}(ha:EX C T D A k a x):EX C T D A k (.not a) (.UnaryOp .Not x p):=λenv g σ s w jI H K e=>by
 refine AS (show(Cd T D a σ).map _=_ from e) λx e1=>?_
 exact Zq (ha env g σ s _ _ H K e1)
theorem bu (hA:Rm A n){o p:GS}{a b c:E}{x y z:Expr}{q:Pos}(h:(!BE z)=true)(ha:Ax C T D A k a x)(hb:Ax C T D A k b y)(hc:Ax C T D A k c z):aK C T D A k (.cmp2 o p a b c) (.Compare x [o.py,p.py] [y,z] q):=λenv g σ s v w jI H K e ht=>
 Ap (show(ev T D a σ).bind _=_ from e) λu jD e1 e=>Ap e λv jF e2 e=>Ai e λc1 e3 e=>by
 have q1:=ha env g σ s _ _ H K e1
 have q2:=λjE jC (G:Go g s jE jC)(K1:Ok C jE jD jC)=>hb env jE _ jC _ _ (H.go G) K1 e2
 cases c1 with
 |false=>
  revert ht;refine BU e ?_;intro ht
  rw[<-s1 (show some false=some w from ht)]
  exact O0 (c1:=false) (w:=.none) (p':=p) rfl rfl (B_ h) hA.un16 q1 q2 (λjE jC G K1=>by rw[if_neg (by decide)];exact⟨rfl,rfl⟩) e3
 |true=>
  refine Ap e λr jN e4 e=>?_
  revert ht;refine AS e λc2 e5=>?_;intro ht
  rw[<-s1 (show some c2=some w from ht)]
  exact O0 (c1:=true) rfl rfl (B_ h) hA.un16 q1 q2 (λjE jC G K1=>by rw[if_pos rfl];exact⟨hc env jE _ jC _ _ (H.go G) K1 e4,e5⟩) e3
end
end Mine.Internal
end
section
set_option maxRecDepth 10000
namespace Mine.Internal
open PySem PySem.Calls PyProof.Rows PySem.W
section
variable {C:Cx}{T:Tab}(P:Px C T)(D:Den)(A:Around)
structure Snd (x:E):Prop where
 e:∀k o,(tr P.nm x 0 k o).2=true->Ax C T D A k x (tr P.nm x 0 k o).1
 t:∀k o,(tr P.nm x 1 k o).2=true->EX C T D A k x (tr P.nm x 1 k o).1
 q:Fq x=true->∀k o,(tr P.nm x 2 k o).2=true->aK C T D A k x (tr P.nm x 2 k o).1
structure SndL (l:List E):Prop where
 s:∀m k os,(BC P.nm l m k os).2=true->(BC P.nm l m k os).1.all Ar=true/\(BC P.nm l m k os).1.length=l.length
 e:∀k os,(BC P.nm l 0 k os).2=true->GG C T D A k l (BC P.nm l 0 k os).1
 b:∀k os,(BC P.nm l 0 k os).2=true->Ll C A k .And (Kp T D l) (BC P.nm l 0 k os).1/\Ll C A k .Or (Pb T D l) (BC P.nm l 0 k os).1
 t:∀k os,(BC P.nm l 1 k os).2=true->LA C A k .And (FJ T D l) (BC P.nm l 1 k os).1/\LA C A k .Or (HG T D l) (BC P.nm l 1 k os).1
noncomputable def Sx (l:List (E×E)):Prop:=∀k os,(EW P.nm l k os).2.2=true->(EW P.nm l k os).1.all (·.isSome)=true/\((EW P.nm l k os).1.length=(EW P.nm l k os).2.1.length/\(EW P.nm l k os).1.length=l.length)/\U5 C T D A k l (EW P.nm l k os).1 (EW P.nm l k os).2.1
noncomputable def hH (x:Option E):Prop:=∀k o,(MP P.nm x k o).2=true->Qt C T D A k x (MP P.nm x k o).1
noncomputable def cB (x:Option E):Prop:=∀k o,(WT P.nm x k o).2=true->QU C T D A k x (WT P.nm x k o).1
variable {P D A}{n:Nat}
theorem Bn {x:E}(h:∀k o,(tr P.nm x 0 k o).2=true->Ax C T D A k x (tr P.nm x 0 k o).1)(h1:∀σ,Cd T D x σ=none)(h2:Fq x=false):Snd P D A x:=
 ⟨h,λk o _ env g σ s b jI _ _ e=>(ns ((h1 σ).symm.trans e)).elim,λh=>(ft (h2.symm.trans h)).elim⟩
theorem Ss {x:E}(h:∀k o,(tr P.nm x 1 k o).2=true->EX C T D A k x (tr P.nm x 1 k o).1)(h1:∀k o,(tr P.nm x 0 k o).2=true->Ax C T D A k x (tr P.nm x 0 k o).1)(h2:Fq x=false):Snd P D A x:=
 ⟨h1,h,λh=>(ft (h2.symm.trans h)).elim⟩
theorem l0:SndL P D A []:=⟨λ_ _ _ _=>⟨rfl,rfl⟩,λ_ _ _=>Sa,λk os _=>⟨λenv g σ s v jI H K e=>(nomatch (show none=some _ from e)),λenv g σ s v jI H K e=>(nomatch (show none=some _ from e))⟩,
 λk os _=>⟨λenv g σ s b jI H K e=>by refine BU (show some (true,σ)=_ from e) ?_;exact IH K,λenv g σ s b jI H K e=>by refine BU (show some (false,σ)=_ from e) ?_;exact IH K⟩⟩
theorem l1 {x:E}{r:List E}(hx:Snd P D A x)(hr:SndL P D A r):SndL P D A (x::r):=
 ⟨λm k os h=>Ab h λh1 h=>Ab h λh2 h3=>have z:=hr.s m k _ h3;⟨Bool.and_eq_true_iff.mpr ⟨h1,z.1⟩,congrArg (·+1) z.2⟩,
  λk os h=>Ab h λh1 h=>Ab h λh2 h3=>BN h1 (hx.e k _ h2) (hr.e k _ h3),
  λk os h=>Ab h λh1 h=>Ab h λh2 h3=>⟨bc (hr.s 0 k _ h3).2 (hx.e k _ h2) (hr.b k _ h3).1,ZU (hr.s 0 k _ h3).2 (hx.e k _ h2) (hr.b k _ h3).2⟩,
  λk os h=>Ab h λh1 h=>Ab h λh2 h3=>⟨YW (hx.t k _ h2) (hr.t k _ h3).1,YO (hx.t k _ h2) (hr.t k _ h3).2⟩⟩
theorem jr:Sx P D A []:=λ_ _ _=>⟨rfl,⟨rfl,rfl⟩,fI⟩
theorem jw {x y:E}{r:List (E×E)}(hx:Snd P D A x)(hy:Snd P D A y)(hr:Sx P D A r):Sx P D A ((x,y)::r):=λk os h=>Ab h λh1 h=>Ab h λh2 h3=>
 have z:=hr k _ h3;⟨z.1,⟨congrArg (·+1) z.2.1.1,congrArg (·+1) z.2.1.2⟩,Ze (hx.e k _ h1) (hy.e k _ h2) z.2.2⟩
theorem iH {x:E}(h:Sl x=true)(k:Ck)(o:Expr):∃l q r p,(tr P.nm x 0 k o).1=.Compare l [q] [r] p:=by
 cases x<;>first|exact⟨_,_,_,_,rfl⟩|exact(ft h).elim
theorem cZ {a:E}(ha:Snd P D A a):Snd P D A (.tst a):=Ss (λk o h=>by
 have h:((Fq a||(Sl a||FA (tr P.nm a 0 k o).1))&&(tr P.nm a (match Fq a with|true=>2|false=>0) k o).2)=true:=h
 show EX C T D A k (.tst a) (tr P.nm a (match Fq a with|true=>2|false=>0) k o).1
 cases hc:Fq a with
 |true=>rw[hc] at h;exact cf (ha.q hc k o h)
 |false=>
  rw[hc] at h
  refine Ab h λh1 h2=>fc ?_ (ha.e k o h2)
  exact(Bool.or_eq_true_iff.1 (show(Sl a||FA (tr P.nm a 0 k o).1)=true from h1)).elim (λh=>.inr (iH h k o)) .inl) (λk o _ env g σ s v jI H K e=>(nomatch (show none=some _ from e))) rfl
theorem aF (hA:Rm A n){a it:E}{t:Tgt}{c:Option E}(ha:Snd P D A a)(hi:Snd P D A it)(hc:cB P D A c){k:Ck}{o:Expr}(h:(tr P.nm (.comp a t it c) 0 k o).2=true):QT (C:=C) (T:=T) (D:=D) (A:=A) (k:=k) (.comp a t it c) (tr P.nm (.comp a t it c) 0 k o).1:=
 SK (M:=λpe=>QT (C:=C) (T:=T) (D:=D) (A:=A) (k:=k) (.comp a t it c) pe) h λtg h1 h=>Ab h λh2 h=>Ab h λh3 h=>Ab h λh4 h=>Ab h λh5 h6=>TZ hA h1 h2 h3 (hi.e k _ h4) (ha.e _ _ h5) (hc _ _ h6)
theorem aw {l:List E}(hl:SndL P D A l):Snd P D A (.and l)/\Snd P D A (.or l):=
 ⟨Ss (λk o h env g σ s b jI H K e=>wpAny_isTrue_BoolOp ((hl.t k _ h).1 env g σ s b jI H K e)) (λk o h env g σ s v jI H K e=>(hl.b k _ h).1 env g σ s v jI H K e _) rfl,
  Ss (λk o h env g σ s b jI H K e=>wpAny_isTrue_BoolOp ((hl.t k _ h).2 env g σ s b jI H K e)) (λk o h env g σ s v jI H K e=>(hl.b k _ h).2 env g σ s v jI H K e _) rfl⟩
mutual
theorem snd (hD:DOk P D n)(hA:Rm A n):∀e:E,Snd P D A e
 |.cst v=>Bn (λk o h=>dM h) (λ_=>rfl) rfl
 |.var i=>Bn (λk o h=>dP h) (λ_=>rfl) rfl
 |.fz i=>Bn (λk o h=>iy h) (λ_=>rfl) rfl
 |.glb j=>Bn (λk o h=>Ab h du) (λ_=>rfl) rfl
 |.bin q a b=>Bn (λk o h=>Ab h λh1 h2=>fD ((snd hD hA a).e k _ h1) ((snd hD hA b).e k _ h2)) (λ_=>rfl) rfl
 |.neg a=>Bn (λk o h=>dr ((snd hD hA a).e k _ h)) (λ_=>rfl) rfl
 |.cmp q a b=>Bn (λk o h=>Ab h λh0 h=>Ab h λh1 h2=>dj hA h0 ((snd hD hA a).e k _ h1) ((snd hD hA b).e k _ h2)) (λ_=>rfl) rfl
 |.cmp2 q r a b c=>⟨λk o h=>(ft h).elim,λk o _ env g σ s b jI _ _ e=>(nomatch (show none=some _ from e)),λ_ k o h=>Ab h λh0 h=>Ab h λh1 h=>Ab h λh2 h3=>bu hA h0 ((snd hD hA a).e k _ h1) ((snd hD hA b).e k _ h2) ((snd hD hA c).e k _ h3)⟩
 |.and l=>(aw (C1 hD hA l)).1
 |.or l=>(aw (C1 hD hA l)).2
 |.not a=>Ss (λk o h=>fZ ((snd hD hA a).t k _ h)) (λk o h=>(ft h).elim) rfl
 |.tst a=>cZ (snd hD hA a)
 |.ite t a b=>Bn (λk o h=>Ab h λh1 h=>Ab h λh2 h3=>da ((snd hD hA t).t k _ h1) ((snd hD hA a).e k _ h2) ((snd hD hA b).e k _ h3)) (λ_=>rfl) rfl
 |.tup l=>Bn (λk o h=>d8 ((C1 hD hA l).e k _ h)) (λ_=>rfl) rfl
 |.lst l=>Bn (λk o h=>fv ((C1 hD hA l).e k _ h)) (λ_=>rfl) rfl
 |.lstH l=>Bn (λk o h=>Z3 ((C1 hD hA l).e k _ h)) (λ_=>rfl) rfl
 |.dsp l=>Bn (λk o h=>Ab h λh1 h2=>BH (Wn hD hA l k _ h2) λh3 h4 h5 env g σ s w jI H K e=>Ai (show(Hy T D l σ).bind _=_ from e) λx e1 e=>AJ e λhz e=>by
   refine AS e λz e3=>?_
   exact(Xa h3 h4 h1 h5 P H K e1 hz e3).mono λ_ _ q=>q.frz) (λ_=>rfl) rfl
 |.sub a i=>Bn (λk o h=>Ab h λh1 h2=>eT ((snd hD hA a).e k _ h1) ((snd hD hA i).e k _ h2)) (λ_=>rfl) rfl
 |.slc a lo hi st=>Bn (λk o h=>Ab h λh1 h=>Ab h λh2 h=>Ab h λh3 h4=>fx ((snd hD hA a).e k _ h1) (VS hD hA lo k _ h2) (VS hD hA hi k _ h3) (VS hD hA st k _ h4)) (λ_=>rfl) rfl
 |.att a f=>Bn (λk o h=>Ab h λh1 h2=>eH h1 ((snd hD hA a).e k _ h2)) (λ_=>rfl) rfl
 |.call f l=>Bn (λk o h=>Ab h λh1 h=>Ab h λh2 h3=>ZE hD hA h1 h2 ((C1 hD hA l).s 0 k _ h3).1 ((C1 hD hA l).e k _ h3)) (λ_=>rfl) rfl
 |.new c l=>Bn (λk o h=>Ab h λh1 h=>Ab h λh2 h3=>fB hD hA h1 h2 ((C1 hD hA l).s 0 k _ h3).1 ((C1 hD hA l).e k _ h3)) (λ_=>rfl) rfl
 |.mth a m l=>Bn (λk o h=>Ab h λh1 h=>Ab h λh2 h=>Ab h λh3 h=>Ab h λh4 h5=>de hD hA h1 h2 h3 ((snd hD hA a).e k _ h4) ((C1 hD hA l).s 0 k _ h5).1 ((C1 hD hA l).e k _ h5)) (λ_=>rfl) rfl
 |.bi b l=>Bn (λk o h=>Ab h λh1 h=>Ab h λh2 h3=>ic P hA h1 h2 ((C1 hD hA l).s 0 k _ h3).1 ((C1 hD hA l).e k _ h3)) (λ_=>rfl) rfl
 |.join a b=>Bn (λk o h=>Ab h λh1 h=>Ab h λh2 h=>Ab h λh3 h=>Ab h λh4 h5=>ae h1 h2 h3 ((snd hD hA a).e k _ h4) ((snd hD hA b).e k _ h5)) (λ_=>rfl) rfl
 |.fromB a=>Bn (λk o h=>Ab h λh1 h=>Ab h λh2 h=>Ab h λh3 h=>Ab h λh4 h5=>Y_ P h1 h2 h3 h4 ((snd hD hA a).e k _ h5)) (λ_=>rfl) rfl
 |.comp a t it c=>Bn (λk o h=>(aF hA (snd hD hA a) (snd hD hA it) (Zd hD hA c) h).e) (λ_=>rfl) rfl
 |.flat a=>Bn (λk o h=>Ab h λh1 h=>Ab h λh2 h=>Ab h λh3 h=>Ab h λh4 h5=>(cv hA h1 h2 h3 h4 ((snd hD hA a).e k _ h5)).e) (λ_=>rfl) rfl
 |.pkLen i=>Bn (λk o h=>Ab h λh1 h=>Ab h λh2 h3=>YH P h1 h2 h3) (λ_=>rfl) rfl
 |.pkSub i a=>Bn (λk o h=>Ab h λh1 h2=>YP h1 ((snd hD hA a).e k _ h2)) (λ_=>rfl) rfl
 |.pkNe i=>Bn (λk o h=>Zn hA h) (λ_=>rfl) rfl
 |.pkIn neg a i=>Bn (λk o h=>Ab h λh1 h2=>aZ h1 ((snd hD hA a).e k _ h2)) (λ_=>rfl) rfl
 |.pkAtt i f=>Bn (λk o h=>YX h) (λ_=>rfl) rfl
 |.bad=>Bn (λk o h env g σ s w jI H K e=>nomatch (show none=some _ from e)) (λ_=>rfl) rfl
termination_by structural x=>x
theorem C1 (hD:DOk P D n)(hA:Rm A n):∀l:List E,SndL P D A l
 |[]=>l0
 |x::r=>l1 (snd hD hA x) (C1 hD hA r)
termination_by structural x=>x
theorem Wn (hD:DOk P D n)(hA:Rm A n):∀l:List (E×E),Sx P D A l
 |[]=>jr
 |(x,y)::r=>jw (snd hD hA x) (snd hD hA y) (Wn hD hA r)
termination_by structural x=>x
theorem VS (hD:DOk P D n)(hA:Rm A n):∀o:Option E,hH P D A o
 |none=>λ_ _ _=>aV
 |some x=>λk o h=>bf ((snd hD hA x).e k o h)
termination_by structural x=>x
theorem Zd (hD:DOk P D n)(hA:Rm A n):∀o:Option E,cB P D A o
 |none=>λ_ _ _=>bN
 |some x=>λk o h=>Zj ((snd hD hA x).t k o h)
termination_by structural x=>x
end
end
end Mine.Internal
end
section
set_option maxRecDepth 10000
namespace Mine.Internal
open PySem PySem.Calls PyProof.Rows PySem.W
structure ISt where
 p:Pos
 l:List Expr
 a:List Stmt
 b:List Stmt
noncomputable def Bl:Stmt->ISt
 |.Assign ts v p=>⟨p,v::ts,[],[]⟩
 |.Expr e p=>⟨p,[e],[],[]⟩
 |.If t a b p=>⟨p,[t],a,b⟩
 |.For t i b _ p=>⟨p,[t,i],b,[]⟩
 |.While t b _ p=>⟨p,[t],b,[]⟩
 |.Return e p=>⟨p,[e0 e],[],[]⟩
 |_=>⟨p0,[],[],[]⟩
noncomputable def An (o:Stmt)(n:Nat):Expr:=e0 (nth (Bl o).l n)
noncomputable def gI (l:List Stmt):Stmt:=l.head?.getD (.Pass p0)
noncomputable def av (o:Expr):Expr:=.Tuple (Af o).l (Af o).n (Af o).p
noncomputable def O6 (k:Ck)(tg:List (Str×Nat)):Bool:=tg.all λp=>wo (lk p.1 k.vars) (Nat.beq p.2)
theorem PE {k:Ck}{tg:List (Str×Nat)}(h:O6 k tg=true):∀p∈tg,lk p.1 k.vars=some p.2:=λp hp=>
 Ac (BV (List.all_eq_true.1 h p hp)) λj h1 h2=>h1.trans (congrArg some (Nat.eq_of_beq_eq_true h2).symm)
noncomputable def SR (sc:Scope)(t v:Expr)(rv:Bool)(tg:List (Str×Nat)):Bool:=wo (KS sc [t] v) λo=>decide (o=if rv then some (tg.map (·.1)) else none)
theorem Wk {sc:Scope}{t v:Expr}{rv:Bool}{tg:List (Str×Nat)}(h:SR sc t v rv tg=true):KS sc [t] v=some (if rv then some (tg.map (·.1)) else none):=
 Ac (BV h) λo h1 h2=>h1.trans (congrArg some (of_decide_eq_true h2))
section
variable (N:Nm)
noncomputable def Jw:List UK->Option (List E)
 |[]=>some []
 |u::r=>match u with
  |.val e=>(Jw r).map (e::·)
  |.ul=>none
  |.ud=>none
noncomputable def GF (us:List UK)(k:Ck)(os:List Expr):List Expr×Bool:=WH [] (Jw us) λl=>BC N l 0 k os
noncomputable def TP:List UK->Ck->List Expr->List Expr×Bool
 |[],k,os=>GF N [] k os
 |u::r,k,os=>match u with
  |.val e=>GF N (.val e::r) k os
  |.ul=>(.List [] (Af (hd os)).p::(GF N r k os.tail).1,(GF N r k os.tail).2)
  |.ud=>(.Dict [] [] (Af (hd os)).p::(GF N r k os.tail).1,(GF N r k os.tail).2)
noncomputable def bL (x:Bool×Expr)(m:Str)(o:Stmt)(q:Expr×Bool):Stmt×Bool:=
 (.Expr (.Call (.Attribute (C5 (Ad (Ad (An o 0) 0) 0)) m (Af (Ad (An o 0) 0)).p) [q.1] [] (Af (An o 0)).p) (Bl o).p,x.1&&(ln (Af (Ad (An o 0) 0)).p (Af (An o 0)).p&&(Ar q.1&&q.2)))
noncomputable def QN (c:Bool)(o:Stmt)(q:Expr×Bool):Stmt×Bool:=(.Assign [C5 (An o 1)] q.1 (Bl o).p,c&&q.2)
mutual
noncomputable def Xp:S->Ck->Stmt->Stmt×Bool
 |.ass i e,k,o=>QN (vr k (Af (An o 1)).x i&&!Br (tr N e 0 k (An o 0)).1) o (tr N e 0 k (An o 0))
 |.assC i e,k,o=>QN (vr k (Af (An o 1)).x i&&Nat.beq e.ctorIdx 26) o (tr N e 0 k (An o 0))
 |.assU i l,k,o=>QN (vr k (Af (An o 1)).x i) o (.List (BC N l 0 k (Af (An o 0)).l).1 (Af (An o 0)).p,(BC N l 0 k (Af (An o 0)).l).2)
 |.assUC i e,k,o=>QN (vr k (Af (An o 1)).x i&&Nat.beq e.ctorIdx 26) o (tr N e 0 k (An o 0))
 |.assUD i l,k,o=>QN (vr k (Af (An o 1)).x i) o (tr N (.dsp l) 0 k (An o 0))
 |.assUI i t,k,o=>QN (vr k (Af (An o 1)).x i) o (.IfExp (tr N t 1 k (Ad (An o 0) 0)).1 (.Dict [] [] (Af (Ad (An o 0) 1)).p) (Ad (An o 0) 2) (Af (An o 0)).p,(tr N t 1 k (Ad (An o 0) 0)).2)
 |.unp ts e,k,o=>(.Assign [av (An o 1)] (tr N e 0 k (An o 0)).1 (Bl o).p,wo (Bc (Af (An o 1)).l ts) λtg=>O6 k tg&&(!KA (tr N e 0 k (An o 0)).1&&(tr N e 0 k (An o 0)).2))
 |.swp rv ts us,k,o=>(.Assign [av (An o 1)] (.Tuple (TP N us k (Af (An o 0)).l).1 (Af (An o 0)).n (Af (An o 0)).p) (Bl o).p,wo (Bc (Af (An o 1)).l ts) λtg=>O6 k tg&&(SR k.sc (av (An o 1)) (.Tuple (TP N us k (Af (An o 0)).l).1 (Af (An o 0)).n (Af (An o 0)).p) rv tg&&(Nat.ble us.length 16&&(TP N us k (Af (An o 0)).l).2)))
 |.sat i f e,k,o=>(.Assign [.Attribute (C5 (Ad (An o 1) 0)) (N.fld f) (Af (An o 1)).p] (tr N e 0 k (An o 0)).1 (Bl o).p,vr k (Af (Ad (An o 1) 0)).x i&&(tr N e 0 k (An o 0)).2)
 |.hat a f e,k,o=>(.Assign [.Attribute (tr N a 0 k (Ad (An o 1) 0)).1 (N.fld f) (Af (An o 1)).p] (tr N e 0 k (An o 0)).1 (Bl o).p,!Br (tr N e 0 k (An o 0)).1&&((tr N a 0 k (Ad (An o 1) 0)).2&&(tr N e 0 k (An o 0)).2))
 |.hit a ix e,k,o=>(.Assign [.Subscript (tr N a 0 k (Ad (An o 1) 0)).1 (tr N ix 0 k (Ad (An o 1) 1)).1 (Af (An o 1)).p] (tr N e 0 k (An o 0)).1 (Bl o).p,!Br (tr N e 0 k (An o 0)).1&&((tr N a 0 k (Ad (An o 1) 0)).2&&((tr N ix 0 k (Ad (An o 1) 1)).2&&(tr N e 0 k (An o 0)).2)))
 |.uit i ix e,k,o=>(.Assign [.Subscript (C5 (Ad (An o 1) 0)) (tr N ix 0 k (Ad (An o 1) 1)).1 (Af (An o 1)).p] (tr N e 0 k (An o 0)).1 (Bl o).p,vr k (Af (Ad (An o 1) 0)).x i&&(!Br (tr N e 0 k (An o 0)).1&&((tr N ix 0 k (Ad (An o 1) 1)).2&&(tr N e 0 k (An o 0)).2)))
 |.udt i ix e,k,o=>(.Assign [.Subscript (C5 (Ad (An o 1) 0)) (tr N ix 0 k (Ad (An o 1) 1)).1 (Af (An o 1)).p] (tr N e 0 k (An o 0)).1 (Bl o).p,vr k (Af (Ad (An o 1) 0)).x i&&(!Br (tr N e 0 k (An o 0)).1&&((tr N ix 0 k (Ad (An o 1) 1)).2&&(tr N e 0 k (An o 0)).2)))
 |.app i e,k,o=>bL (vr k (Af (Ad (Ad (An o 0) 0) 0)).x i,An o 0) "append" o (tr N e 0 k (Ad (An o 0) 1))
 |.ext i e,k,o=>bL (vr k (Af (Ad (Ad (An o 0) 0) 0)).x i,An o 0) "extend" o (tr N e 0 k (Ad (An o 0) 1))
 |.upd i e,k,o=>bL (vr k (Af (Ad (Ad (An o 0) 0) 0)).x i,An o 0) "update" o (tr N e 0 k (Ad (An o 0) 1))
 |.exp e,k,o=>(.Expr (tr N e 0 k (An o 0)).1 (Bl o).p,!Br (tr N e 0 k (An o 0)).1&&(tr N e 0 k (An o 0)).2)
 |.iff t a b,k,o=>(.If (tr N t 1 k (An o 0)).1 (CQ a k (Bl o).a).1 (CQ b k (Bl o).b).1 (Bl o).p,(tr N t 1 k (An o 0)).2&&((CQ a k (Bl o).a).2&&(CQ b k (Bl o).b).2))
 |.forr t e b,k,o=>(.For (An o 0) (tr N e 0 k (An o 1)).1 (CQ b k (Bl o).a).1 [] (Bl o).p,wo (EM t (An o 0)) λtg=>O6 k tg&&(!BE (tr N e 0 k (An o 1)).1&&((tr N e 0 k (An o 1)).2&&(CQ b k (Bl o).a).2)))
 |.whl t b,k,o=>(.While (tr N t 1 k (An o 0)).1 (CQ b k (Bl o).a).1 [] (Bl o).p,(tr N t 1 k (An o 0)).2&&(CQ b k (Bl o).a).2)
 |.ret e,k,o=>(.Return (some (tr N e 0 k (An o 0)).1) (Bl o).p,(tr N e 0 k (An o 0)).2)
 |.rse,_,o=>(o,true)
termination_by structural x=>x
noncomputable def CQ:List S->Ck->List Stmt->List Stmt×Bool
 |[],_,_=>([],true)
 |a::r,k,os=>((Xp a k (gI os)).1::(CQ r k os.tail).1,(Xp a k (gI os)).2&&(CQ r k os.tail).2)
termination_by structural x=>x
end
end
section
variable (C:Cx)(T:Tab)(D:Den)(A:Around)(k:Ck)
noncomputable def CE (x:S)(ps:Stmt):Prop:=∀(env:PySem.Env)(g:Gh)(σ:St)(s:Shared)(fl:Fl×St),Ah env k g.loc->Ok C g σ s->ex T D x σ=some fl->Wp C A (exec ps env) (AQ C g s fl.2 fl.1) s
noncomputable def Fm (l:List S)(ps:List Stmt):Prop:=∀(env:PySem.Env)(g:Gh)(σ:St)(s:Shared)(fl:Fl×St),Ah env k g.loc->Ok C g σ s->Bd T D l σ=some fl->Wp C A (execs ps env) (AQ C g s fl.2 fl.1) s
noncomputable def gN (us:List UK)(pes:List Expr):Prop:=∀(env:PySem.Env)(g:Gh)(σ:St)(s:Shared)(sls:List Slot)(jI:St),Ah env k g.loc->Ok C g σ s->Ec T D us σ=some (sls,jI)->∃ws:List V,sls=ws.map Slot.val/\∀pos:Pos,Wp C A (spliced (backTo pos (starEach pes env))) (Aa C (A5 C) g s jI ws) s
noncomputable def aP (us:List UK)(pes:List Expr):Prop:=∀(env:PySem.Env)(g:Gh)(σ:St)(s:Shared)(sls:List Slot)(jI:St),Ah env k g.loc->Ok C g σ s->Ec T D us σ=some (sls,jI)->∀pos:Pos,
 Wp C A (spliced (backTo pos (starEach pes env))) (λxs s'=>∃g',Go g s g' s'/\Ok C g' jI s'/\D2 C g s g' s' sls xs/\xs.length=sls.length) s
end
section
variable {C:Cx}{T:Tab}{P:Px C T}{D:Den}{A:Around}{k:Ck}{n:Nat}
theorem fV {i:Nat}{e:E}{x:Str}{v:Expr}{np p:Pos}(h1:vr k x i=true)(h2:(!Br v)=true)(he:Ax C T D A k e v):CE C T D A k (.ass i e) (.Assign [.Name x np] v p):=λenv g σ s fl H K z0=>CH h1 λh3 h4=>
 Ap (show(Mine.Internal.ev T D e σ).bind _=_ from z0) λu jD e1 e2=>T6 H (Cb (B_ h2)) h3 (he env g σ s _ _ H K e1) e2
theorem bh {i:Nat}{l:List E}{x:Str}{xs:List Expr}{np lp p:Pos}(h1:vr k x i=true)(hl:GG C T D A k l xs):CE C T D A k (.assU i l) (.Assign [.Name x np] (.List xs lp) p):=λenv g σ s fl H K z0=>CH h1 λh3 h4=>
 Ap (show(CU T D l σ).bind _=_ from z0) λu jD e1 e2=>AJ e2 λhz e2=>Rr H (Cb rfl) h3 (Qz hz (hl env g σ s _ _ H K e1 lp)) e2
theorem Y0 (P:Px C T){i:Nat}{t:E}{x:Str}{y z:Expr}{np dp lp p:Pos}(h1:vr k x i=true)(ht:EX C T D A k t y):CE C T D A k (.assUI i t) (.Assign [.Name x np] (.IfExp y (.Dict [] [] dp) z lp) p):=λenv g σ s fl H K z0=>CH h1 λh3 h4=>
 Ap (show(Cd T D t σ).bind _=_ from z0) λu jD e1 e2=>by
  cases u with
  |false=>exact(ns e2).elim
  |true=>exact Qu H (Cb rfl) h3 (YC P (ht env g σ s _ _ H K e1)) e2
noncomputable def f_ (sc:Scope)(scope:Scope)(x:Str)(l1 l2:Nat):Bool:=
 (FP sc).blockKind==.function&&(FP sc).kindOf x==some .local&&l1==l2&&!(scope.names.any λ(n,kd)=>n==x&&(kd==.local||kd==.cell))
theorem aj {env:PySem.Env}{loc:Nat->Option AN}(H:Ah env k loc){elt:Expr}{gens:List Comprehension}{scope:Scope}{cpos p:Pos}{x:Str}{n:Nat}:
  swapsWith (.ListComp elt gens scope cpos) (some (.Name x p)) n env=pure (f_ k.sc scope x p.line cpos.line):=by
 rw[PX (env':=FP k.sc) H.sc];rfl
theorem bw (hA:Rm A n){own:Bool}{i:Nat}{elt it:E}{t:Tgt}{cond:Option E}{tgt pe y:Expr}{ifs:List Expr}{tg:List (Str×Nat)}{scope:Scope}{x:Str}{np cp p:Pos}(hx:vr k x i=true)(ht:EM t tgt=some tg)(h1:J8 k scope tg=true)(h2:(!BE y)=true)
  (hi:Ax C T D A k it y)(he:Ax C T D A (kIn k scope tg) elt pe)(hc:QU C T D A (kIn k scope tg) cond ifs){env:PySem.Env}{g:Gh}{σ:St}{s:Shared}{l:List V}{jD:St}{fl:Fl×St}
  (H:Ah env k g.loc)(K:Ok C g σ s)(e:ev T D (.comp elt t it cond) σ=some (.lst l,jD))
  (ea:BL i (if own then .ul l else .val (.lst l)) jD=some fl):Wp C A (exec (.Assign [.Name x np] (.ListComp pe [⟨tgt,y,ifs,0⟩] scope cp) p) env) (AQ C g s fl.2 fl.1) s:=CH hx λh7 h8=>by
 have hs:=aj H (elt:=pe) (gens:=[⟨tgt,y,ifs,0⟩]) (scope:=scope) (cpos:=cp) (p:=np) (x:=x) (n:=p.line)
 cases hb:f_ k.sc scope x np.line cp.line with
 |false=>
  rw[hb] at hs
  refine Ac (TZ (p:=cp) hA ht h1 h2 hi he hc env g σ s _ _ H K e) λl' e1 N=>?_
  cases e1
  cases own with
  |true=>exact Rr H hs h7 N ea
  |false=>exact T6 H hs h7 (N.mono λ_ _ q=>q.frz) ea
 |true=>
  rw[hb] at hs
  refine Ai (show(ev T D it σ).bind _=_ from e) λx' e1 e=>Ai e λl' e2 e=>Ai e λq e3 e=>Ac (Option.map_eq_some_iff.1 e) λz e4 e=>?_
  cases e
  refine AU (Dc e4) λez hz=>?_
  cases ez
  rw[Ca ea]
  exact YL hA.hd H (My ht h1) (B_ h2) (gn he hc) own hs h7 (hi env g σ s _ _ H K e1) e2 e3 hz
theorem fH (hA:Rm A n){ts:List Nat}{e:E}{es:List Expr}{m:Nat}{v:Expr}{tp p:Pos}{tg:List (Str×Nat)}(h1:Bc es ts=some tg)(h2:O6 k tg=true)(h3:(!KA v)=true)(he:Ax C T D A k e v):CE C T D A k (.unp ts e) (.Assign [.Tuple es m tp] v p):=λenv g σ s fl H K z0=>
 Ap (show(Mine.Internal.ev T D e σ).bind _=_ from z0) λu jD e1 e2=>Ai e2 λvs e3 e2=>by
  refine AS e2 λr e4=>?_
  exact aR hA.hd H (B_ h3) h1 (PE h2) (he env g σ s _ _ H K e1) e3 e4
theorem A5.len {C:Cx}{g:Gh}{vs:List V}{xs:List Value}(h:A5 C g vs xs):xs.length=vs.length:=Ak.length h
@[elab_as_elim] theorem DP.e {g:Gh}{s s':Shared}{jI:St}{l:List V}{x:Value}{M:Value->Prop}(h:DP C g s jI l x s')(k:∀g' a xs,Go g s g' s'->Ok C g' jI s'->AX g' s' a->A6 "list" s'.heap.get? a xs->Ak C g'.F g'.φ l xs->¬As s a->M (.ref a)):M x:=
 let ⟨g',a,xs,h1,h2,h3,h4,h5,h6,_,h8⟩:=h;h1▸k g' a xs h2 h3 h4 h5 h6 h8
@[elab_as_elim] theorem Dk.e {g:Gh}{s s':Shared}{jI:St}{l:List (V×V)}{x:Value}{M:Value->Prop}(h:Dk C g s jI l x s')(k:∀g' a o,Go g s g' s'->Ok C g' jI s'->AX g' s' a->s'.heap.get? a=some o->Cu C g' o l->(a==sysModules)=false->¬As s a->M (.ref a)):M x:=
 let ⟨g',a,xs,h1,h2,h3,h4,h5,h6,h7,h8⟩:=h;h1▸k g' a xs h2 h3 h4 h5 h6 h7 h8
theorem PF:∀{us:List UK}{l:List E}{σ:St},Jw us=some l->Ec T D us σ=(CU T D l σ).map λy=>(y.1.map Slot.val,y.2)
 |[],_,_,h=>by rw[<-s1 h];rfl
 |.ul::_,_,_,h=>(ns h).elim
 |.ud::_,_,_,h=>(ns h).elim
 |.val e::r,_,σ,h=>by
  refine CG (show(Jw r).map (e::·)=some _ from h) λl h1=>?_
  show((ev T D e σ).bind λx=>(Ec T D r x.2).map λy=>(Slot.val x.1::y.1,y.2))=((ev T D e σ).bind λx=>(CU T D l x.2).map λy=>(x.1::y.1,y.2)).map _
  cases ev T D e σ with
  |none=>rfl
  |some x=>
   show(Ec T D r x.2).map _=Option.map _ ((CU T D l x.2).map _)
   rw[PF h1]
   cases CU T D l x.2<;>rfl
theorem Vn (hl:∀l:List E,SndL P D A l){us:List UK}{os:List Expr}(h:(GF P.nm us k os).2=true):gN C T D A k us (GF P.nm us k os).1:=by
 refine SK (M:=λpes=>gN C T D A k us pes) h λl h1 h2 env g σ s sls jI H K e=>?_
 rw[PF h1] at e
 refine AS e λy e1=>?_
 exact⟨y.1,rfl,(hl l).e k os h2 env g σ s _ _ H K e1⟩
theorem iw (hl:∀l:List E,SndL P D A l){us:List UK}{os:List Expr}(h:(TP P.nm us k os).2=true):aP C T D A k us (TP P.nm us k os).1:=by
 have d:∀{us:List UK}{os:List Expr},(GF P.nm us k os).2=true->aP C T D A k us (GF P.nm us k os).1:=λh env g σ s sls jI H K e pos=>
  Ac (Vn hl h env g σ s sls jI H K e) λws hw q=>hw▸(q pos).r λys jG jH G2 K2 r=>⟨jH,G2,K2,.vals r,by rw[List.length_map,A5.len r]⟩
 cases us with
 |nil=>exact d h
 |cons u r=>cases u with
  |val e=>exact d h
  |ul=>
   intro env g σ s sls jI H K e pos
   refine AS (show(Ec T D r σ).map _=_ from e) λy e1=>?_
   show Wp C A (spliced (backTo pos (starEach (.List [] _::(GF P.nm r k os.tail).1) env))) _ s
   rw[Bp rfl]
   refine spliced_cons ((Qz (vs:=[]) rfl (Q_ K)).mono λx jC N=>?_)
   refine DP.e N λjE a xs G K1 R f hr hn=>?_
   refine Ac (Vn hl h env jE _ jC _ _ (H.go G) K1 e1) λws hw q=>?_
   rw[hw]
   have:xs=[]:=by simpa only[Ak] using hr
   subst this
   refine(q pos).r λys jG jH G2 K2 r=>⟨jH,G.trans G2,K2,?_,by rw[List.length_cons,List.length_cons,List.length_map,A5.len r]⟩
   refine Ac f λo fo f1=>?_
   exact .ul r (G2.raw R fo).1 ⟨o,(G2.raw R fo).2,f1⟩ hn
  |ud=>
   intro env g σ s sls jI H K e pos
   refine AS (show(Ec T D r σ).map _=_ from e) λy e1=>?_
   show Wp C A (spliced (backTo pos (starEach (.Dict [] [] _::(GF P.nm r k os.tail).1) env))) _ s
   rw[Bp rfl]
   refine spliced_cons ((I6 K P).mono λx jC N=>?_)
   refine Dk.e N λjE a o G K1 R f hr hm hn=>?_
   refine Ac (Vn hl h env jE _ jC _ _ (H.go G) K1 e1) λws hw q=>?_
   rw[hw]
   refine(q pos).r λys jG jH G2 K2 r=>⟨jH,G.trans G2,K2,?_,by rw[List.length_cons,List.length_cons,List.length_map,A5.len r]⟩
   exact .ud r (G2.raw R f).1 (G2.raw R f).2 (hr.mono G2.F G2.φ) hm hn
theorem Eo:∀{us:List UK}{σ:St}{sls:List Slot}{jD:St},Ec T D us σ=some (sls,jD)->sls.length=us.length
 |[],_,_,_,h=>by rw[<-(p2 (show some (([]:List Slot),_)=_ from h)).1];rfl
 |.ul::r,_,_,_,h=>by
  refine AS (show(Ec T D r _).map _=_ from h) λx e1=>?_
  exact congrArg (·+1) (Eo e1)
 |.ud::r,_,_,_,h=>by
  refine AS (show(Ec T D r _).map _=_ from h) λx e1=>?_
  exact congrArg (·+1) (Eo e1)
 |.val e::r,σ,_,_,h=>by
  refine Ai (show(ev T D e σ).bind _=_ from h) λy e0 h=>?_
  refine AS h λx e1=>?_
  exact congrArg (·+1) (Eo e1)
theorem dH (hA:Rm A n){rv:Bool}{ts:List Nat}{us:List UK}{es vs:List Expr}{m m':Nat}{tp vp p:Pos}{tg:List (Str×Nat)}(h1:Bc es ts=some tg)(h2:O6 k tg=true)(h3:SR k.sc (.Tuple es m tp) (.Tuple vs m' vp) rv tg=true)(h4:Nat.ble us.length 16=true)(hu:aP C T D A k us vs):
  CE C T D A k (.swp rv ts us) (.Assign [.Tuple es m tp] (.Tuple vs m' vp) p):=λenv g σ s fl H K z0=>
 Ap (show(Ec T D us σ).bind _=_ from z0) λu jD e1 e2=>by
  refine AS e2 λr e3=>?_
  exact a_ hA.hd H h1 (PE h2) (Wk h3) (by rw[Eo e1];exact Nat.le_trans (Nat.le_of_ble_eq_true h4) (by decide)) (hu env g σ s _ _ H K e1 vp) (by cases rv<;>exact e3)
theorem dT (P:Px C T){i f:Nat}{e:E}{x:Str}{v:Expr}{np ap p:Pos}(h:vr k x i=true)(he:Ax C T D A k e v):CE C T D A k (.sat i f e) (.Assign [.Attribute (.Name x np) (P.nm.fld f) ap] v p):=λenv g σ s fl H K z0=>CH h λh1 h2=>
 Ap (show(Mine.Internal.ev T D e σ).bind _=_ from z0) λu jD e1 e2=>bq (F:=λc fs=>match T.fok c f&&Nat.blt fs.length 64 with|true=>BL i (.uo c (Cm f u fs)) jD|false=>none) e2 λc fs hs e2=>AJ e2 λhf e2=>
  ZJ P H h2 h1 (he env g σ s _ _ H K e1) hs hf e2
theorem bV {β:Type}{u:V}{h:Hp}{F:Nat->Nat->List (Nat×V)->Option β}{y:β}{M:V->Prop}(e:(match u with
   |.ref n=>match nth h n with
    |some (.ins c fs)=>F n c fs
    |_=>none
   |_=>none)=some y)(k:∀n c fs,nth h n=some (.ins c fs)->F n c fs=some y->M (.ref n)):M u:=by
 cases u with
 |ref m=>
   dsimp only at e
   cases hn:nth h m with
   |none=>rw[hn] at e;exact(ns e).elim
   |some c=>
    rw[hn] at e
    cases c with
    |lst=>exact(ns e).elim
    |ins l=>exact k _ _ _ hn e
 |_=>exact(ns e).elim
theorem eF {β:Type}{u v:V}{h:Hp}{F:Nat->List V->Int->Option β}{y:β}{M:V->V->Prop}(e:(match u,v with
   |.ref n,.int j=>match nth h n with
    |some (.lst l)=>F n l j
    |_=>none
   |_,_=>none)=some y)(k:∀n j l,nth h n=some (.lst l)->F n l j=some y->M (.ref n) (.int j)):M u v:=by
 cases u with
 |ref m=>
  cases v with
  |int j=>
   dsimp only at e
   cases hn:nth h m with
   |none=>rw[hn] at e;exact(ns e).elim
   |some c=>
    rw[hn] at e
    cases c with
    |ins=>exact(ns e).elim
    |lst l=>exact k _ _ _ hn e
  |_=>exact(ns e).elim
 |_=>exact(ns e).elim
theorem fO (P:Px C T){f:Nat}{a e:E}{x v:Expr}{ap p:Pos}(h:(!Br v)=true)(ha:Ax C T D A k a x)(he:Ax C T D A k e v):CE C T D A k (.hat a f e) (.Assign [.Attribute x (P.nm.fld f) ap] v p):=λenv g σ s fl H K z0=>
 Ap (show(Mine.Internal.ev T D e σ).bind _=_ from z0) λu jD e1 e2=>Ap e2 λw jF e3 e2=>by
  refine bV (M:=λw=>ev T D a jD=some (w,jF)->Wp C A (exec (.Assign [.Attribute x (P.nm.fld f) ap] v p) env) (AQ C g s fl.2 fl.1) s) e2 (λn c fs hs e2 e3=>AJ e2 λhf e2=>?_) e3
  rw[<-s1 e2]
  exact bH P H (B_ h) (he env g σ s _ _ H K e1) (λjE jC G K1=>ha env jE _ jC _ _ (H.go G) K1 e3) hs hf
theorem fR {a ix e:E}{x y v:Expr}{ap p:Pos}(h:(!Br v)=true)(ha:Ax C T D A k a x)(hi:Ax C T D A k ix y)(he:Ax C T D A k e v):CE C T D A k (.hit a ix e) (.Assign [.Subscript x y ap] v p):=λenv g σ s fl H K z0=>
 Ap (show(Mine.Internal.ev T D e σ).bind _=_ from z0) λu jD e1 e2=>Ap e2 λw jF e3 e2=>Ap e2 λz jN e4 e2=>by
  refine eF (M:=λw z=>ev T D a jD=some (w,jF)->ev T D ix jF=some (z,jN)->Wp C A (exec (.Assign [.Subscript x y ap] v p) env) (AQ C g s fl.2 fl.1) s) e2 (λn j l hs e2 e3 e4=>?_) e3 e4
  refine CG e2 λj e5=>?_
  exact Zm H (B_ h) (he env g σ s _ _ H K e1) (λjE jC G K1=>ha env jE _ jC _ _ (H.go G) K1 e3) (λjE jC G K1=>hi env jE _ jC _ _ (H.go G) K1 e4) hs e5
theorem cX {i:Nat}{ix e:E}{x:Str}{y v:Expr}{np ap p:Pos}(h0:vr k x i=true)(h:(!Br v)=true)(hi:Ax C T D A k ix y)(he:Ax C T D A k e v):CE C T D A k (.uit i ix e) (.Assign [.Subscript (.Name x np) y ap] v p):=λenv g σ s fl H K z0=>CH h0 λh1 h2=>
 Ap (show(Mine.Internal.ev T D e σ).bind _=_ from z0) λu jD e1 e2=>Lq (show _=_ from e2) λhu e2=>Ap e2 λz jF e3 e2=>by
  refine Xl (M:=λz=>ev T D ix jD=some (z,jF)->Wp C A (exec (.Assign [.Subscript (.Name x np) y ap] v p) env) (AQ C g s fl.2 fl.1) s) e2 (λl j hs e2 e3=>Ai e2 λm e5 e2=>?_) e3
  exact cS (j:=0) H (B_ h) h2 h1 (Q0 hu) (he env g σ s _ _ H K e1) (λjE jC G K1=>hi env jE _ jC _ _ (H.go G) K1 e3) hs e5 e2
theorem fL {i:Nat}{ix e:E}{x:Str}{y v:Expr}{np ap p:Pos}(h0:vr k x i=true)(h:(!Br v)=true)(hi:Ax C T D A k ix y)(he:Ax C T D A k e v):CE C T D A k (.udt i ix e) (.Assign [.Subscript (.Name x np) y ap] v p):=λenv g σ s fl H K z0=>CH h0 λh1 h2=>
 Ap (show(Mine.Internal.ev T D e σ).bind _=_ from z0) λu jD e1 e2=>Lq (show _=_ from e2) λhu e2=>Ap e2 λz jF e3 e2=>
  bQ (F:=λl=>match isStr z&&C3 l&&Nat.blt l.length 64 with
    |true=>(Cj z u l).bind λd=>BL i (.ud d) jF
    |false=>none) e2 λl hs e2=>AJ e2 λhk e2=>Ai e2 λj e5 e2=>
  br H (B_ h) h2 h1 hu (he env g σ s _ _ H K e1) (λjE jC G K1=>hi env jE _ jC _ _ (H.go G) K1 e3) hs hk e5 e2
theorem dv {i:Nat}{e:E}{x:Str}{v:Expr}{np ap cp p:Pos}(h0:vr k x i=true)(h1:ln ap cp=true)(h2:Ar v=true)(he:Ax C T D A k e v):CE C T D A k (.app i e) (.Expr (.Call (.Attribute (.Name x np) "append" ap) [v] [] cp) p):=λenv g σ s fl H K z0=>CH h0 λh3 h4=>
 Lq (show _=_ from z0) λhu z0=>Ap z0 λu jD e1 e2=>cb (F:=λl=>match AO (l.length+1) with|true=>BL i (.ul (l++[u])) jD|false=>none) e2 λl hs e2=>AJ e2 λhz e2=>
  Zt H K h4 h3 hu h2 (J7 h1) (he env g σ s _ _ H K e1) hs hz e2
theorem eN {β:Type}{o:Option Slot}{u:V}{F:List V->List V->Option β}{y:β}{M:V->Prop}(e:(match o,u with
   |some (.ul l),.lst j=>F l j
   |_,_=>none)=some y)(k:∀l j,o=some (.ul l)->F l j=some y->M (.lst j)):M u:=by
 cases o with
 |none=>exact(ns e).elim
 |some c=>cases c with
  |ul l=>cases u with
   |lst j=>exact k _ _ rfl e
   |_=>exact(ns e).elim
  |_=>exact(ns e).elim
theorem d9 {β:Type}{o:Option Slot}{u:V}{F:List (V×V)->List (V×V)->Option β}{y:β}{M:V->Prop}(e:(match o,u with
   |some (.ud l),.dct j=>F l j
   |_,_=>none)=some y)(k:∀l j,o=some (.ud l)->F l j=some y->M (.dct j)):M u:=by
 cases o with
 |none=>exact(ns e).elim
 |some c=>cases c with
  |ud l=>cases u with
   |dct j=>exact k _ _ rfl e
   |_=>exact(ns e).elim
  |_=>exact(ns e).elim
theorem eV {i:Nat}{e:E}{x:Str}{v:Expr}{np ap cp p:Pos}(h0:vr k x i=true)(h1:ln ap cp=true)(h2:Ar v=true)(he:Ax C T D A k e v):CE C T D A k (.ext i e) (.Expr (.Call (.Attribute (.Name x np) "extend" ap) [v] [] cp) p):=λenv g σ s fl H K z0=>CH h0 λh3 h4=>
 Lq (show _=_ from z0) λhu z0=>Ap z0 λu jD e1 e2=>by
  refine eN (M:=λu=>ev T D e σ=some (u,jD)->Wp C A (exec (.Expr (.Call (.Attribute (.Name x np) "extend" ap) [v] [] cp) p) env) (AQ C g s fl.2 fl.1) s) e2 (λl j hs e2 e1=>AJ e2 λhz e2=>?_) e1
  exact Zl H K h4 h3 hu h2 (J7 h1) (he env g σ s _ _ H K e1) hs hz e2
theorem dN {i:Nat}{e:E}{x:Str}{v:Expr}{np ap cp p:Pos}(h0:vr k x i=true)(h1:ln ap cp=true)(h2:Ar v=true)(he:Ax C T D A k e v):CE C T D A k (.upd i e) (.Expr (.Call (.Attribute (.Name x np) "update" ap) [v] [] cp) p):=λenv g σ s fl H K z0=>CH h0 λh3 h4=>
 Lq (show _=_ from z0) λhu z0=>Ap z0 λu jD e1 e2=>by
  refine d9 (M:=λu=>ev T D e σ=some (u,jD)->Wp C A (exec (.Expr (.Call (.Attribute (.Name x np) "update" ap) [v] [] cp) p) env) (AQ C g s fl.2 fl.1) s) e2 (λl j hs e2 e1=>AJ e2 λhz e2=>Ai e2 λd' e5 e2=>?_) e1
  exact ZG H K h4 h3 hu h2 (J7 h1) (he env g σ s _ _ H K e1) hs hz e5 e2
theorem aT:Fm C T D A k [] []:=λenv g σ s fl H K z0=>by
 rw[<-s1 (show some _=some fl from z0)];exact L8 K
theorem YE {x:S}{r:List S}{p:Stmt}{q:List Stmt}(hx:CE C T D A k x p)(hr:Fm C T D A k r q):Fm C T D A k (x::r) (p::q):=λenv g σ s fl H K z0=>
 Ap (show(ex T D x σ).bind _=_ from z0) λf jD e1 e2=>V0 (fl:=(f,jD)) (hx env g σ s _ H K e1) (by
  cases f with
  |nxt=>exact λjE jC G K1=>hr env jE _ jC _ (H.goS G) K1 e2
  |ret v=>exact(Option.some.inj e2).symm)
end
end Mine.Internal
end
section
set_option maxRecDepth 10000
namespace Mine.Internal
open PySem PySem.Calls PyProof.Rows PySem.W
section
variable {C:Cx}{T:Tab}{P:Px C T}{D:Den}{A:Around}{n:Nat}
theorem Pg {a it:E}{t:Tgt}{c:Option E}{σ:St}{u:V}{jD:St}(e:ev T D (.comp a t it c) σ=some (u,jD)):∃l,u=.lst l:=
 Ai (show(ev T D it σ).bind _=_ from e) λx' e1 e=>Ai e λl' e2 e=>Ai e λq e3 e=>by
  refine AS e λz e4=>?_
  exact⟨_,(Dc e4).1⟩
theorem U_ (hD:DOk P D n)(hA:Rm A n){i:Nat}{e:E}{k:Ck}{o:Stmt}(hx:vr k (Af (An o 1)).x i=true)(hc:Nat.beq e.ctorIdx 26=true)(h:(tr P.nm e 0 k (An o 0)).2=true):
  CE C T D A k (.assC i e) (.Assign [C5 (An o 1)] (tr P.nm e 0 k (An o 0)).1 (Bl o).p)/\CE C T D A k (.assUC i e) (.Assign [C5 (An o 1)] (tr P.nm e 0 k (An o 0)).1 (Bl o).p):=by
 cases e with
 |comp a t it c=>
  refine SK (M:=λpe=>CE C T D A k (.assC i (.comp a t it c)) (.Assign [C5 (An o 1)] pe (Bl o).p)/\CE C T D A k (.assUC i (.comp a t it c)) (.Assign [C5 (An o 1)] pe (Bl o).p)) h λtg h1 h=>Ab h λh2 h=>Ab h λh3 h=>Ab h λh4 h=>Ab h λh5 h6=>?_
  have q:=λown {env g σ s l jD fl}=>bw (A:=A) (env:=env) (g:=g) (σ:=σ) (s:=s) (l:=l) (jD:=jD) (fl:=fl) (np:=(Af (An o 1)).p) (cp:=(Af (An o 0)).p) (p:=(Bl o).p) hA (own:=own) hx h1 h2 h3 ((snd hD hA it).e k _ h4) ((snd hD hA a).e _ _ h5) (Zd hD hA c _ _ h6)
  exact⟨λenv g σ s fl H K z0=>Ap (show(Mine.Internal.ev T D (.comp a t it c) σ).bind _=_ from z0) λu jD e1 e2=>AA (Pg e1) λl hl=>by
    subst hl;exact q false H K e1 e2,
   λenv g σ s fl H K z0=>Ap (show(Mine.Internal.ev T D (.comp a t it c) σ).bind _=_ from z0) λu jD e1 e2=>AA (Pg e1) λl hl=>by
    subst hl;exact q true H K e1 e2⟩
 |_=>exact(ft hc).elim
theorem YG (hD:DOk P D n)(hA:Rm A n){i:Nat}{l:List (E×E)}{k:Ck}{o:Stmt}(hx:vr k (Af (An o 1)).x i=true)(h:(tr P.nm (.dsp l) 0 k (An o 0)).2=true):
  CE C T D A k (.assUD i l) (.Assign [C5 (An o 1)] (tr P.nm (.dsp l) 0 k (An o 0)).1 (Bl o).p):=λenv g σ s fl H K z0=>CH hx λh3 h4=>Ab h λh1 h2=>BH (Wn hD hA l k _ h2) λh5 h6 h7=>
 Ap (show(Hy T D l σ).bind _=_ from z0) λu jD e1 e2=>AJ e2 λhz e2=>Ai e2 λd e3 e2=>Qu H (Cb rfl) h3 (Xa h5 h6 h1 h7 P H K e1 hz e3) e2
theorem fT {e:E}{k:Ck}{x:Expr}{p:Pos}(h:(!Br x)=true)(he:Ax C T D A k e x):CE C T D A k (.exp e) (.Expr x p):=λenv g σ s fl H K z0=>by
 refine CG (show(Mine.Internal.ev T D e σ).map _=some fl from z0) λu e1=>?_
 exact a9 H (B_ h) (he env g σ s _ _ H K e1)
theorem dY {e:E}{k:Ck}{x:Expr}{p:Pos}(he:Ax C T D A k e x):CE C T D A k (.ret e) (.Return (some x) p):=λenv g σ s fl H K z0=>by
 refine CG (show(Mine.Internal.ev T D e σ).map _=some fl from z0) λu e1=>?_
 exact bW (he env g σ s _ _ H K e1)
theorem dF {t:E}{a b:List S}{k:Ck}{x:Expr}{pa pb:List Stmt}{p:Pos}(ht:EX C T D A k t x)(ha:Fm C T D A k a pa)(hb:Fm C T D A k b pb):CE C T D A k (.iff t a b) (.If x pa pb p):=λenv g σ s fl H K z0=>
 Ap (show(Cd T D t σ).bind _=_ from z0) λu jD e1 e2=>Zg (ht env g σ s _ _ H K e1) λjE jC G K1=>by
  cases u with
  |true=>exact ha env jE _ jC _ (H.go G) K1 e2
  |false=>exact hb env jE _ jC _ (H.go G) K1 e2
theorem bM (hA:Rm A n){t:Tgt}{e:E}{b:List S}{k:Ck}{tt x:Expr}{pb:List Stmt}{p:Pos}{tg:List (Str×Nat)}(h1:EM t tt=some tg)(h2:O6 k tg=true)(h3:(!BE x)=true)(he:Ax C T D A k e x)(hb:Fm C T D A k b pb):CE C T D A k (.forr t e b) (.For tt x pb [] p):=λenv g σ s fl H K z0=>
 Ap (show(Mine.Internal.ev T D e σ).bind _=_ from z0) λu jD e1 e2=>Ai e2 λl e3 e2=>
  YJ hA.hd H (B_ h3) h1 (PE h2) (he env g σ s _ _ H K e1) e3 e2 λjE jC jF fl' H1 K1 e'=>hb env jE jF jC fl' H1 K1 e'
theorem dw {t:E}{b:List S}{k:Ck}{x:Expr}{pb:List Stmt}{p:Pos}(ht:EX C T D A k t x)(hb:Fm C T D A k b pb):CE C T D A k (.whl t b) (.While x pb [] p):=λenv g σ s fl H K z0=>
 Zw H K z0 (λjE jC jD c jF H1 K1 e'=>ht env jE jD jC c jF H1 K1 e') λjE jC jF fl' H1 K1 e'=>hb env jE jF jC fl' H1 K1 e'
mutual
theorem ie (hD:DOk P D n)(hA:Rm A n):∀x:S,∀k o,(Xp P.nm x k o).2=true->CE C T D A k x (Xp P.nm x k o).1
 |.ass i e=>λk o h=>Ab h λh h1=>Ab h λh2 h3=>fV h2 h3 ((snd hD hA e).e k _ h1)
 |.assC i e=>λk o h=>Ab h λh h1=>Ab h λh2 h3=>(U_ hD hA h2 h3 h1).1
 |.assU i l=>λk o h=>Ab h λh h1=>bh h ((C1 hD hA l).e k _ h1)
 |.assUC i e=>λk o h=>Ab h λh h1=>Ab h λh2 h3=>(U_ hD hA h2 h3 h1).2
 |.assUD i l=>λk o h=>Ab h λh h1=>YG hD hA h h1
 |.assUI i t=>λk o h=>Ab h λh h1=>Y0 P h ((snd hD hA t).t k _ h1)
 |.unp ts e=>λk o h=>Ac (BV h) λtg h0 h=>Ab h λh1 h=>Ab h λh2 h3=>fH hA h0 h1 h2 ((snd hD hA e).e k _ h3)
 |.swp rv ts us=>λk o h=>Ac (BV h) λtg h0 h=>Ab h λh1 h=>Ab h λh2 h=>Ab h λh3 h4=>dH hA h0 h1 h2 h3 (iw (C1 hD hA) h4)
 |.sat i f e=>λk o h=>Ab h λh h1=>dT P h ((snd hD hA e).e k _ h1)
 |.hat a f e=>λk o h=>Ab h λh h1=>Ab h1 λh2 h3=>fO P h ((snd hD hA a).e k _ h2) ((snd hD hA e).e k _ h3)
 |.hit a ix e=>λk o h=>Ab h λh h1=>Ab h1 λh2 h3=>Ab h3 λh4 h5=>fR h ((snd hD hA a).e k _ h2) ((snd hD hA ix).e k _ h4) ((snd hD hA e).e k _ h5)
 |.uit i ix e=>λk o h=>Ab h λh h1=>Ab h1 λh2 h3=>Ab h3 λh4 h5=>cX h h2 ((snd hD hA ix).e k _ h4) ((snd hD hA e).e k _ h5)
 |.udt i ix e=>λk o h=>Ab h λh h1=>Ab h1 λh2 h3=>Ab h3 λh4 h5=>fL h h2 ((snd hD hA ix).e k _ h4) ((snd hD hA e).e k _ h5)
 |.app i e=>λk o h=>Ab h λh h1=>Ab h1 λh2 h3=>Ab h3 λh4 h5=>dv h h2 h4 ((snd hD hA e).e k _ h5)
 |.ext i e=>λk o h=>Ab h λh h1=>Ab h1 λh2 h3=>Ab h3 λh4 h5=>eV h h2 h4 ((snd hD hA e).e k _ h5)
 |.upd i e=>λk o h=>Ab h λh h1=>Ab h1 λh2 h3=>Ab h3 λh4 h5=>dN h h2 h4 ((snd hD hA e).e k _ h5)
 |.exp e=>λk o h=>Ab h λh h1=>fT h ((snd hD hA e).e k _ h1)
 |.iff t a b=>λk o h=>Ab h λh h1=>Ab h1 λh2 h3=>dF ((snd hD hA t).t k _ h) (F7 hD hA a k _ h2) (F7 hD hA b k _ h3)
 |.forr t e b=>λk o h=>Ac (BV h) λtg h0 h=>Ab h λh1 h=>Ab h λh2 h=>Ab h λh3 h4=>bM hA h0 h1 h2 ((snd hD hA e).e k _ h3) (F7 hD hA b k _ h4)
 |.whl t b=>λk o h=>Ab h λh h1=>dw ((snd hD hA t).t k _ h) (F7 hD hA b k _ h1)
 |.ret e=>λk o h=>dY ((snd hD hA e).e k _ h)
 |.rse=>λk o h env g σ s fl H K z0=>nomatch (show none=some _ from z0)
termination_by structural x=>x
theorem F7 (hD:DOk P D n)(hA:Rm A n):∀l:List S,∀k os,(CQ P.nm l k os).2=true->Fm C T D A k l (CQ P.nm l k os).1
 |[]=>λ_ _ _=>aT
 |x::r=>λk os h=>Ab h λh1 h2=>YE (ie hD hA x k _ h1) (F7 hD hA r k _ h2)
termination_by structural x=>x
end
end
mutual
noncomputable def RK (K:Frag):V->Value->Bool
 |.none,x=>(match x with|.none=>true|_=>false)
 |.bool b,x=>(match x with|.bool c=>b==c|_=>false)
 |.int i,x=>(match x with|.int j _=>decide (i=j)|_=>false)
 |.str l,x=>(match x with|.str s _=>E3 l s.cps.toList&&Nat.ble l.length 1000|_=>false)
 |.bytes l,x=>(match x with|.bytes b _=>E3 l (b.toList.map UInt8.toNat)&&Nat.ble l.length 1000|_=>false)
 |.tup l,x=>(match x with
  |.ref a=>(match K.lookup a with
   |some ⟨.type T,none,.seq xs _,_⟩=>decide (T="tuple")&&(Nat.ble l.length 1000&&Ma K l xs.toList)
   |_=>false)
  |_=>false)
 |_,_=>false
termination_by structural x=>x
noncomputable def Ma (K:Frag):List V->List Value->Bool
 |[],xs=>FR xs
 |v::l,xs=>(match xs with|[]=>false|x::r=>RK K v x&&Ma K l r)
termination_by structural x=>x
end
section
variable {C:Cx}{K:Frag}(hk:∀a o,K.lookup a=some o->C.base a=some o)
include hk
mutual
theorem QD:∀{v:V}{x:Value},RK K v x=true->Rp C C.base [] v x
 |.none,x,h=>by
  cases x<;>first|cases h;done|skip
  exact rfl
 |.bool b,x,h=>by
  cases x<;>first|cases h;done|skip
  show _=_
  rw[beq_iff_eq.mp h]
 |.int i,x,h=>by
  cases x<;>first|cases h;done|skip
  exact⟨_,by rw[of_decide_eq_true h]⟩
 |.str l,x,h=>by
  cases x<;>try cases h
  rename_i s t
  have⟨h1,h2⟩:=A8 h
  skip
  refine⟨Nat.le_trans (Nat.le_of_ble_eq_true h2) (by decide),t,?_⟩
  rw[EN h1]
 |.bytes l,x,h=>by
  cases x<;>try exact(ft h).elim
  rename_i b t
  have h1:=(A8 h).1;have h2:=(A8 h).2
  have h1:=EN h1
  skip
  refine⟨Nat.le_trans (Nat.le_of_ble_eq_true h2) (by decide),?_,t,?_⟩
  ·subst h1
   intro x hx
   obtain⟨y,_,rfl⟩:=List.mem_map.1 hx
   exact y.toNat_lt
  ·subst h1;rw[N0]
 |.tup l,x,h=>by
  cases x<;>first|exact(ft h).elim;done|skip
  rename_i a
  have h:(match K.lookup a with
   |some ⟨.type T,none,.seq xs _,_⟩=>decide (T="tuple")&&(Nat.ble l.length 1000&&Ma K l xs.toList)
   |_=>false)=true:=h
  split at h
  ·rename_i T xs n sl ho
   have h1:=(A8 h).1;have h2:=(A8 h).2
   have h3:=(A8 h2).1;have h4:=(A8 h2).2
   skip
   exact⟨Nat.le_trans (Nat.le_of_ble_eq_true h3) (by decide),a,xs.toList,rfl,⟨_,hk _ _ ho,by rw[of_decide_eq_true h1],rfl,n,rfl⟩,L2 h4⟩
  ·exact(ft h).elim
 |.lst _,_,h=>nomatch h
 |.dct _,_,h=>nomatch h
 |.obj _ _,_,h=>nomatch h
 |.ref _,_,h=>nomatch h
 |.rng _ _ _,_,h=>nomatch h
theorem L2:∀{l:List V}{xs:List Value},Ma K l xs=true->Ak C C.base [] l xs
 |[],xs,h=>by simp only[Ak];exact Ey h
 |v::l,xs,h=>by
  cases xs with
  |nil=>cases h
  |cons x r=>
   have⟨h1,h2⟩:=A8 (show(RK K v x&&Ma K l r)=true from h)
   skip
   exact⟨x,r,rfl,QD h1,L2 h2⟩
end
end
noncomputable def OR (K:Frag)(l:List V):Value->Bool
 |.none=>FR l
 |.ref d=>(match K.lookup d with
  |some ⟨_,_,.seq xs _,_⟩=>Ma K l xs.toList
  |_=>false)
 |_=>false
noncomputable def Lr (K:Frag)(q:Str):Value->Bool
 |.ref c=>(match K.lookup c with
  |some ⟨_,_,.fields vs,_⟩=>(match vs.toList with
   |_::.str x _::_=>D_ x q
   |_=>false)
  |_=>false)
 |_=>false
theorem XI {C:Cx}{T:Tab}(P:Px C T){q:Str}{v:Value}(h7:Lr P.K q v=true):∀h:Heap,Bk C.base h.get?->h.CodeRec v q:=by
 intro hp hle
 unfold Lr at h7
 split at h7
 ·rename_i c
  split at h7
  ·rename_i c1 d1 vs sl hl
   split at h7
   ·rename_i v0 x t r hv
    refine⟨c,_,vs,t,rfl,hle _ _ (P.kin _ _ hl),rfl,?_⟩
    rw[<-Array.getElem?_toList,hv,Lb h7]
    rfl
   ·exact(ft h7).elim
  ·exact(ft h7).elim
 ·exact(ft h7).elim
theorem bT {C:Cx}{T:Tab}(P:Px C T){l:List V}{v:Value}(h18:OR P.K l v=true):∃ds,Ak C C.base [] l ds/\∀s:Shared,Bk C.base s.heap.get?->∀{M:Model}{A:Around}{E:Value->Shared->Prop}{Q:Option (Array Value)->Shared->Prop},(∀r:Option (Array Value),(r.getD #[]).toList=ds->Q r s)->wpAny M A (seqItems? v) Q E s:=by
 unfold OR at h18
 split at h18
 ·rw[Ey h18]
  exact⟨[],by rfl,λs _ M A E Q q=>wpAny_pure (q none rfl)⟩
 ·split at h18
  ·rename_i c1 d1 xs n sl hl
   refine⟨xs.toList,L2 P.kin h18,λs hle M A E Q q=>?_⟩
   exact wpAny_bind (wpAny_load (hle _ _ (P.kin _ _ hl)) (wpAny_pure (q (some xs) rfl)))
  ·exact(ft h18).elim
 ·exact(ft h18).elim
noncomputable def W9 (f:Fn)(names:List Str)(fd:FuncData):Ck:=⟨fd.scope,Pm 0 names,names.length⟩
noncomputable def Wr (N:Nm)(K:Frag)(f:Fn)(names:List Str)(fd:FuncData)(body:List Stmt):Bool:=
 Nat.beq fd.globals 3&&(Nat.beq fd.builtins 0&&(FR fd.closure&&(!fd.scope.isCoroutine&&(!fd.scope.isGenerator&&(decide (fd.scope.kind=.function)&&(Lr K fd.qualname fd.code&&
 (FR fd.params.posonlyargs&&(decide (fd.params.args.map (·.arg)=names.take f.np)&&(!fd.params.vararg.isSome&&(FR fd.params.kwonlyargs&&(!fd.params.kwarg.isSome&&(Kc D_ names&&
 (Nat.ble f.np names.length&&(Nat.ble names.length f.nv&&(Nat.ble f.dfl.length f.np&&(names.all (λx=>EZ .local (lk x fd.scope.names)||EZ .cell (lk x fd.scope.names))&&(OR K f.dfl fd.defaults&&(CQ N f.body (W9 f names fd) body).2)))))))))))))))))
noncomputable def MS (N:Nm)(K:Frag)(a:Addr)(f:Fn)(names:List Str):(List Stmt×List Stmt)×Bool:=match K.lookup a with
 |none=>(([],[]),false)
 |some o=>match o.data with
  |.func fd=>match fd.body with
   |.stmts body=>(((CQ N f.body (W9 f names fd) body).1,body),Wr N K f names fd body)
   |_=>(([],[]),false)
  |_=>(([],[]),false)
theorem Q4 {α:Type}{o:Option α}(h:(!o.isSome)=true):o=none:=by cases o<;>first|rfl|exact(ft h).elim
theorem OS {C:Cx}{T:Tab}(P:Px C T){a:Addr}{f:Fn}{names:List Str}{o:Obj}{fd:FuncData}{body:List Stmt}(h:Wr P.nm P.K f names fd body=true)(ho:P.K.lookup a=some o)(hd:o.data=.func fd)(hb:fd.body=.stmts body):
  FnSt C a f (W9 f names fd) body names o fd/\(CQ P.nm f.body (W9 f names fd) body).2=true:=
 Ab h λh1 h=>Ab h λh2 h=>Ab h λh3 h=>Ab h λh4 h=>Ab h λh5 h=>Ab h λh6 h=>Ab h λh7 h=>Ab h λh8 h=>Ab h λh9 h=>Ab h λh10 h=>Ab h λh11 h=>Ab h λh12 h=>Ab h λh13 h=>Ab h λh14 h=>Ab h λh15 h=>Ab h λh16 h=>Ab h λh17 h=>Ab h λh18 h=>
 ⟨{ho:=P.kin _ _ ho,hd:=hd,sc:=rfl,gl:=Nat.eq_of_beq_eq_true h1,bl:=Nat.eq_of_beq_eq_true h2,body:=hb,clo:=Ey h3,co:=B_ h4,gen:=B_ h5,kind:=of_decide_eq_true h6,code:=XI P h7,p1:=Ey h8,p2:=of_decide_eq_true h9,p3:=Q4 h10,p4:=Ey h11,p5:=Q4 h12,nd:=Gz (f:=D_) (λx=>Dg x.cps.toList) h13,np:=Nat.le_of_ble_eq_true h14,nv:=Nat.le_of_ble_eq_true h15,ndf:=Nat.le_of_ble_eq_true h16,vars:=rfl,n:=rfl,
   kinds:=λx hx=>D1 (x:=x)▸(Bool.or_eq_true_iff.1 (List.all_eq_true.1 h17 x hx)).imp C6 C6,dfl:=bT P h18},h⟩
theorem T9 {C:Cx}{T:Tab}(P:Px C T){a:Addr}{f:Fn}{names:List Str}(h:(MS P.nm P.K a f names).2=true)(q:(MS P.nm P.K a f names).1.1=(MS P.nm P.K a f names).1.2):
  ∃k body o fd,FnSt C a f k body names o fd/\(CQ P.nm f.body k body).2=true/\(CQ P.nm f.body k body).1=body:=by
 unfold MS at h q
 cases hl:P.K.lookup a with
 |none=>rw[hl] at h;exact(ft h).elim
 |some o=>
  rw[hl] at h q
  dsimp only at h q
  cases hd:o.data with
  |func fd=>
   rw[hd] at h q
   dsimp only at h q
   cases hb:fd.body with
   |stmts body=>
    rw[hb] at h q
    exact⟨_,body,_,fd,(OS P h hl hd hb).1,(OS P h hl hd hb).2,q⟩
   |_=>rw[hb] at h;exact(ft h).elim
  |_=>rw[hd] at h;exact(ft h).elim
noncomputable def Uk (K:Frag)(c a:Addr)(f:Fn):Bool:=Nat.blt 0 f.np&&(Nat.ble f.dfl.length (f.np - 1)&&(makesIn K c&&(findIn K (.ref c) "__init__"==some (some (.ref a))&&typeIn K (.ref a)==some (.type "function"))))
theorem ZM {C:Cx}(P:Px C A.tb)(Mt:Nat->List Str)(hf:∀i f,A.fnAt i=some f->(MS P.nm P.K (P.fad i) f (Mt i)).2=true/\(MS P.nm P.K (P.fad i) f (Mt i)).1.1=(MS P.nm P.K (P.fad i) f (Mt i)).1.2)
  (hi:∀c i f,A.initOf c=some i->A.fnAt i=some f->Uk P.K (C.cad c) (P.fad i) f=true):∀n,DOk P (A.den n) n
 |0=>⟨λ_ _ _ _ _ _ _ e=>(nomatch (show none=some _ from e)),λ_ _ _ _ _ _ _ _ _ e=>(nomatch (show none=some _ from e))⟩
 |n+1=>⟨λA' hA f vs h v h' e g σ s xs hh K hx=>by
   obtain⟨x,e1,e2⟩:=Option.bind_eq_some_iff.1 (show(A.fnAt f).bind (λx=>SE A.tb (A.den n) x vs h)=_ from e)
   refine gW (T9 P (hf f x e1).1 (hf f x e1).2) λk body o fd S ht hq=>?_
   subst hh
   exact VM P S hA K hx e2 λA2 env g' jI s' fl hA2 H K2 e3=>(hq▸F7 (ZM P Mt hf hi n) hA2 x.body k body ht:Fm C A.tb (A.den n) A2 k x.body body) env g' jI s' fl H K2 e3,
  λA' hA c z vs h fs h' hz e g σ s xs hh K hx=>by
   refine Ai (show(A.initOf c).bind (λi=>(A.fnAt i).bind λx=>O7 A.tb (A.den n) c x vs h)=_ from e) λi e0 e=>?_
   refine Ai e λx e1 e2=>?_
   refine gW (T9 P (hf i x e1).1 (hf i x e1).2) λk body o fd S ht hq=>?_
   have hc:=hi c i x e0 e1
   have c1:=(A8 hc).1;have hc:=(A8 hc).2
   have c2:=(A8 hc).1;have hc:=(A8 hc).2
   have c3:=(A8 hc).1;have hc:=(A8 hc).2
   have c4:=(A8 hc).1;have c5:=(A8 hc).2
   subst hh
   exact TQ P S (Nat.le_of_ble_eq_true c1) (Nat.le_of_ble_eq_true c2) c3 (beq_iff_eq.mp c4) (beq_iff_eq.mp c5) hA K hx e2 λA2 env g' jI s' fl hA2 H K2 e3=>(hq▸F7 (ZM P Mt hf hi n) hA2 x.body k body ht:Fm C A.tb (A.den n) A2 k x.body body) env g' jI s' fl H K2 e3⟩
end Mine.Internal
end
section
set_option maxRecDepth 100000
set_option maxHeartbeats 0
namespace Mine.Internal
namespace H
open PySem PySem.W PySem.Calls PyProof.Rows
noncomputable abbrev pw:Program:=PySem.Challenge.pw_sq0116_01
noncomputable def hB:List Stmt:=PySem.Challenge.pw_sq0116_01.main.body
noncomputable def jg:Stmt:=.Pass ⟨0,0,0,0⟩
noncomputable def Wc:List Stmt->Nat->Stmt
 |[],_=>jg
 |s::_,0=>s
 |_::r,n+1=>Wc r n
noncomputable def WL:Stmt->List Stmt
 |.ClassDef _ _ _ b _ _ _ _ _ _ _=>b
 |_=>[]
noncomputable def NJ:Stmt->Arguments
 |.FunctionDef _ a _ _ _ _ _ _ _ _=>a
 |_=>⟨[],[],none,[],[],none,[]⟩
noncomputable def WN:Stmt->List Stmt
 |.FunctionDef _ _ b _ _ _ _ _ _ _=>b
 |_=>[]
noncomputable def Xr:Stmt->Scope
 |.FunctionDef _ _ _ _ _ _ s _ _ _=>s
 |_=>{kind:=.module,names:=[],isGenerator:=false,isCoroutine:=false,more:=[]}
noncomputable def hS (i:Nat):Stmt:=Wc hB i
noncomputable def hM (i j:Nat):Stmt:=Wc (WL (hS i)) j
noncomputable def hi (i:Int)(t:Nat):Value:=.int i t
noncomputable def hs (s:String)(t:Nat):Value:=.str (Str.ofString s) t
noncomputable def he (P:Params)(s:String)(t:Nat)(v:Value):DictEntry:=⟨PyData.keyHash P (Str.ofString s),.str (Str.ofString s) t,v⟩
noncomputable def gL:Stmt->Option (Str×Nat)
 |.FunctionDef n _ _ _ _ _ _ _ _ p=>some (n,p.line)
 |_=>none
noncomputable def gm:Stmt->Str×Nat
 |.ClassDef n _ _ _ _ _ _ _ _ _ p=>(n,p.line)
 |_=>(⟨#[]⟩,0)
noncomputable def KO (s:Stmt):Str:=((gL s).getD (gm s)).1
noncomputable def TY (s:Stmt):Nat:=((gL s).getD (gm s)).2
noncomputable def f7:Stmt->List Str
 |.ClassDef _ _ _ _ _ _ _ _ _ a _=>a
 |_=>[]
noncomputable def bF:List (Str×NameKind)->Option (List Str)
 |[]=>some []
 |(x,.local)::r=>(bF r).map (x::·)
 |(_,.globalImplicit)::r=>bF r
 |_=>none
noncomputable def hk (P:Params)(s:Str)(t:Nat)(v:Value):DictEntry:=⟨PyData.keyHash P s,.str s t,v⟩
noncomputable def AE (l:List Value):Obj:=⟨.type "tuple",none,.seq l.toArray 0,#[]⟩
noncomputable def BO (c:Value)(l:List Value):Obj:=⟨c,none,.fields l.toArray,#[]⟩
noncomputable def Eb (c:Value)(l:List DictEntry)(n:Nat):Obj:=⟨c,none,.dict l.toArray n,#[]⟩
noncomputable def SY (c:Value)(l:List (Option Value)):Obj:=⟨c,none,.plain,l.toArray⟩
noncomputable def RS (c:Value)(st:Stmt)(q:Str)(g:Addr)(dV pm cd:Value):Obj:=
 ⟨c,none,.func {name:=KO st,qualname:=q,params:=NJ st,body:=.stmts (WN st),scope:=Xr st,globals:=g,closure:=[],defaults:=dV,kwdefaults:=.none,doc:=.none,pyModule:=pm,annotations:=none,code:=cd,closureTuple:=.none,builtins:=0},#[]⟩
noncomputable def Vt (n:Str)(bases mro:List Value)(ns:Addr)(subs:List Value)(sl:List (Option Value)):Obj:=
 ⟨.type "type",none,.cls {name:=n,bases:=bases,mro:=mro,ns:=ns,qualname:=n,hasDict:=true,slotNames:=[],subclasses:=subs,abstract:=false,collection:=none,hasDel:=false},sl.toArray⟩
noncomputable def tk:Nat->List Str->List Value
 |_,[]=>[]
 |t,x::r=>.str x t::tk (t+1) r
noncomputable def bR (n q:Str)(t l c k a:Nat)(b:Bool)(x y z:Value)(u:Nat):Obj:=
 BO (.type "code") [.str n t,.str q (t+1),hs "/claim/cut.py" (t+2),.int l 0,.int c 0,.int 0 0,.int 0 0,.int k 0,.ref a,.bool b,.int 181 0,.ref (a+1),.none,x,y,z,.int u 0,.int l 0,hs "/claim/cut.py" (u+1)]
noncomputable def fq (S:Stmt)(q:Str)(a t:Nat)(d m:Value)(r:List Obj):List Obj:=match (match (Xr S).more with|[]=>bF (Xr S).names|_=>none) with
 |some L=>AE []::BO .none []::AE (tk (t+3) L)::AE []::RS .none S q 0 .none .none .none::
  bR (KO S) q t (TY S) (NJ S).args.length 3 a true (.ref (a+2)) (.ref (a+3)) (.ref (a+4)) (t+3+L.length)::RS (.type "function") S q 3 d m (.ref (a+5))::r
 |none=>AE []::BO .none []::RS .none S q 0 .none .none .none::
  bR (KO S) q t (TY S) (NJ S).args.length 3 a true .none .none (.ref (a+2)) (t+3)::RS (.type "function") S q 3 d m (.ref (a+3))::r
noncomputable def qn (i j:Nat):Str:=⟨((KO (hS i)).cps.toList++46::(KO (hM i j)).cps.toList).toArray⟩
noncomputable def fS (i:Nat):=fq (hS i) (KO (hS i))
noncomputable def fM (i j:Nat):=fq (hM i j) (qn i j)
noncomputable def cn:Obj->List Obj->List Obj:=List.cons
noncomputable def ZO (P:Params):List Stmt->List (Nat×Nat)->List DictEntry->List DictEntry
 |s::r,(t,a)::l,e=>hk P (KO s) t (.ref a)::ZO P r l e
 |_,_,e=>e
noncomputable def gJ:List Stmt->List (Nat×Nat)->List Value
 |s::r,(_,a)::l=>.int (TY s) 0::.int 4 0::.ref (a - 1)::gJ r l
 |_,_=>[]
noncomputable def cl (P:Params)(i a t e s:Nat)(m:Value)(M:List (Nat×Nat))(mid r:List Obj):List Obj:=
 let S:=hS i
 let n:=KO S
 let u:=s+(f7 S).length
 let d:=he P "__firstlineno__" (t+9) (.int (TY S) (t+8))
 let z:=he P "__static_attributes__" u (.ref e)
 let m0:=he P "__module__" (t+5) m
 BO (.type "builtin_function_or_method") [.builtin "type.__prepare__",.type "type"]::
 Eb (.type "dict") (m0::he P "__qualname__" (t+7) (.str n (t+6))::d::ZO P (WL S) M [z]) (M.length+4)::
 AE []::BO .none (gJ (WL S) M)::bR n n t (TY S) 0 0 (a+2) false .none .none .none (t+3)::
 SY (.type "frame") [some (.ref (a+4)),some (.ref 3),some (.ref (a+1)),none,some m,none,some (.ref 0)]::
 (mid++AE (tk s (f7 S))::Eb (.type "dict") (m0::d::ZO P (WL S) M [z,he P "__dict__" (u+2) (.ref (e+3)),he P "__weakref__" (u+4) (.ref (e+4)),he P "__doc__" (u+5) .none]) 4::
 Vt n [.type "object"] [.ref (e+2),.type "object"] (e+1) [] [none,none,some (.str n (t - 2)),some (.str n (t+6)),some (.builtin "object.__new__"),some (.bool true)]::
 BO (.type "getset_descriptor") [hs "__dict__" (u+1),.ref (e+2),.builtin "function.__dict__",.builtin "function.__dict__#set"]::
 BO (.type "getset_descriptor") [hs "__weakref__" (u+3),.ref (e+2),.builtin "ExceptionGroup.__weakref__",.none]::
 BO (.type "super") [.ref (e+2),.ref (e+2),.ref (e+2)]::BO (.type "builtin_function_or_method") [.builtin "object.__init_subclass__",.ref (e+2)]::r)
noncomputable def W8:Bool->List Obj->List Obj
 |_,[]=>[]
 |true,x::r=>x::W8 false r
 |false,_::r=>W8 true r
noncomputable def bt:Nat->List Obj->BT
 |n+1,x::r=>.node x (bt n (W8 true r)) (bt n (W8 false r))
 |_,_=>.nil
noncomputable def gs (l:List (Nat×Nat×Nat)):List (Str×Nat×Value):=l.map λp=>(KO (hS p.1),p.2.1,.ref p.2.2)
noncomputable def y0:=hs "__main__" 164
noncomputable def y1:=hs "outlinemill.errors" 194
noncomputable def y2:=hs "outlinemill.outlines" 241
noncomputable def y3:=hs "outlinemill.sfnt" 336
noncomputable def y4:=hs "outlinemill.glyf" 595
noncomputable def y5:=hs "outlinemill.cmap" 931
noncomputable def y6:=hs "outlinemill.font_heads" 1226
noncomputable def y7:=hs "outlinemill.metrics" 1379
noncomputable def y8:=hs "outlinemill.font" 1513
noncomputable def y9:=hs "outlinemill.glyf_writer" 1624
noncomputable def Jt:=hs "outlinemill.font_writer" 1704
noncomputable def GD:=hs "law_sq0116_01" 1833
noncomputable def gP (P:Params)(o:Obj):List Obj:=[boot_o_0 P,boot_o_1 P,o]
noncomputable def gQ (P:Params)(o q:Obj)(r:List Obj):List Obj:=o::boot_o_4 P::boot_o_5 P::boot_o_6 P::boot_o_7 P::boot_o_8 P::boot_o_9 P::boot_o_10 P::AE []::q::r
noncomputable def gO:Obj:=BO (.type "code") [(hs "<module>" 182),(hs "<module>" 183),(hs "/claim/cut.py" 184),(.int (1) 0),(.int (0) 0),(.int (0) 0),(.int (0) 0),(.int (0) 0),(.ref 11),(.bool false),(.int (181) 0),(.ref 12),.none,.none,.none,.none,(.int (185) 0),(.int (1) 0),(hs "/claim/cut.py" 186)]
noncomputable def gF:Obj:=SY (.type "frame") [some (.ref 13),some (.ref 3),some (.ref 3),none,some y0,none,some (.ref 0)]
noncomputable def WK (P:Params):BT:=bt 12 (gP P (boot_o_2 P)++gQ P (boot_o_3 P) (BO .none []) [gO,gF])
noncomputable def gH:List (Str×Nat×Value):=[(Str.ofString "__name__",165,GD),(Str.ofString "__doc__",166,.none),(Str.ofString "__package__",167,.none),(Str.ofString "__loader__",168,(.builtin "__main__.__loader__#opaque")),(Str.ofString "__spec__",169,.none),(Str.ofString "__annotations__",170,(.ref 6)),(Str.ofString "__builtins__",171,(.ref 4)),(Str.ofString "__file__",173,(hs "/claim/cut.py" 172)),(Str.ofString "__cached__",174,.none)]++gs [(0,193,21),(2,224,38),(3,240,51),(5,305,95),(6,316,106),(7,322,111),(8,329,118),(9,335,123)]++[(Str.ofString "WORD",341,(hi (4294967296) 340)),(Str.ofString "VERSION",343,(hi (65536) 342)),(Str.ofString "HEAD_SIZE",345,(hi (12) 344)),(Str.ofString "ROW_SIZE",347,(hi (16) 346)),(Str.ofString "MAGIC_SUM",349,(hi (2981146554) 348)),(Str.ofString "SUM_PLACE",351,(hi (8) 350))]++gs [(17,359,130),(18,368,137),(19,376,144),(20,383,151),(21,390,158),(22,397,165),(23,404,172),(24,413,179),(25,420,186),(26,430,193),(27,440,200),(28,446,205),(29,498,243),(30,533,264),(31,544,275),(32,550,280),(33,557,287),(34,565,294),(35,574,301),(36,588,308),(37,594,313)]++[(Str.ofString "ON_CURVE",598,(hi (1) 597)),(Str.ofString "X_SHORT",600,(hi (2) 599)),(Str.ofString "Y_SHORT",602,(hi (4) 601)),(Str.ofString "REPEAT",604,(hi (8) 603)),(Str.ofString "X_SAME",606,(hi (16) 605)),(Str.ofString "Y_SAME",608,(hi (32) 607)),(Str.ofString "WORDS",610,(hi (1) 609)),(Str.ofString "MOVES",612,(hi (2) 611)),(Str.ofString "SCALE",614,(hi (8) 613)),(Str.ofString "MORE",616,(hi (32) 615)),(Str.ofString "TWO_SCALES",618,(hi (64) 617)),(Str.ofString "FOUR_SCALES",620,(hi (128) 619)),(Str.ofString "INSTRUCTIONS",622,(hi (256) 621)),(Str.ofString "MOST_DEPTH",624,(hi (8) 623)),(Str.ofString "UNIT",626,(hi (16384) 625)),(Str.ofString "MOST_PARTS",628,(hi (4096) 627)),(Str.ofString "MOST_POINTS",632,(hi (1048576) 631))]++gs [(56,645,320),(57,704,365),(58,715,376),(59,729,383),(60,740,390),(61,746,395),(62,792,421),(63,803,432),(64,810,439),(65,821,446),(66,834,453),(67,916,507),(68,930,518)]++[(Str.ofString "LAST_CODE",934,(hi (65535) 933)),(Str.ofString "MOST_OCTETS",936,(hi (65535) 935)),(Str.ofString "MOST_TRIMMED",938,(hi (32762) 937)),(Str.ofString "BEST",955,(.ref 527))]++gs [(74,992,551),(75,1029,577),(76,1040,588),(77,1082,610),(78,1120,636),(79,1128,647),(80,1134,652),(81,1146,659),(82,1152,664),(83,1164,671),(84,1173,678),(85,1183,685),(86,1189,690),(87,1197,697),(88,1203,702),(89,1212,709),(90,1225,716)]++[(Str.ofString "HEAD_OCTETS",1229,(hi (54) 1228)),(Str.ofString "MAGIC",1231,(hi (1594834165) 1230)),(Str.ofString "LEAST_UNITS",1233,(hi (16) 1232)),(Str.ofString "MOST_UNITS",1235,(hi (16384) 1234))]++gs [(96,1281,741),(97,1291,752),(98,1300,759),(99,1307,766),(100,1320,773),(101,1362,797),(102,1369,808),(103,1378,815)]++[(Str.ofString "MOST_PAIRS",1382,(hi (10920) 1381))]++gs [(106,1429,846),(107,1435,855),(108,1443,862),(109,1449,867),(110,1490,891),(111,1500,902),(112,1506,907),(113,1512,912),(115,1623,992)]++[(Str.ofString "MOST_REPEATS",1627,(hi (255) 1626))]++gs [(118,1636,1003),(119,1646,1010),(120,1652,1015),(121,1658,1020),(122,1664,1025),(123,1673,1032),(124,1690,1040),(125,1703,1047)]++[(Str.ofString "NO_BOX",1710,(.ref 1048))]++gs [(128,1761,1080),(129,1807,1104),(130,1817,1115),(131,1823,1121),(132,1832,1128)]++[(Str.ofString "_law_one_scale",1836,(hi (16384) 1835))]++gs [(135,1843,1135),(136,1852,1142),(137,1861,1149),(138,1869,1156),(139,1880,1163),(140,1886,1168),(141,1898,1175),(142,1904,1180),(143,1910,1185),(144,1916,1190),(145,1932,1197)]
noncomputable def jq (P:Params):List Obj:=
 fS 0 15 187 .none y0 $
 cn (AE [(.type "Exception")]) $
 cn (BO (.type "builtin_function_or_method") [(.builtin "type.__prepare__"),(.type "type")]) $
 cn (Eb (.type "dict") [he P "__module__" 203 (hs "outlinemill.errors" 194),he P "__qualname__" 205 (hs "MillError" 204),he P "__firstlineno__" 207 (.int (5) 206),he P "__init__" 215 (.ref 35),he P "__static_attributes__" 217 (.ref 36)] 5) $
 cn (AE []) $
 cn (BO .none [(.int (7) 0),(.int (4) 0),(.ref 34)]) $
 cn (BO (.type "code") [(hs "MillError" 198),(hs "MillError" 199),(hs "/claim/cut.py" 200),(.int (5) 0),(.int (0) 0),(.int (0) 0),(.int (0) 0),(.int (0) 0),(.ref 25),(.bool false),(.int (181) 0),(.ref 26),.none,.none,.none,.none,(.int (201) 0),(.int (5) 0),(hs "/claim/cut.py" 202)]) $
 cn (SY (.type "frame") [some (.ref 27),some (.ref 3),some (.ref 24),none,some (hs "outlinemill.errors" 194),none,some (.ref 0)]) $
 fM 2 0 29 208 .none y1 $
 cn (AE [(hs "message" 216)]) $
 cn (Eb (.type "dict") [he P "__module__" 203 y1,he P "__firstlineno__" 207 (.int (5) 206),he P "__init__" 215 (.ref 35),he P "__static_attributes__" 217 (.ref 36),he P "__weakref__" 219 (.ref 39),he P "__doc__" 220 .none] 3) $
 cn (Vt (Str.ofString "MillError") [(.type "Exception")] [(.ref 38),(.type "Exception"),(.type "BaseException"),(.type "object")] 37 [(.ref 51)] [some (.ref 22),none,some (hs "MillError" 196),some (hs "MillError" 204),some (.builtin "Exception.__new__"),some (.bool true)]) $
 cn (BO (.type "getset_descriptor") [(hs "__weakref__" 218),(.ref 38),(.builtin "ExceptionGroup.__weakref__"),.none]) $
 cn (BO (.type "super") [(.ref 38),(.ref 38),(.ref 38)]) $
 cn (BO (.type "builtin_function_or_method") [(.builtin "object.__init_subclass__"),(.ref 38)]) $
 cn (AE [(.ref 38)]) $
 cn (BO (.type "builtin_function_or_method") [(.builtin "type.__prepare__"),(.type "type")]) $
 cn (Eb (.type "dict") [he P "__module__" 232 y1,he P "__qualname__" 234 (hs "FontFault" 233),he P "__firstlineno__" 236 (.int (9) 235),he P "__static_attributes__" 237 (.ref 49)] 4) $
 cn (AE []) $
 cn (BO .none []) $
 cn (BO (.type "code") [(hs "FontFault" 227),(hs "FontFault" 228),(hs "/claim/cut.py" 229),(.int (9) 0),(.int (0) 0),(.int (0) 0),(.int (0) 0),(.int (0) 0),(.ref 45),(.bool false),(.int (181) 0),(.ref 46),.none,.none,.none,.none,(.int (230) 0),(.int (9) 0),(hs "/claim/cut.py" 231)]) $
 cn (SY (.type "frame") [some (.ref 47),some (.ref 3),some (.ref 44),none,some y1,none,some (.ref 0)]) $
 cn (AE []) $
 cn (Eb (.type "dict") [he P "__module__" 232 y1,he P "__firstlineno__" 236 (.int (9) 235),he P "__static_attributes__" 237 (.ref 49),he P "__doc__" 238 .none] 2) $
 cn (Vt (Str.ofString "FontFault") [(.ref 38)] [(.ref 51),(.ref 38),(.type "Exception"),(.type "BaseException"),(.type "object")] 50 [] [some (.ref 42),none,some (hs "FontFault" 225),some (hs "FontFault" 233),some (.builtin "Exception.__new__"),some (.bool true)]) $
 cn (BO (.type "super") [(.ref 51),(.ref 51),(.ref 51)]) $
 cn (BO (.type "builtin_function_or_method") [(.builtin "object.__init_subclass__"),(.ref 51)]) $
 cn (AE []) $
 cl P 5 55 245 93 296 y2 [(264,68),(273,75),(283,82),(289,87),(295,92)] (cn (AE [(.bytes #[] 255)]) $ fM 5 0 62 256 (.ref 61) y2 $ fM 5 1 69 265 .none y2 $ fM 5 2 76 274 .none y2 $ fM 5 3 83 284 .none y2 $ fM 5 4 88 290 .none y2 $ []) $
 fS 6 100 306 .none y2 $
 fS 7 107 317 .none y2 $
 fS 8 112 323 .none y2 $
 fS 9 119 330 .none y2 $
 fS 17 124 352 .none y3 $
 fS 18 131 360 .none y3 $
 fS 19 138 369 .none y3 $
 fS 20 145 377 .none y3 $
 fS 21 152 384 .none y3 $
 fS 22 159 391 .none y3 $
 fS 23 166 398 .none y3 $
 fS 24 173 405 .none y3 $
 fS 25 180 414 .none y3 $
 fS 26 187 421 .none y3 $
 fS 27 194 431 .none y3 $
 fS 28 201 441 .none y3 $
 cn (AE []) $
 cl P 29 207 449 241 490 y3 [(466,219),(473,226),(481,233),(489,240)] (fM 29 0 213 459 .none y3 $ fM 29 1 220 467 .none y3 $ fM 29 2 227 474 .none y3 $ fM 29 3 234 482 .none y3 $ []) $
 cn (AE []) $
 cl P 30 249 501 262 522 y3 [(521,261)] (fM 30 0 255 511 .none y3 $ []) $
 fS 31 269 534 .none y3 $
 fS 32 276 545 .none y3 $
 fS 33 281 551 .none y3 $
 fS 34 288 558 .none y3 $
 fS 35 295 566 .none y3 $
 fS 36 302 575 .none y3 $
 fS 37 309 589 .none y3 $
 fS 56 314 633 .none y4 $
 cn (AE []) $
 cl P 57 322 648 363 695 y4 [(665,334),(672,341),(679,348),(686,355),(694,362)] (fM 57 0 328 658 .none y4 $ fM 57 1 335 666 .none y4 $ fM 57 2 342 673 .none y4 $ fM 57 3 349 680 .none y4 $ fM 57 4 356 687 .none y4 $ []) $
 fS 58 370 705 .none y4 $
 fS 59 377 716 .none y4 $
 fS 60 384 730 .none y4 $
 fS 61 391 741 .none y4 $
 cn (AE []) $
 cl P 62 397 749 419 780 y4 [(772,411),(779,418)] (cn (AE [(.int (16384) 625),(.int (0) 759),(.int (0) 760),(.int (16384) 625)]) $ cn (AE [(.bool true),(.ref 403)]) $ fM 62 0 405 761 (.ref 404) y4 $ fM 62 1 412 773 .none y4 $ []) $
 fS 63 426 793 .none y4 $
 fS 64 433 804 .none y4 $
 fS 65 440 811 .none y4 $
 fS 66 447 822 .none y4 $
 cn (AE []) $
 cl P 67 455 837 505 906 y4 [(855,467),(862,474),(870,481),(879,488),(896,497),(905,504)] (fM 67 0 461 847 .none y4 $ fM 67 1 468 856 .none y4 $ fM 67 2 475 863 .none y4 $ fM 67 3 482 871 .none y4 $ cn (AE []) $ cn (AE [(.ref 489)]) $ fM 67 4 491 880 (.ref 490) y4 $ fM 67 5 498 897 .none y4 $ []) $
 fS 68 512 917 .none y4 $
 cn (AE [(.int (3) 939),(.int (10) 940)]) $
 cn (AE [(.int (0) 941),(.int (4) 942)]) $
 cn (AE [(.int (0) 943),(.int (3) 944)]) $
 cn (AE [(.int (3) 945),(.int (1) 946)]) $
 cn (AE [(.int (0) 947),(.int (1) 948)]) $
 cn (AE [(.int (0) 949),(.int (0) 950)]) $
 cn (AE [(.int (3) 951),(.int (0) 952)]) $
 cn (AE [(.int (1) 953),(.int (0) 954)]) $
 cn (AE [(.ref 519),(.ref 520),(.ref 521),(.ref 522),(.ref 523),(.ref 524),(.ref 525),(.ref 526)]) $
 cn (AE []) $
 cl P 74 529 958 549 984 y5 [(975,541),(983,548)] (fM 74 0 535 968 .none y5 $ fM 74 1 542 976 .none y5 $ []) $
 cn (AE []) $
 cl P 75 557 995 575 1020 y5 [(1010,567),(1019,574)] (fM 75 0 563 1005 .none y5 $ fM 75 1 568 1011 .none y5 $ []) $
 fS 76 582 1030 .none y5 $
 cn (AE []) $
 cl P 77 590 1043 608 1069 y5 [(1058,600),(1068,607)] (fM 77 0 596 1053 .none y5 $ fM 77 1 601 1059 .none y5 $ []) $
 cn (AE []) $
 cl P 78 616 1085 634 1110 y5 [(1100,626),(1109,633)] (fM 78 0 622 1095 .none y5 $ fM 78 1 627 1101 .none y5 $ []) $
 fS 79 641 1121 .none y5 $
 fS 80 648 1129 .none y5 $
 fS 81 653 1135 .none y5 $
 fS 82 660 1147 .none y5 $
 fS 83 665 1153 .none y5 $
 fS 84 672 1165 .none y5 $
 fS 85 679 1174 .none y5 $
 fS 86 686 1184 .none y5 $
 fS 87 691 1190 .none y5 $
 fS 88 698 1198 .none y5 $
 fS 89 703 1204 .none y5 $
 fS 90 710 1213 .none y5 $
 cn (AE []) $
 cl P 96 718 1238 739 1269 y6 [(1261,731),(1268,738)] (cn (AE [(.int (0) 1248),(.int (0) 1249)]) $ fM 96 0 725 1250 (.ref 724) y6 $ fM 96 1 732 1262 .none y6 $ []) $
 fS 97 746 1282 .none y6 $
 fS 98 753 1292 .none y6 $
 fS 99 760 1301 .none y6 $
 fS 100 767 1308 .none y6 $
 cn (AE []) $
 cl P 101 775 1323 795 1351 y6 [(1343,787),(1350,794)] (fM 101 0 781 1333 .none y6 $ fM 101 1 788 1344 .none y6 $ []) $
 fS 102 802 1363 .none y6 $
 fS 103 809 1370 .none y6 $
 cn (AE []) $
 cl P 106 817 1385 844 1420 y7 [(1403,829),(1411,836),(1419,843)] (fM 106 0 823 1395 .none y7 $ fM 106 1 830 1404 .none y7 $ fM 106 2 837 1412 .none y7 $ []) $
 fS 107 851 1430 .none y7 $
 fS 108 856 1436 .none y7 $
 fS 109 863 1444 .none y7 $
 cn (AE []) $
 cl P 110 869 1452 889 1482 y7 [(1469,881),(1481,888)] (fM 110 0 875 1462 .none y7 $ fM 110 1 882 1470 .none y7 $ []) $
 fS 111 896 1491 .none y7 $
 fS 112 903 1501 .none y7 $
 fS 113 908 1507 .none y7 $
 cn (AE []) $
 cl P 115 914 1517 990 1609 y8 [(1536,926),(1543,933),(1550,940),(1559,947),(1567,954),(1575,961),(1583,968),(1591,975),(1600,982),(1608,989)] (fM 115 0 920 1527 .none y8 $ fM 115 1 927 1537 .none y8 $ fM 115 2 934 1544 .none y8 $ fM 115 3 941 1551 .none y8 $ fM 115 4 948 1560 .none y8 $ fM 115 5 955 1568 .none y8 $ fM 115 6 962 1576 .none y8 $ fM 115 7 969 1584 .none y8 $ fM 115 8 976 1592 .none y8 $ fM 115 9 983 1601 .none y8 $ []) $
 fS 118 997 1628 .none y9 $
 fS 119 1004 1637 .none y9 $
 fS 120 1011 1647 .none y9 $
 fS 121 1016 1653 .none y9 $
 fS 122 1021 1659 .none y9 $
 fS 123 1026 1665 .none y9 $
 cn (AE [(.bytes #[] 1674)]) $
 fS 124 1034 1675 (.ref 1033) y9 $
 fS 125 1041 1691 .none y9 $
 cn (AE [(.int (0) 1706),(.int (0) 1707),(.int (0) 1708),(.int (0) 1709)]) $
 cn (AE []) $
 cl P 128 1050 1713 1078 1749 Jt [(1734,1063),(1741,1070),(1748,1077)] (cn (AE [.none,.none,(.ref 1048)]) $ fM 128 0 1057 1723 (.ref 1056) Jt $ fM 128 1 1064 1735 .none Jt $ fM 128 2 1071 1742 .none Jt $ []) $
 cn (AE []) $
 cl P 129 1086 1764 1102 1793 Jt [(1792,1101)] (cn (AE []) $ cn (AE [(.int (800) 1775),(.int (-200) 1777),(.int (90) 1778)]) $ cn (AE [(.ref 1092),(.int (1000) 1774),(.bool false),(.ref 1093)]) $ fM 129 0 1095 1779 (.ref 1094) Jt $ []) $
 fS 130 1109 1808 .none Jt $
 cn (AE [.none]) $
 fS 131 1117 1818 (.ref 1116) Jt $
 fS 132 1122 1824 .none Jt $
 fS 135 1129 1837 .none GD $
 fS 136 1136 1844 .none GD $
 fS 137 1143 1853 .none GD $
 fS 138 1150 1862 .none GD $
 fS 139 1157 1870 .none GD $
 fS 140 1164 1881 .none GD $
 fS 141 1169 1887 .none GD $
 fS 142 1176 1899 .none GD $
 fS 143 1181 1905 .none GD $
 fS 144 1186 1911 .none GD $
 fS 145 1191 1917 .none GD $
 []
noncomputable def o2 (P:Params):Obj:=Eb .none [he P "type.__subclasses__.Exception.0" 221 (.int (38) 0),he P "type.__subclasses__.Exception.n" 222 (.int (1) 0)] 2
noncomputable def o3 (P:Params):Obj:=Eb (.type "dict") (gH.map λe=>hk P e.1 e.2.1 e.2.2) 144
noncomputable def jh:Obj:=BO .none [(.int (1) 0),(.int (0) 0),(.ref 20),(.int (5) 0),(.int (0) 0),(.ref 27),(.int (9) 0),(.int (0) 0),(.ref 47),(.int (12) 0),(.int (0) 0),(.ref 59),(.int (42) 0),(.int (0) 0),(.ref 105),(.int (49) 0),(.int (0) 0),(.ref 110),(.int (51) 0),(.int (0) 0),(.ref 117),(.int (53) 0),(.int (0) 0),(.ref 122),(.int (66) 0),(.int (0) 0),(.ref 129),(.int (70) 0),(.int (0) 0),(.ref 136),(.int (73) 0),(.int (0) 0),(.ref 143),(.int (75) 0),(.int (0) 0),(.ref 150),(.int (77) 0),(.int (0) 0),(.ref 157),(.int (81) 0),(.int (0) 0),(.ref 164),(.int (85) 0),(.int (0) 0),(.ref 171),(.int (87) 0),(.int (0) 0),(.ref 178),(.int (91) 0),(.int (0) 0),(.ref 185),(.int (93) 0),(.int (0) 0),(.ref 192),(.int (99) 0),(.int (0) 0),(.ref 199),(.int (106) 0),(.int (0) 0),(.ref 204),(.int (111) 0),(.int (0) 0),(.ref 211),(.int (126) 0),(.int (0) 0),(.ref 253),(.int (133) 0),(.int (0) 0),(.ref 274),(.int (144) 0),(.int (0) 0),(.ref 279),(.int (153) 0),(.int (0) 0),(.ref 286),(.int (155) 0),(.int (0) 0),(.ref 293),(.int (157) 0),(.int (0) 0),(.ref 300),(.int (164) 0),(.int (0) 0),(.ref 307),(.int (172) 0),(.int (0) 0),(.ref 312),(.int (210) 0),(.int (0) 0),(.ref 319),(.int (221) 0),(.int (0) 0),(.ref 326),(.int (242) 0),(.int (0) 0),(.ref 375),(.int (253) 0),(.int (0) 0),(.ref 382),(.int (264) 0),(.int (0) 0),(.ref 389),(.int (272) 0),(.int (0) 0),(.ref 394),(.int (283) 0),(.int (0) 0),(.ref 401),(.int (294) 0),(.int (0) 0),(.ref 431),(.int (305) 0),(.int (0) 0),(.ref 438),(.int (307) 0),(.int (0) 0),(.ref 445),(.int (319) 0),(.int (0) 0),(.ref 452),(.int (331) 0),(.int (0) 0),(.ref 459),(.int (381) 0),(.int (0) 0),(.ref 517),(.int (395) 0),(.int (0) 0),(.ref 533),(.int (402) 0),(.int (0) 0),(.ref 561),(.int (411) 0),(.int (0) 0),(.ref 587),(.int (421) 0),(.int (0) 0),(.ref 594),(.int (444) 0),(.int (0) 0),(.ref 620),(.int (462) 0),(.int (0) 0),(.ref 646),(.int (473) 0),(.int (0) 0),(.ref 651),(.int (475) 0),(.int (0) 0),(.ref 658),(.int (484) 0),(.int (0) 0),(.ref 663),(.int (487) 0),(.int (0) 0),(.ref 670),(.int (497) 0),(.int (0) 0),(.ref 677),(.int (505) 0),(.int (0) 0),(.ref 684),(.int (510) 0),(.int (0) 0),(.ref 689),(.int (534) 0),(.int (0) 0),(.ref 696),(.int (540) 0),(.int (0) 0),(.ref 701),(.int (549) 0),(.int (0) 0),(.ref 708),(.int (562) 0),(.int (0) 0),(.ref 715),(.int (575) 0),(.int (0) 0),(.ref 722),(.int (586) 0),(.int (0) 0),(.ref 751),(.int (597) 0),(.int (0) 0),(.ref 758),(.int (605) 0),(.int (0) 0),(.ref 765),(.int (609) 0),(.int (0) 0),(.ref 772),(.int (615) 0),(.int (0) 0),(.ref 779),(.int (625) 0),(.int (0) 0),(.ref 807),(.int (629) 0),(.int (0) 0),(.ref 814),(.int (634) 0),(.int (0) 0),(.ref 821),(.int (649) 0),(.int (0) 0),(.ref 854),(.int (657) 0),(.int (0) 0),(.ref 861),(.int (662) 0),(.int (0) 0),(.ref 866),(.int (669) 0),(.int (0) 0),(.ref 873),(.int (686) 0),(.int (0) 0),(.ref 901),(.int (692) 0),(.int (0) 0),(.ref 906),(.int (706) 0),(.int (0) 0),(.ref 911),(.int (721) 0),(.int (0) 0),(.ref 918),(.int (763) 0),(.int (0) 0),(.ref 1002),(.int (773) 0),(.int (0) 0),(.ref 1009),(.int (786) 0),(.int (0) 0),(.ref 1014),(.int (788) 0),(.int (0) 0),(.ref 1019),(.int (805) 0),(.int (0) 0),(.ref 1024),(.int (814) 0),(.int (0) 0),(.ref 1031),(.int (823) 0),(.int (0) 0),(.ref 1039),(.int (839) 0),(.int (0) 0),(.ref 1046),(.int (853) 0),(.int (0) 0),(.ref 1054),(.int (871) 0),(.int (0) 0),(.ref 1090),(.int (881) 0),(.int (0) 0),(.ref 1114),(.int (888) 0),(.int (0) 0),(.ref 1120),(.int (907) 0),(.int (0) 0),(.ref 1127),(.int (914) 0),(.int (0) 0),(.ref 1134),(.int (918) 0),(.int (0) 0),(.ref 1141),(.int (922) 0),(.int (0) 0),(.ref 1148),(.int (929) 0),(.int (0) 0),(.ref 1155),(.int (931) 0),(.int (0) 0),(.ref 1162),(.int (935) 0),(.int (0) 0),(.ref 1167),(.int (942) 0),(.int (0) 0),(.ref 1174),(.int (948) 0),(.int (0) 0),(.ref 1179),(.int (965) 0),(.int (0) 0),(.ref 1184),(.int (977) 0),(.int (0) 0),(.ref 1189),(.int (983) 0),(.int (0) 0),(.ref 1196)]
noncomputable def ID (P:Params):BT:=bt 12 (gP P (o2 P)++gQ P (o3 P) jh (gO::gF::jq P))
noncomputable def SW:Life:={}
noncomputable abbrev Vs:=PySem.W.Fast.tw10110043849684766642
noncomputable abbrev VK:=PySem.W.Fast.tw14364793385576792824
theorem Yr:@segRunT=@Vs:=PySem.W.Fast.te10110043849684766642
theorem Yc:treeTable=VK:=PySem.W.Fast.te14364793385576792824
noncomputable def IX:Env:={scope:=pw.main.scope,locals:=mainNs,globals:=mainNs,cells:=[],code:=.ref 13,frame:=some 14}
noncomputable def hC:Code:=.body hB IX
noncomputable def hQ:Pos:=⟨0,0,0,0⟩
noncomputable def hF:List Frame:=[topFrame hQ]
noncomputable def F1:Option Value:=some (.ref 6)
noncomputable def MQ (k:Nat)(T:Params->BT)(n toks:Nat)(w:World)(os:OsState):SharedT:=⟨T w.params,n,SW,#[],boot_drawn,toks,os⟩
theorem g1 (w:World)(os:OsState):Vs VK pw w 11 F1 1 8422 (MQ 0 WK 15 187 w os) (piecesOf hB IX hC ⟨0,0,0,0⟩ hF)=some (.next,(MQ 1 ID 1198 1933 w os),hC,⟨983,0,995,45⟩):=by kernel_rfl
theorem cq {w:World}{n:Nat}{s s':SharedT}{l:List Stmt}{p p':Pos}(h:Vs VK pw w 11 F1 1 n s (piecesOf l IX hC p hF)=some (.next,s',hC,p')):
  segRun treeTable pw w 11 F1 1 n s.abs (piecesOf l IX hC p [topFrame hQ])=some (.next,s'.abs,hC,p'):=by
 rw[<-Yr,<-Yc] at h
 exact segRun_of h
theorem dE:hB=hB++[]:=(List.append_nil _).symm
theorem YZ (w:World)(os:OsState):topGo treeTable pw w 11 F1 12 ⟨boot_heap w.params,#[],boot_drawn,boot_toks,os⟩ (topStub pw)=some ((MQ 0 WK 15 187 w os).abs,⟨denote treeTable hC,hC,hQ,[topFrame hQ]⟩):=by kernel_rfl
theorem TB (w:World)(os:OsState):segRun treeTable pw w 11 F1 1 1 (MQ 0 WK 15 187 w os).abs (blockOf hB IX hC hQ [topFrame hQ])=some (.next,(MQ 0 WK 15 187 w os).abs,hC,hQ):=by kernel_rfl
theorem X5 (w:World)(os:OsState):topRun treeTable pw w 11 F1 2 (MQ 1 ID 1198 1933 w os).abs ⟨doneF .next,hC,⟨983,0,995,45⟩,[topFrame hQ]⟩=some (MQ 1 ID 1198 1933 w os).abs:=by kernel_rfl
theorem UJ (w:World)(os:OsState):topRun treeTable pw w 11 F1 (12+(1+(8422+2))) ⟨boot_heap w.params,#[],boot_drawn,boot_toks,os⟩ (topStub pw)=some (MQ 1 ID 1198 1933 w os).abs:=by
 refine go_top (YZ w os) ?_
 refine piece_block (TB w os) ?_
 rw[dE]
 refine piece_app (cq (g1 w os)) ?_
 exact X5 w os
noncomputable def H1 (P:Params):Heap:=absHeap (ID P) 1198 SW
noncomputable def EI:List Str:=((gH.drop 9).map (·.1)).dropLast
noncomputable def qv:Program:={pw with main:={pw.main with body:=[hS 145]}}
end H
end Mine.Internal
end
section
set_option maxRecDepth 100000
set_option maxHeartbeats 0
namespace Mine.Internal
namespace H
open PySem PySem.W PySem.Calls PyProof.Rows
theorem fW:∀w:World,(fencedOpening treeTable pw w 16968).map (λs=>(s.heap,s.gens,s.drawn,s.toks))=some (boot_heap w.params,#[],boot_drawn,boot_toks):=
 boot_open (by kernel_rfl) (by decide) (λs=>by kernel_rfl)
theorem fX:∀w:World,((boot_heap w.params).isNs mainGlobals&&(#[]:Array GenState).size==0,(boot_heap w.params).objs.size,(boot_heap w.params).nsMap mainGlobals "__annotations__")=(true,11,F1):=λw=>by kernel_rfl
theorem look2 (w:World):laidKept (boot_heap w.params) (H1 w.params)=true:=by kernel_rfl
theorem cV (w:World):staticsOk (importedModules pw.main.body) (boot_heap w.params) (H1 w.params)=true:=by kernel_rfl
end H
end Mine.Internal
end
section
set_option maxRecDepth 100000
set_option maxHeartbeats 0
namespace Mine.Internal
namespace H
open PySem PySem.W PySem.Calls PyProof.Rows
theorem dZ (w:World):namesBound pw (H1 w.params)=true:=by kernel_rfl
end H
end Mine.Internal
end
section
set_option maxRecDepth 100000
set_option maxHeartbeats 0
namespace Mine.Internal
namespace H
open PySem PySem.W PySem.Calls PyProof.Rows
noncomputable abbrev Xq:=PySem.W.Fast.tw4187177175401517315
theorem V8:@openSeen=@Xq:=PySem.W.Fast.te4187177175401517315
theorem fu (w:World):(λos=>Xq qv EI (importedModules pw.main.body) (λ_=>true) true ⟨H1 w.params,#[],boot_drawn,1933,os⟩)=λ_=>openGood qv EI:=by kernel_rfl
end H
end Mine.Internal
end
section
set_option maxRecDepth 100000
set_option maxHeartbeats 0
namespace Mine.Internal
namespace H
open PySem PySem.W PySem.Calls PyProof.Rows
noncomputable def SA:Stmt:=hS 145
noncomputable def Jn:DefRec:=⟨Str.ofString "law",NJ SA,WN SA,Xr SA,⟨983,0,995,45⟩⟩
theorem dA:LeftO pw qv EI (λ_=>true) (λs=>s.heap) (λw=>H1 w.params) 16968:=
 LeftO.of_pieces (H₀:=boot_heap) (H₁:=H1) (gs₀:=#[]) (gs₁:=#[]) (d₀:=boot_drawn) (d₁:=boot_drawn) (k₀:=boot_toks) (k₁:=1933) (m₀:=11) (ann:=F1)
  fW fX (λw os=>UJ w os) (by decide) (λw=>funext λos=>by
   have e1:gensDone ⟨H1 w.params,#[],boot_drawn,1933,os⟩=true:=by kernel_rfl
   have e2:openSeen qv EI (importedModules pw.main.body) (λ_=>true) true ⟨H1 w.params,#[],boot_drawn,1933,os⟩=openGood qv EI:=by
    have:=congrFun (fu w) os
    rw[<-V8] at this
    exact this
   show((staticsOk _ _ _&&namesBound _ _&&gensDone _&&laidKept _ _),openSeen _ _ _ _ _ _,_)=_
   rw[look2,cV,dZ,e1,e2]
   rfl)
theorem dD:defOf qv (Str.ofString "law")=some (Jn,[]):=by kernel_rfl
theorem iT:pw.theDef (Str.ofString "law")=some (Jn.params,Jn.body,Jn.scope):=by kernel_rfl
theorem Yw:chainsOk qv=true:=by kernel_rfl
theorem bE:opensWell pw=true:=by kernel_rfl
theorem bp:(frees PySem.Challenge.rw_sq0116_01.row.toRowW&&PySem.Challenge.rw_sq0116_01.row.toRowW.within.isEmpty)=true:=by kernel_rfl
end H
end Mine.Internal
end
section
set_option maxRecDepth 100000
set_option maxHeartbeats 0
namespace Mine.Internal
namespace H
open PySem PySem.W PySem.Calls PyProof.Rows
theorem holds_of (call:WalkO qv EI (λ_ _=>True) (λw h=>∀b o,(H1 w.params).get? b=some o->h.get? b=some o) PySem.Challenge.rw_sq0116_01.row.toRowW Jn [] (λf vs=>PySem.call f vs))
  (said:PySem.Challenge.rw_sq0116_01.row.wellSaid=true):PySem.Challenge.rw_sq0116_01.row.Holds:=
 holds_open (r:=PySem.Challenge.rw_sq0116_01.row) (q:=qv) (loose:=EI) (Xt:=λ_=>true) (XP:=λ_ _=>True) (Yf:=λs=>s.heap) (Ya:=λw=>H1 w.params) (d:=Jn) (kwd:=[]) (N:=16968)
  dA (λw s e b o h=>by rw[show s.heap=H1 w.params from e];exact h) (λw h h' y k b o e=>k b o (y b o e)) (λ_ _=>trivial) (λ_ _ _ _ _=>trivial) dD iT rfl
  (λs _=>recFacts_nil rfl) rfl said (by show(chainsOk qv&&opensWell pw&&(frees PySem.Challenge.rw_sq0116_01.row.toRowW&&PySem.Challenge.rw_sq0116_01.row.toRowW.within.isEmpty))=true;rw[Yw,bE,bp];rfl) ⟨rfl,rfl,rfl,rfl,rfl,by decide+kernel⟩ (by w_witness2) call
end H
end Mine.Internal
end
section
set_option maxRecDepth 100000
set_option maxHeartbeats 0
namespace Mine.Internal
namespace H
open PySem PySem.W PySem.Calls PyProof.Rows
theorem said:PySem.Challenge.rw_sq0116_01.wellSaid=true:=by
 refine(look_both (look_both (look_both (look_both (look_both (look_both (look_both (look_both (look_both (look_both (look_both (look_both (look_both (look_both (look_both (look_both (look_both (look_both (look_both (look_both (look_both (look_both (look_both (look_both (look_both (look_both (look_both (look_both (look_both (look_both (look_both (look_both (look_both (look_both (look_both (look_both (look_both (look_both ?_ ?_) ?_) ?_) ?_) ?_) ?_) ?_) ?_) ?_) ?_) ?_) ?_) ?_) ?_) ?_) ?_) ?_) ?_) ?_) ?_) ?_) ?_) ?_) ?_) ?_) ?_) ?_) ?_) ?_) ?_) ?_) ?_) ?_) ?_) ?_) ?_) ?_) ?_)
 ·as_aux_lemma=>rw[show@PySem.W.sreFenced=@PySem.W.Fast.tw11788848310118352699 from PySem.W.Fast.te11788848310118352699,show@PySem.W.OpenLaw.row=@PySem.W.Fast.tw2368527892694137696 from PySem.W.Fast.te2368527892694137696];kernel_rfl
 ·as_aux_lemma=>rw[show@PySem.moduleNames=@PySem.W.Fast.tw9807087744658564304 from PySem.W.Fast.te9807087744658564304,show@PySem.W.OpenLaw.row=@PySem.W.Fast.tw2368527892694137696 from PySem.W.Fast.te2368527892694137696,show@PySem.lookedIntoSs=@PySem.W.Fast.tw12862048085361865435 from PySem.W.Fast.te12862048085361865435];kernel_rfl
 ·as_aux_lemma=>rw[show@PySem.W.namesResolve=@PySem.W.Fast.tw8377067652309620493 from PySem.W.Fast.te8377067652309620493,show@PySem.W.OpenLaw.row=@PySem.W.Fast.tw2368527892694137696 from PySem.W.Fast.te2368527892694137696];kernel_rfl
 ·as_aux_lemma=>rw[show@List.all=@PySem.W.R.allR from PySem.W.R.allR_eq,show@PySem.Program.boundNames=@PySem.W.Fast.tw18344453789297297638 from PySem.W.Fast.te18344453789297297638,show@PySem.W.OpenLaw.row=@PySem.W.Fast.tw2368527892694137696 from PySem.W.Fast.te2368527892694137696,show@List.contains=@PySem.W.Fast.tw3471404346716756564 from PySem.W.Fast.te3471404346716756564,show@PySem.instDecidableEqStr=@PySem.W.Fast.sDec from PySem.W.Fast.sDec_eq,show@PySem.W.worldNames=@PySem.W.Fast.tw14412699480532031325 from PySem.W.Fast.te14412699480532031325];kernel_rfl
 ·as_aux_lemma=>rw[show@PySem.W.noRoadLSs=@PySem.W.Fast.tw8326940854005059898 from PySem.W.Fast.te8326940854005059898,show@List.all=@PySem.W.R.allR from PySem.W.R.allR_eq,show@PySem.importedModules=@PySem.W.Fast.tw5923862056798008813 from PySem.W.Fast.te5923862056798008813,show@PySem.W.OpenLaw.row=@PySem.W.Fast.tw2368527892694137696 from PySem.W.Fast.te2368527892694137696,show@List.contains=@PySem.W.Fast.tw3471404346716756564 from PySem.W.Fast.te3471404346716756564,show@PySem.instDecidableEqStr=@PySem.W.Fast.sDec from PySem.W.Fast.sDec_eq,show@PySem.W.cThrough=@PySem.W.Fast.tw17691160309236699985 from PySem.W.Fast.te17691160309236699985,show@List.filter=@PySem.W.R.filterR from PySem.W.R.filterR_eq,show@PySem.W.readsOut=@PySem.W.Fast.tw13343964577679436407 from PySem.W.Fast.te13343964577679436407];kernel_rfl
 ·as_aux_lemma=>rw[show@PySem.W.namesMeet=@PySem.W.Fast.tw17119622794617984870 from PySem.W.Fast.te17119622794617984870,show@PySem.W.OpenLaw.row=@PySem.W.Fast.tw2368527892694137696 from PySem.W.Fast.te2368527892694137696,show@PySem.W.attrL=@PySem.W.Fast.tw17868728402115742887 from PySem.W.Fast.te17868728402115742887];kernel_rfl
 ·as_aux_lemma=>rw[show@PySem.W.OpenLaw.row=@PySem.W.Fast.tw2368527892694137696 from PySem.W.Fast.te2368527892694137696];kernel_rfl
 ·as_aux_lemma=>rw[show@PySem.W.OpenLaw.row=@PySem.W.Fast.tw2368527892694137696 from PySem.W.Fast.te2368527892694137696];kernel_rfl
 ·as_aux_lemma=>rw[show@PySem.W.OpenLaw.row=@PySem.W.Fast.tw2368527892694137696 from PySem.W.Fast.te2368527892694137696,show@List.all=@PySem.W.R.allR from PySem.W.R.allR_eq,show@PySem.instDecidableEqExcName=@PySem.W.Fast.tw9706382859710513879 from PySem.W.Fast.te9706382859710513879];kernel_rfl
 ·as_aux_lemma=>rw[show@List.all=@PySem.W.R.allR from PySem.W.R.allR_eq,show@PySem.W.OpenLaw.row=@PySem.W.Fast.tw2368527892694137696 from PySem.W.Fast.te2368527892694137696,show@List.contains=@PySem.W.Fast.tw3471404346716756564 from PySem.W.Fast.te3471404346716756564,show@PySem.instDecidableEqStr=@PySem.W.Fast.sDec from PySem.W.Fast.sDec_eq,show@PySem.Program.boundNames=@PySem.W.Fast.tw18344453789297297638 from PySem.W.Fast.te18344453789297297638,show@instDecidableEqString=@PySem.W.S.strDecS from PySem.W.S.strDecS_eq,show@PySem.W.ofTheWorld=@PySem.W.Fast.tw2357444279172408678 from PySem.W.Fast.te2357444279172408678];kernel_rfl
 ·as_aux_lemma=>rw[show@List.map=@PySem.W.R.mapR from PySem.W.R.mapR_eq,show@PySem.W.OpenLaw.row=@PySem.W.Fast.tw2368527892694137696 from PySem.W.Fast.te2368527892694137696,show@PySem.instDecidableEqStr=@PySem.W.Fast.sDec from PySem.W.Fast.sDec_eq];kernel_rfl
 ·as_aux_lemma=>rw[show@List.all=@PySem.W.R.allR from PySem.W.R.allR_eq,show@PySem.W.OpenLaw.row=@PySem.W.Fast.tw2368527892694137696 from PySem.W.Fast.te2368527892694137696,show@PySem.Str.opensWith=@PySem.W.Fast.tw4857012375875476094 from PySem.W.Fast.te4857012375875476094,show@PySem.W.builtinNamed=@PySem.W.Fast.qNamed from PySem.W.Fast.named_eq,show@List.contains=@PySem.W.Fast.tw3471404346716756564 from PySem.W.Fast.te3471404346716756564,show@PySem.instDecidableEqStr=@PySem.W.Fast.sDec from PySem.W.Fast.sDec_eq,show@PySem.Program.boundNames=@PySem.W.Fast.tw18344453789297297638 from PySem.W.Fast.te18344453789297297638];kernel_rfl
 ·as_aux_lemma=>rw[show@PySem.W.RowW.solid=@PySem.W.Fast.tw13582783067957832011 from PySem.W.Fast.te13582783067957832011,show@PySem.W.OpenLaw.row=@PySem.W.Fast.tw2368527892694137696 from PySem.W.Fast.te2368527892694137696];kernel_rfl
 ·as_aux_lemma=>rw[show@PySem.W.WTm.litsOk=@PySem.W.Fast.tw5318747976498570220 from PySem.W.Fast.te5318747976498570220,show@PySem.W.OpenLaw.row=@PySem.W.Fast.tw2368527892694137696 from PySem.W.Fast.te2368527892694137696];kernel_rfl
 ·as_aux_lemma=>rw[show@PySem.W.WTm.litsOk=@PySem.W.Fast.tw5318747976498570220 from PySem.W.Fast.te5318747976498570220,show@PySem.W.OpenLaw.row=@PySem.W.Fast.tw2368527892694137696 from PySem.W.Fast.te2368527892694137696];kernel_rfl
 ·as_aux_lemma=>rw[show@List.all=@PySem.W.R.allR from PySem.W.R.allR_eq,show@PySem.W.OpenLaw.row=@PySem.W.Fast.tw2368527892694137696 from PySem.W.Fast.te2368527892694137696,show@PySem.W.WTm.litsOk=@PySem.W.Fast.tw5318747976498570220 from PySem.W.Fast.te5318747976498570220];kernel_rfl
 ·as_aux_lemma=>rw[show@List.all=@PySem.W.R.allR from PySem.W.R.allR_eq,show@PySem.W.OpenLaw.row=@PySem.W.Fast.tw2368527892694137696 from PySem.W.Fast.te2368527892694137696,show@List.instGetElem?NatLtLength=@PySem.W.Fast.tw4579403493507170074 from PySem.W.Fast.te4579403493507170074,show@List.any=@PySem.W.R.anyR from PySem.W.R.anyR_eq,show@PySem.W.WShape.arms=@PySem.W.Fast.tw4274047373036748609 from PySem.W.Fast.te4274047373036748609];kernel_rfl
 ·as_aux_lemma=>rw[show@List.all=@PySem.W.R.allR from PySem.W.R.allR_eq,show@PySem.W.OpenLaw.row=@PySem.W.Fast.tw2368527892694137696 from PySem.W.Fast.te2368527892694137696];kernel_rfl
 ·as_aux_lemma=>rw[show@PySem.W.OpenLaw.row=@PySem.W.Fast.tw2368527892694137696 from PySem.W.Fast.te2368527892694137696];kernel_rfl
 ·as_aux_lemma=>rw[show@List.contains=@PySem.W.Fast.tw3471404346716756564 from PySem.W.Fast.te3471404346716756564,show@PySem.instDecidableEqStr=@PySem.W.Fast.sDec from PySem.W.Fast.sDec_eq,show@PySem.Program.boundNames=@PySem.W.Fast.tw18344453789297297638 from PySem.W.Fast.te18344453789297297638,show@PySem.W.OpenLaw.row=@PySem.W.Fast.tw2368527892694137696 from PySem.W.Fast.te2368527892694137696];kernel_rfl
 ·as_aux_lemma=>rw[show@List.contains=@PySem.W.Fast.tw3471404346716756564 from PySem.W.Fast.te3471404346716756564,show@PySem.instDecidableEqStr=@PySem.W.Fast.sDec from PySem.W.Fast.sDec_eq,show@PySem.startupNames=@PySem.W.Fast.tw12749700546528644094 from PySem.W.Fast.te12749700546528644094,show@PySem.W.OpenLaw.row=@PySem.W.Fast.tw2368527892694137696 from PySem.W.Fast.te2368527892694137696];kernel_rfl
 ·as_aux_lemma=>kernel_rfl
 ·as_aux_lemma=>rw[show@List.all=@PySem.W.R.allR from PySem.W.R.allR_eq,show@PySem.W.footLine=@PySem.W.Fast.tw10501279942588096481 from PySem.W.Fast.te10501279942588096481];kernel_rfl
 ·as_aux_lemma=>rw[show@PySem.W.noClassBlock=@PySem.W.Fast.tw8179353310426384613 from PySem.W.Fast.te8179353310426384613];kernel_rfl
 ·as_aux_lemma=>kernel_rfl
 ·as_aux_lemma=>kernel_rfl
 ·as_aux_lemma=>rw[show@PySem.W.noRoadLSs=@PySem.W.Fast.tw8326940854005059898 from PySem.W.Fast.te8326940854005059898,show@PySem.W.OpenLaw.bound'=@PySem.W.Fast.tw797321630700447069 from PySem.W.Fast.te797321630700447069,show@PySem.W.OpenLaw.may=@PySem.W.Fast.tw9572597257264208301 from PySem.W.Fast.te9572597257264208301];kernel_rfl
 ·as_aux_lemma=>rw[show@PySem.W.defStands=@PySem.W.Fast.tw9558739934217749035 from PySem.W.Fast.te9558739934217749035];kernel_rfl
 ·as_aux_lemma=>rw[show@PySem.W.OpenLaw.namesIt=@PySem.W.Fast.tw16286561074155671207 from PySem.W.Fast.te16286561074155671207];kernel_rfl
 ·as_aux_lemma=>rw[show@List.all=@PySem.W.R.allR from PySem.W.R.allR_eq,show@PySem.instDecidableEqStr=@PySem.W.Fast.sDec from PySem.W.Fast.sDec_eq];kernel_rfl
 ·as_aux_lemma=>rw[show@List.all=@PySem.W.R.allR from PySem.W.R.allR_eq,show@PySem.W.OpenLaw.bound'=@PySem.W.Fast.tw797321630700447069 from PySem.W.Fast.te797321630700447069,show@PySem.W.builtinNamed=@PySem.W.Fast.qNamed from PySem.W.Fast.named_eq,show@PySem.instDecidableEqStr=@PySem.W.Fast.sDec from PySem.W.Fast.sDec_eq,show@PySem.W.OpenLaw.reads=@PySem.W.Fast.tw6984425678791042302 from PySem.W.Fast.te6984425678791042302];kernel_rfl
 ·as_aux_lemma=>rw[show@List.all=@PySem.W.R.allR from PySem.W.R.allR_eq,show@List.flatMap=@PySem.W.Fast.tw17095254045102204799 from PySem.W.Fast.te17095254045102204799,show@PySem.importedNames=@PySem.W.Fast.tw12879404354523853263 from PySem.W.Fast.te12879404354523853263,show@PySem.W.OpenLaw.reads=@PySem.W.Fast.tw6984425678791042302 from PySem.W.Fast.te6984425678791042302];kernel_rfl
 ·as_aux_lemma=>rw[show@List.all=@PySem.W.R.allR from PySem.W.R.allR_eq,show@List.flatMap=@PySem.W.Fast.tw17095254045102204799 from PySem.W.Fast.te17095254045102204799,show@PySem.importedNames=@PySem.W.Fast.tw12879404354523853263 from PySem.W.Fast.te12879404354523853263,show@PySem.W.OpenLaw.reads=@PySem.W.Fast.tw6984425678791042302 from PySem.W.Fast.te6984425678791042302,show@PySem.drawsOf=@PySem.W.Fast.tw482687673346738481 from PySem.W.Fast.te482687673346738481,show@PySem.instDecidableEqStr=@PySem.W.Fast.sDec from PySem.W.Fast.sDec_eq];kernel_rfl
 ·as_aux_lemma=>rw[show@PySem.W.namesMeet=@PySem.W.Fast.tw17119622794617984870 from PySem.W.Fast.te17119622794617984870,show@List.contains=@PySem.W.Fast.tw3471404346716756564 from PySem.W.Fast.te3471404346716756564,show@PySem.instDecidableEqStr=@PySem.W.Fast.sDec from PySem.W.Fast.sDec_eq,show@PySem.W.OpenLaw.may=@PySem.W.Fast.tw9572597257264208301 from PySem.W.Fast.te9572597257264208301];kernel_rfl
 ·as_aux_lemma=>rw[show@List.contains=@PySem.W.Fast.tw3471404346716756564 from PySem.W.Fast.te3471404346716756564,show@PySem.instDecidableEqStr=@PySem.W.Fast.sDec from PySem.W.Fast.sDec_eq,show@PySem.W.OpenLaw.own=@PySem.W.Fast.tw10792542408131684335 from PySem.W.Fast.te10792542408131684335];kernel_rfl
 ·as_aux_lemma=>rw[show@List.eraseDups=@PySem.W.Fast.tw7723801398212525404 from PySem.W.Fast.te7723801398212525404,show@PySem.instDecidableEqStr=@PySem.W.Fast.sDec from PySem.W.Fast.sDec_eq,show@PySem.W.OpenLaw.own=@PySem.W.Fast.tw10792542408131684335 from PySem.W.Fast.te10792542408131684335];kernel_rfl
 ·as_aux_lemma=>rw[show@List.all=@PySem.W.R.allR from PySem.W.R.allR_eq,show@PySem.W.OpenLaw.own=@PySem.W.Fast.tw10792542408131684335 from PySem.W.Fast.te10792542408131684335,show@PySem.W.builtinNamed=@PySem.W.Fast.qNamed from PySem.W.Fast.named_eq];kernel_rfl
 ·as_aux_lemma=>rw[show@PySem.W.namesMeet=@PySem.W.Fast.tw17119622794617984870 from PySem.W.Fast.te17119622794617984870,show@List.contains=@PySem.W.Fast.tw3471404346716756564 from PySem.W.Fast.te3471404346716756564,show@PySem.instDecidableEqStr=@PySem.W.Fast.sDec from PySem.W.Fast.sDec_eq,show@PySem.W.OpenLaw.own=@PySem.W.Fast.tw10792542408131684335 from PySem.W.Fast.te10792542408131684335];kernel_rfl
 ·as_aux_lemma=>rw[show@PySem.W.namesMeet=@PySem.W.Fast.tw17119622794617984870 from PySem.W.Fast.te17119622794617984870,show@PySem.instDecidableEqStr=@PySem.W.Fast.sDec from PySem.W.Fast.sDec_eq];kernel_rfl
end H
end Mine.Internal
end
section
set_option maxRecDepth 100000
set_option maxHeartbeats 0
namespace Mine.Internal
namespace X
open PySem PySem.W PySem.Calls PyProof.Rows Mine.Internal.H
noncomputable def dl:Nat->Nat->List Nat
 |0,_=>[]
 |k+1,n=>Nat.mod n 2048::dl k (Nat.div n 2048)
noncomputable def u (s:String):List Nat:=(Str.ofString s).cps.toList
noncomputable def Ae (l:List Nat):Str:=⟨l.toArray⟩
noncomputable def K (P:Params):Frag:=List.map (λa=>(a,((ID P).get a).getD (AE []))) (dl 270 0x10720d41882d0520941081d07c5c88b112234188410256a1e93d464cca03d9592965049b92d23e454838f91d6374678c116a2643485b09a0b40f80f001fdbf67e2fa9dcbb2756e75b83626bad599e32e64ec49822fd5ecbbd6d2cb588ae158aac54aa4945a864bc95d25a053ee7c0f01d93a4710de9b635e668c51852fc5dcb49622b6550a693f2704cc9612523c45c891041de3a0708da19831c600b91642ac5209d12c23c440810f41d4370690b61442504395b29a50c9c92f24245c848fb1da37c688c316e26c3585d09e0bc10811005fe3f77e4faddd3b3758e79b8b636bcd5d9eb2f650c4d82afe5eebc16dacc58aae5592ad54ca4d462874be961262063f07c4f09da3a6714df1b736066cc59862fe5e0b51632b8554a71402724d09692623e460899051e03a4710db19a320608ba1662b05289e12e240448820f61d83786a0b81482584489f1421bc387bef81bd37b69ad398e31d5c8b9530a623f47ecd21a52d85b4839081e43cc2f05f00400400003)
noncomputable def iK:List Nat:=dl 108 0x95b29a50c9c92f24245c848fb1da37c688c316e26c3585d09e0bc10811005fe3f77e4faddd3b3758e79b8b636bcd5d9eb2f650c4d82afe5eebc16dacc58aae5592ad54ca4d462874be961262063f07c4f09da3a6714df1b736066cc59862fe5e0b51632b8554a71402724d09692623e460899051e03a4710db19a320608ba1662b05289e12e240448820f61d83786a0b814825844
noncomputable def iv:List Nat:=dl 14 0x2284387c0deda731d5ca988fd9a52da4207985f
noncomputable def Jp:List (List Nat):=[u "contours",u "instructions",u "rows",u "tag",u "told_sum",u "place",u "size",u "octets",u "at",u "glyph",u "first",u "second",u "is_move",u "scale",u "places",u "met",u "ends",u "starts",u "deltas",u "begin",u "offsets",u "units",u "box",u "is_long",u "flags",u "style",u "ascender",u "descender",u "gap",u "count",u "advances",u "bearings",u "tables",u "head",u "lines",u "glyphs",u "signs",u "metrics",u "pairs",u "advance",u "bearing",u "outline",u "parts",u "letters",u "codes",u "maps"]
noncomputable def iP:List (List Nat):=[u "points",u "tags",u "table",u "has",u "byte",u "signed",u "word",u "part",u "count",u "glyph_octets",u "count_met",u "outline",u "find",u "ends",u "box",u "octets",u "glyph"]
noncomputable def gV:List (Str×Gl):=[(Ae (u "contours_of"),.fn 4),(Ae (u "moved"),.fn 5),(Ae (u "scaled_number"),.fn 6),(Ae (u "turned"),.fn 7),(Ae (u "u16"),.fn 8),(Ae (u "s16"),.fn 9),(Ae (u "u32"),.fn 10),(Ae (u "put16"),.fn 11),(Ae (u "signed_octets"),.fn 12),(Ae (u "counted_octets"),.fn 13),(Ae (u "put32"),.fn 14),(Ae (u "part_of"),.fn 15),(Ae (u "filled"),.fn 16),(Ae (u "sum_of"),.fn 17),(Ae (u "tag_of"),.fn 18),(Ae (u "tag_octets"),.fn 19),(Ae (u "read_directory"),.fn 25),(Ae (u "read_tables"),.fn 26),(Ae (u "plain_head"),.fn 27),(Ae (u "sum_of_table"),.fn 28),(Ae (u "steps_of"),.fn 29),(Ae (u "directory_octets"),.fn 30),(Ae (u "write_tables"),.fn 31),(Ae (u "read_loca"),.fn 32),(Ae (u "read_flags"),.fn 38),(Ae (u "read_deltas"),.fn 39),(Ae (u "read_ends"),.fn 40),(Ae (u "read_simple"),.fn 41),(Ae (u "read_scale"),.fn 43),(Ae (u "signed_byte"),.fn 44),(Ae (u "read_arguments"),.fn 45),(Ae (u "read_parts"),.fn 46),(Ae (u "placed"),.fn 52),(Ae (u "first_from"),.fn 53),(Ae (u "read_map"),.fn 56),(Ae (u "read_rows"),.fn 57),(Ae (u "read_cmap"),.fn 58),(Ae (u "runs_of"),.fn 59),(Ae (u "is_even_run"),.fn 60),(Ae (u "write_format_4"),.fn 61),(Ae (u "exponent_of"),.fn 62),(Ae (u "write_map"),.fn 63),(Ae (u "write_cmap"),.fn 64),(Ae (u "read_head"),.fn 66),(Ae (u "write_head"),.fn 67),(Ae (u "read_count"),.fn 68),(Ae (u "write_maxp"),.fn 69),(Ae (u "read_lines"),.fn 71),(Ae (u "write_lines"),.fn 72),(Ae (u "read_metrics"),.fn 74),(Ae (u "told_advances"),.fn 75),(Ae (u "write_metrics"),.fn 76),(Ae (u "axis_flag"),.fn 82),(Ae (u "flag_octets"),.fn 83),(Ae (u "box_octets"),.fn 84),(Ae (u "simple_octets"),.fn 85),(Ae (u "scale_octets"),.fn 86),(Ae (u "argument_octets"),.fn 87),(Ae (u "composite_octets"),.fn 88),(Ae (u "write_glyphs"),.fn 89),(Ae (u "whole_box"),.fn 94),(Ae (u "built"),.fn 95),(Ae (u "greatest"),.fn 96),(Ae (u "_law_ways"),.fn 97),(Ae (u "_law_box_of_lots"),.fn 98),(Ae (u "_law_lot"),.fn 99),(Ae (u "_law_any"),.fn 100),(Ae (u "_law_plain"),.fn 101),(Ae (u "_law_part"),.fn 102),(Ae (u "_law_parts"),.fn 103),(Ae (u "_law_contours"),.fn 104),(Ae (u "_law_font"),.fn 105),(Ae (u "_law_outlines_right"),.fn 106),(Ae (u "law"),.fn 107),(Ae (u "Outline"),.cls 0),(Ae (u "Tables"),.cls 1),(Ae (u "DirectoryRow"),.cls 2),(Ae (u "Octets"),.cls 3),(Ae (u "Part"),.cls 4),(Ae (u "GlyphTable"),.cls 5),(Ae (u "SegmentMap"),.cls 6),(Ae (u "Head"),.cls 7),(Ae (u "Lines"),.cls 8),(Ae (u "Metrics"),.cls 9),(Ae (u "Kern"),.cls 10),(Ae (u "Font"),.cls 11),(Ae (u "Letter"),.cls 12),(Ae (u "Plan"),.cls 13),(Ae (u "WORD"),.val 0),(Ae (u "VERSION"),.val 1),(Ae (u "HEAD_SIZE"),.val 2),(Ae (u "ROW_SIZE"),.val 3),(Ae (u "SUM_PLACE"),.val 4),(Ae (u "MAGIC_SUM"),.val 5),(Ae (u "REPEAT"),.val 6),(Ae (u "X_SHORT"),.val 7),(Ae (u "X_SAME"),.val 8),(Ae (u "Y_SHORT"),.val 9),(Ae (u "Y_SAME"),.val 10),(Ae (u "ON_CURVE"),.val 11),(Ae (u "SCALE"),.val 12),(Ae (u "TWO_SCALES"),.val 13),(Ae (u "FOUR_SCALES"),.val 14),(Ae (u "UNIT"),.val 15),(Ae (u "MOVES"),.val 16),(Ae (u "WORDS"),.val 17),(Ae (u "MORE"),.val 18),(Ae (u "INSTRUCTIONS"),.val 19),(Ae (u "MOST_DEPTH"),.val 20),(Ae (u "MOST_PARTS"),.val 21),(Ae (u "MOST_POINTS"),.val 22),(Ae (u "BEST"),.val 23),(Ae (u "LAST_CODE"),.val 24),(Ae (u "MOST_OCTETS"),.val 25),(Ae (u "HEAD_OCTETS"),.val 26),(Ae (u "MAGIC"),.val 27),(Ae (u "LEAST_UNITS"),.val 28),(Ae (u "MOST_UNITS"),.val 29),(Ae (u "MOST_REPEATS"),.val 30),(Ae (u "NO_BOX"),.val 31),(Ae (u "_law_one_scale"),.val 32)]
noncomputable def gx:List (Str×BI):=[(Ae (u "len"),.len),(Ae (u "range"),.range),(Ae (u "bytes"),.bytes),(Ae (u "list"),.list),(Ae (u "tuple"),.tuple),(Ae (u "int"),.int),(Ae (u "ord"),.ord),(Ae (u "chr"),.chr),(Ae (u "min"),.min),(Ae (u "max"),.max),(Ae (u "sum"),.sum),(Ae (u "sorted"),.sorted)]
noncomputable def iY:List (List (List Nat)):=[[u "self",u "contours",u "instructions"],[u "self",u "found",u "contour"],[u "self",u "found",u "at",u "contour"],[u "self",u "points",u "across",u "up"],[u "points",u "ends",u "found",u "begin",u "end"],[u "contours",u "x",u "y"],[u "number"],[u "contours",u "scale",u "a",u "b",u "c",u "d",u "found",u "contour"],[u "octets",u "at"],[u "octets",u "at",u "found"],[u "octets",u "at"],[u "number"],[u "number"],[u "number"],[u "number"],[u "octets",u "at",u "size"],[u "octets"],[u "octets",u "total",u "whole",u "at"],[u "octets",u "at",u "found",u "octet"],[u "tag",u "signs"],[u "self",u "rows"],[u "self"],[u "self",u "tag"],[u "self",u "tag"],[u "self",u "tag",u "told_sum",u "place",u "size"],[u "octets",u "found",u "number",u "at",u "row"],[u "octets",u "found",u "rows",u "row"],[u "octets"],[u "tag",u "octets"],[u "count",u "power",u "exponent"],[u "tables",u "places",u "count",u "power",u "exponent",u "found",u "tag",u "octets"],[u "tables",u "told",u "places",u "at",u "tag",u "found",u "octets",u "adjustment",u "place"],[u "octets",u "is_long",u "count",u "size",u "found",u "number",u "place"],[u "self",u "octets"],[u "self"],[u "self"],[u "self"],[u "self",u "size"],[u "octets",u "count",u "found",u "flag",u "many"],[u "octets",u "flags",u "short",u "same",u "found",u "at",u "flag",u "step"],[u "octets",u "many",u "found",u "number",u "end"],[u "octets",u "many",u "ends",u "instructions",u "count",u "flags",u "across",u "up",u "points"],[u "self",u "glyph",u "first",u "second",u "is_move",u "scale"],[u "octets",u "flags",u "one",u "other",u "third"],[u "number"],[u "octets",u "flags",u "is_move",u "first",u "second"],[u "octets",u "found",u "flags",u "glyph",u "first",u "second",u "instructions"],[u "self",u "octets",u "places"],[u "self"],[u "self",u "glyph"],[u "self",u "glyph",u "above",u "octets",u "many",u "found",u "parts",u "instructions",u "contours",u "part",u "inner"],[u "self",u "parts",u "points"],[u "part",u "inner",u "outer",u "found",u "fixed",u "loose",u "anchor",u "own"],[u "ends",u "code",u "low",u "high",u "half"],[u "self",u "octets",u "many",u "begin",u "at"],[u "self",u "code",u "at",u "glyph"],[u "octets",u "form"],[u "octets"],[u "octets",u "rows",u "best",u "platform",u "encoding",u "place"],[u "codes",u "found",u "code"],[u "codes",u "first",u "last",u "code"],[u "codes",u "runs",u "many",u "deltas",u "offsets",u "lists",u "at",u "first",u "last",u "code",u "ends",u "starts",u "power",u "head",u "body"],[u "power",u "found"],[u "form",u "codes",u "code"],[u "rows",u "found",u "place",u "maps",u "platform",u "encoding",u "octets"],[u "self",u "units",u "box",u "is_long",u "flags",u "style"],[u "octets",u "units",u "box",u "form"],[u "head",u "found",u "number"],[u "octets"],[u "count",u "points",u "contours",u "depth",u "numbers",u "found",u "number"],[u "self",u "ascender",u "descender",u "gap",u "count"],[u "octets"],[u "lines",u "widest",u "found"],[u "self",u "advances",u "bearings"],[u "octets",u "many",u "count",u "advances",u "bearings",u "at"],[u "advances",u "many"],[u "rows",u "many",u "found",u "at",u "advance",u "bearing"],[u "self",u "rows"],[u "self",u "octets",u "count",u "places"],[u "self"],[u "self",u "code",u "found"],[u "self",u "glyph"],[u "step",u "short",u "same"],[u "flags",u "found",u "at",u "many"],[u "box"],[u "outline",u "flags",u "across",u "up",u "x",u "y",u "a",u "b",u "on",u "x_flag",u "x_octets",u "y_flag",u "y_octets",u "ends",u "told",u "head"],[u "scale",u "a",u "b",u "c",u "d"],[u "part",u "first",u "second"],[u "parts",u "box",u "instructions",u "found",u "at",u "argument_flag",u "arguments",u "scale_flag",u "scale",u "flags"],[u "rows",u "is_long",u "glyphs",u "places",u "octets",u "told",u "place"],[u "self",u "advance",u "bearing",u "outline",u "parts",u "box"],[u "self"],[u "self"],[u "self",u "letters",u "codes",u "maps",u "pairs",u "units",u "is_long",u "lines"],[u "letters",u "found",u "letter",u "box"],[u "plan",u "more",u "rows",u "glyphs",u "places",u "metrics",u "many",u "sizes",u "ascender",u "descender",u "gap",u "widest"],[u "numbers",u "found",u "number"],[u "found"],[u "script",u "drawn_one",u "bulk"],[u "lots",u "many",u "lot"],[u "lots",u "things"],[u "lots",u "x",u "y",u "right",u "high"],[u "lots",u "letter",u "ahead",u "own",u "way",u "is_half",u "x",u "y",u "far"],[u "lots",u "letters",u "points",u "found",u "ahead",u "letter"],[u "letters",u "number",u "found",u "letter",u "way",u "is_half",u "place",u "a",u "b",u "c",u "d",u "parted",u "led_ones",u "contour",u "across",u "up",u "fixed",u "own"],[u "letters",u "is_long",u "made",u "number",u "parts",u "letter",u "way",u "is_half",u "place",u "parted",u "scale"],[u "letters",u "font",u "number",u "due"],[u "script",u "lots",u "letters",u "one",u "other",u "first",u "way",u "is_half",u "fourth",u "font"]]
end X
end Mine.Internal
end
section
set_option maxRecDepth 100000
set_option maxHeartbeats 0
namespace Mine.Internal
namespace X
open PySem PySem.W PySem.Calls PyProof.Rows Mine.Internal.H
noncomputable def Ti (i:Nat):List Nat:=(nth Jp i).getD [0,i]
noncomputable def fld (i:Nat):Str:=Ae (Ti i)
noncomputable def mnm (i:Nat):Str:=Ae ((nth iP i).getD [])
noncomputable def fad (i:Nat):Addr:=(nth iK i).getD 0
noncomputable def cad (i:Nat):Addr:=(nth iv i).getD 0
noncomputable def Mt (i:Nat):List Str:=((nth iY i).getD []).map Ae
noncomputable def gl (x:Str):Option Gl:=lk x gV
noncomputable def bn (x:Str):Option BI:=lk x gx
noncomputable def nm:Nm:=⟨gl,bn,fld,mnm⟩
noncomputable def Js (f:Nat->Bool):Nat->Bool
 |0=>true
 |n+1=>f n&&Js f n
theorem FG {f:Nat->Bool}:∀{n:Nat},Js f n=true->∀i,i<n->f i=true
 |0,_,i,h=>absurd h (Nat.not_lt_zero i)
 |n+1,e,i,h=>by
  have⟨h1,h2⟩:=A8 (show(f n&&Js f n)=true from e)
  rcases Nat.lt_succ_iff_lt_or_eq.1 h with h|h
  ·exact FG h2 i h
  ·exact h▸h1
theorem Bh {α:Type}:∀{l:List α}{i:Nat}{a:α},nth l i=some a->i<l.length
 |[],_,_,h=>nomatch h
 |_::l,0,_,_=>Nat.succ_pos _
 |_::l,i+1,_,h=>Nat.succ_lt_succ (Bh (l:=l) h)
theorem HS {α:Type}:∀{l:List α}{i:Nat}{a:α},nth l i=some a->a∈l
 |[],_,_,h=>nomatch h
 |x::l,0,_,h=>by cases(show some x=some _ from h);exact List.mem_cons_self
 |_::l,i+1,_,h=>List.mem_cons_of_mem _ (HS (l:=l) h)
noncomputable def LF:List (List Nat)->Bool
 |[]=>true
 |x::r=>!(r.any λy=>E3 x y)&&LF r
theorem QX:∀{l:List (List Nat)}{i j:Nat}{a:List Nat},LF l=true->nth l i=some a->nth l j=some a->i=j
 |[],_,_,_,_,h,_=>nomatch h
 |x::l,0,0,_,_,_,_=>rfl
 |x::l,0,j+1,a,hd,h1,h2=>by
  cases(show some x=some _ from h1)
  have⟨h3,_⟩:=A8 (show(!(l.any λy=>E3 x y)&&LF l)=true from hd)
  rw[Bool.not_eq_true',List.any_eq_false] at h3
  exact absurd (Dg x) (h3 x (HS (l:=l) h2))
 |x::l,i+1,0,a,hd,h1,h2=>by
  cases(show some x=some _ from h2)
  have⟨h3,_⟩:=A8 (show(!(l.any λy=>E3 x y)&&LF l)=true from hd)
  rw[Bool.not_eq_true',List.any_eq_false] at h3
  exact absurd (Dg x) (h3 x (HS (l:=l) h1))
 |x::l,i+1,j+1,a,hd,h1,h2=>congrArg (·+1) (QX (l:=l) (A8 (show(!(l.any λy=>E3 x y)&&LF l)=true from hd)).2 h1 h2)
theorem ao:LF Jp=true:=by kernel_rfl
theorem et:Jp.all (λl=>match l with|0::_=>false|_=>true)=true:=by kernel_rfl
theorem fld_inj (i j:Nat)(h:fld i=fld j):i=j:=by
 have h:Ti i=Ti j:=by
  have:=congrArg (λx:Str=>x.cps.toList) h
  exact this
 unfold Ti at h
 have no:∀a k,nth Jp a=some [0,k]->False:=λa k e=>by
  have:=List.all_eq_true.1 et _ (HS e)
  cases this
 cases h1:nth Jp i with
 |none=>
  cases h2:nth Jp j with
  |none=>
   rw[h1,h2] at h
   have h:[0,i]=[0,j]:=h
   exact(List.cons.inj (List.cons.inj h).2).1
  |some b=>rw[h1,h2] at h;have h:[0,i]=b:=h;subst h;exact(no j i h2).elim
 |some a=>
  cases h2:nth Jp j with
  |none=>rw[h1,h2] at h;have h:a=[0,j]:=h;subst h;exact(no i j h1).elim
  |some b=>rw[h1,h2] at h;have h:a=b:=h;subst h;exact QX ao h1 h2
theorem hU (P:Params):((K P).all λp=>(((ID P).get p.1).bind alive).isSome)=true:=by kernel_rfl
theorem iS (P:Params):((K P).all λp=>Nat.blt p.1 1198)=true:=by kernel_rfl
theorem Sk {K:Frag}{a:Addr}{o:Obj}:K.lookup a=some o->(a,o)∈K:=by
 induction K with
 |nil=>intro h;cases h
 |cons p r ih=>
  intro h
  obtain⟨b,x⟩:=p
  simp only[List.lookup] at h
  split at h
  ·rename_i q;cases h;rw[beq_iff_eq.mp q];exact List.mem_cons_self
  ·exact List.mem_cons_of_mem _ (ih h)
theorem X9 {o o':Obj}(h:alive o=some o'):o'=o:=by
 unfold alive at h
 split at h
 ·cases h
 ·exact(Option.some.inj h).symm
theorem iE {P:Params}{a:Addr}{o:Obj}(hm:(a,o)∈K P)(h:(((ID P).get a).bind alive).isSome=true):((ID P).get a).bind alive=some o:=by
 obtain⟨b,_,e⟩:=List.mem_map.1 hm
 cases e
 cases e1:(ID P).get a with
 |none=>rw[e1] at h;cases h
 |some o=>
  rw[e1] at h
  cases e2:alive o with
  |none=>rw[show(some o).bind alive=alive o from rfl,e2] at h;cases h
  |some o'=>rw[show(some o).bind alive=alive o from rfl,e2,X9 e2];rfl
theorem kin (P:Params)(a:Addr)(o:Obj)(h:(K P).lookup a=some o):(H1 P).get? a=some o:=by
 have hm:=Sk h
 have h1:=iE hm (List.all_eq_true.1 (hU P) _ hm)
 have h2:=Nat.le_of_ble_eq_true (List.all_eq_true.1 (iS P) _ hm)
 obtain⟨o',e1,e2⟩:=Option.bind_eq_some_iff.1 h1
 exact(abs_get (life:=SW) h2 e1).trans e2
noncomputable def Te (P:Params)(p:Str×Gl):Bool:=match p.2 with
 |.fn f=>nsIn (K P) mainGlobals p.1==some (some (.ref (fad f)))&&keepIn (K P) (.ref (fad f))
 |.cls c=>nsIn (K P) mainGlobals p.1==some (some (.ref (cad c)))&&keepIn (K P) (.ref (cad c))
 |.val j=>(match nsIn (K P) mainGlobals p.1 with
  |some (some v)=>(match A.gtb j with|some u=>RK (K P) u v|none=>true)
  |_=>false)
theorem e_ (P:Params):(gV.all (Te P))=true:=by kernel_rfl
noncomputable def eS (P:Params)(p:Str×BI):Bool:=nsIn (K P) mainGlobals p.1==some none&&nsIn (K P) builtinsNs p.1==some (some p.2.val)
theorem dG (P:Params):(gx.all (eS P))=true:=by kernel_rfl
noncomputable def Uo (P:Params)(c:Nat):Bool:=match nth A.fokT c with
 |some l=>DL (K P) (cad c)&&l.all λf=>findIn (K P) (.ref (cad c)) (fld f)==some none
 |none=>true
theorem bg (P:Params):Js (Uo P) 14=true:=by kernel_rfl
noncomputable def Va (P:Params)(c:Nat):Bool:=match nth A.mtL c with
 |some l=>l.all λq=>DL (K P) (cad c)&&(findIn (K P) (.ref (cad c)) (mnm q.1)==some (some (.ref (fad q.2)))&&(typeIn (K P) (.ref (fad q.2))==some (.type "function")&&(keepIn (K P) (.ref (fad q.2))&&
  match nth A.fokT c with|some l'=>l'.all (λj=>!D_ (fld j) (mnm q.1))|none=>true)))
 |none=>true
theorem aY (P:Params):Js (Va P) 14=true:=by kernel_rfl
end X
end Mine.Internal
end
section
set_option maxRecDepth 100000
set_option maxHeartbeats 0
namespace Mine.Internal
namespace X
open PySem PySem.W PySem.Calls PyProof.Rows Mine.Internal.H
noncomputable def WG (P:Params)(i:Nat):(List Stmt×List Stmt)×Bool:=match A.fnAt i with|some f=>MS nm (K P) (fad i) f (Mt i)|none=>(([],[]),true)
noncomputable def Z9 {α:Type}(f:Nat->α):Nat->List α
 |0=>[]
 |n+1=>f n::Z9 f n
noncomputable def Zf {α:Type}(f:Nat->α):Nat->List α
 |0=>[]
 |n+1=>f n::Zf f n
theorem Xd {α:Type}{f g:Nat->α}:∀{n:Nat},Z9 f n=Zf g n->∀i,i<n->f i=g i
 |0,_,i,h=>absurd h (Nat.not_lt_zero i)
 |n+1,e,i,h=>(Nat.lt_succ_iff_lt_or_eq.mp h).elim (Xd (List.cons.inj e).2 i) λq=>q▸(List.cons.inj e).1
noncomputable def gT (P:Params)(c:Nat):Bool:=match A.initOf c with|some i=>(match A.fnAt i with|some f=>Uk (K P) (cad c) (fad i) f|none=>true)|none=>true
theorem c9 (P:Params):Js (λi=>(WG P i).2) 108=true:=by kernel_rfl
theorem fj (P:Params):Z9 (λi=>(WG P i).1.1) 108=Zf (λi=>(WG P i).1.2) 108:=by kernel_rfl
theorem dk (P:Params):Js (gT P) 14=true:=by kernel_rfl
noncomputable def C (w:World)(os:OsState):Cx:={prog:=pw,w:=w,fld:=fld,fld_inj:=fld_inj,cad:=cad,fok:=A.fokb,base:=(H1 w.params).get?,os:=os}
theorem aa (P:Params):findCls (K P) (.type "int") (.type "type") (PySem.Str.ofString "from_bytes")=some (.get (.builtin "classmethod_descriptor.__get__") (.builtin "int.from_bytes") .none (.type "int")):=by kernel_rfl
theorem aq (P:Params):nsIn (K P) mainGlobals "int"=some none/\nsIn (K P) builtinsNs "int"=some (some (.type "int")):=⟨by kernel_rfl,by kernel_rfl⟩
noncomputable def Z7 (P:Params):Bool:=match (K P).lookup 2 with
 |some ⟨_,_,.dict es _,_⟩=>es.toList.all (λe=>match e.key with|.str _ _=>true|_=>false)&&(es.toList.all λe=>match e.key with|.str x _=>!D_ x "sys.recursionlimit"|_=>false)
 |_=>false
theorem dO (P:Params):Z7 P=true:=by kernel_rfl
theorem VI (w:World)(h:Heap)(k:Bk (H1 w.params).get? h.get?):h.NoLimit:=by
 have hs:=dO w.params
 unfold Z7 at hs
 split at hs
 ·rename_i c d es n sl hl
  have h1:=(A8 hs).1;have h2:=(A8 hs).2
  refine⟨nsFind es,⟨_,es,n,k _ _ (kin _ _ _ hl),rfl,λe he=>?_,λ_=>rfl⟩,?_⟩
  ·have:=List.all_eq_true.1 h1 e (Array.mem_toList_iff.mpr he)
   split at this
   ·rename_i x t e;exact⟨_,_,e⟩
   ·exact(ft this).elim
  ·unfold nsFind findBy
   rw[<-Array.find?_toList,List.find?_eq_none.mpr]
   ·rfl
   ·intro e he
    have:=List.all_eq_true.1 h2 e he
    split at this
    ·rename_i x t e
     intro q
     rw[e] at q
     have q:(x==("sys.recursionlimit":Str))=true:=q
     rw[beq_iff_eq.mp q] at this
     rw[D_,Dg] at this
     exact(ft this).elim
    ·cases this
 ·cases hs
theorem TH {c f:Nat}(h:A.fokb c f=true):∃l,nth A.fokT c=some l/\f∈l:=by
 unfold A.fokb at h
 split at h
 ·rename_i l hl
  refine⟨l,hl,?_⟩
  refine Ac (List.any_eq_true.1 h) λx h1 h2=>?_
  rw[Nat.eq_of_beq_eq_true h2]
  exact h1
 ·exact(ft h).elim
theorem MI:∀{l:List (Nat×Nat)}{m f:Nat},A.look2 l m=some f->(m,f)∈l
 |[],_,_,h=>nomatch h
 |p::r,m,f,h=>by
  unfold A.look2 at h
  split at h
  ·rename_i hb;cases h;rw[<-Nat.eq_of_beq_eq_true hb];exact List.mem_cons_self
  ·exact List.mem_cons_of_mem _ (MI h)
theorem aH {c m f:Nat}(h:A.mtb c m=some f):∃l,nth A.mtL c=some l/\(m,f)∈l:=by
 unfold A.mtb at h
 split at h
 ·rename_i l hl;exact⟨l,hl,MI h⟩
 ·exact(ns h).elim
theorem PI {α:Type} [BEq α] [LawfulBEq α] {a b:α}(h:(a==b)=true):a=b:=beq_iff_eq.mp h
theorem VH (w:World){x:Str}{q:Gl}(h:gl x=some q):Te w.params (x,q)=true:=List.all_eq_true.1 (e_ w.params) _ (Kl h)
noncomputable def P (w:World)(os:OsState):Px (C w os) A.tb where
 K:=K w.params
 kin:=kin w.params
 fad:=fad
 mnm:=mnm
 gl:=gl
 glF:=λx f h=>have q:=A8 (VH w h);⟨PI q.1,q.2⟩
 glC:=λx c h=>have q:=A8 (VH w h);⟨PI q.1,q.2⟩
 glV:=λx j h=>by
  have q:=VH w h
  unfold Te at q
  dsimp only at q
  split at q
  ·rename_i v hv
   refine⟨v,hv,λu hu=>?_⟩
   have hu:A.gtb j=some u:=hu
   rw[hu] at q
   exact QD (C:=C w os) (kin w.params) q
  ·cases q
 bn:=bn
 bnok:=λx b h=>have q:=A8 (List.all_eq_true.1 (dG w.params) _ (Kl h));⟨PI q.1,PI q.2⟩
 bty:=aq w.params
 mods:=⟨boot_o_1 w.params,kin w.params 1 (boot_o_1 w.params) (by kernel_rfl)⟩
 fok:=rfl
 fld:=λc f h=>by
  obtain⟨l,h1,h2⟩:=TH h
  have q:=FG (bg w.params) c (Bh h1)
  unfold Uo at q
  rw[h1] at q
  exact⟨(A8 q).1,PI (List.all_eq_true.1 (A8 q).2 f h2)⟩
 mth:=λc m f h=>by
  obtain⟨l,h1,h2⟩:=aH h
  have q:=FG (aY w.params) c (Bh h1)
  unfold Va at q
  rw[h1] at q
  have q:=List.all_eq_true.1 q _ h2
  have⟨q1,q⟩:=A8 q
  have⟨q2,q⟩:=A8 q
  have⟨q3,q⟩:=A8 q
  have⟨q4,q⟩:=A8 q
  refine⟨q1,PI q2,PI q3,q4,λj hj e=>?_⟩
  obtain⟨l',h3,h4⟩:=TH hj
  rw[h3] at q
  have q:=B_ (List.all_eq_true.1 q _ h4)
  exact KG q e
 frm:=aa w.params
 nolim:=λh k=>VI w h k
theorem ir (w:World)(os:OsState)(n:Nat):DOk (P w os) (A.den n) n:=
 ZM (P w os) Mt (λi f e=>by
  have q:=FG (c9 w.params) i (Bh e)
  have r:=Xd (fj w.params) i (Bh e)
  unfold WG at q r
  rw[e] at q r
  exact⟨q,r⟩) (λc i f e1 e2=>by
  have hc:c<14:=by
   unfold A.initOf at e1
   split at e1
   ·rename_i hl;exact Bh hl
   ·exact(ns e1).elim
  have q:=FG (dk w.params) c hc
  unfold gT at q
  rw[e1] at q
  dsimp only at q
  rw[e2] at q
  exact q) n
end X
end Mine.Internal
end
section
set_option maxRecDepth 100000
set_option maxHeartbeats 0
namespace Mine.Internal
namespace X
open PySem PySem.W PySem.Calls PyProof.Rows Mine.Internal.H
theorem MM {P:Params}{h:Heap}{C:Cx}{F:Fz}{R:WRecords}:∀{vs:List Value}{xs:List WData},WellAll P h vs xs->WShape.hasItems R xs .int=true->∃is:List Int,Ak C F [] (is.map V.int) vs/\is.length=xs.length
 |_,_,.nil,_=>⟨[],by simp only[List.map_nil,Ak],rfl⟩
 |_,_,.cons h1 h2,hx=>by
  simp only[WShape.hasItems,Bool.and_eq_true] at hx
  obtain⟨is,q1,q2⟩:=MM h2 hx.2
  obtain⟨i,rfl⟩:=hasW_int hx.1
  cases h1
  refine⟨i::is,?_,by simp[q2]⟩
  skip
  exact⟨_,_,rfl,⟨_,rfl⟩,q1⟩
theorem eZ {K:Frag}{h:Heap}(hk:∀a o,K.lookup a=some o->h.get? a=some o){ns:Addr}{x:Str}{v:Value}{m:Str->Option Value}(e:nsIn K ns x=some (some v))(hn:h.Ns ns m):m x=some v:=by
 unfold nsIn at e
 split at e
 ·rename_i c d es n sl hl
  refine MC hn λo es' n' h1 h2 h3 h4=>?_
  rw[hk _ _ hl] at h1
  (have z1:=s1 h1;clear h1;subst z1)
  cases h2
  split at e
  ·rename_i en he
   refine AZ e ?_
   rw[<-h4,nsFind,findBy,<-Array.find?_toList,he];rfl
  ·split at e<;>cases e
 ·cases e
theorem OT (P:Params):nsIn (K P) mainGlobals Jn.name=some (some (.ref (fad 107))):=by kernel_rfl
theorem final (N:Nat)(hN:N<=60)(law:∀is:List Int,∃h',(A.den N).fn 107 [.lst (is.map V.int)] []=some (.bool true,h')):PySem.Challenge.rw_sq0116_01.row.wellSaid=true->PySem.Challenge.rw_sq0116_01.row.Holds:=λsaid=>by
 refine Mine.Internal.H.holds_of ?_ said
 intro w jL jC mg mb G Y a o pm cd doc dV kV ho hod hcd hdf hmg hgens args vals as hpre hlay hrd hwell hlow
 have hk:Bk (H1 w.params).get? jC.heap.get?:=λb o e=>Y b o e
 refine AU (pre_splitW hpre) λhsh _=>?_
 obtain⟨d,r,rfl,hd,hr⟩:=hasAllW_cons hsh
 obtain rfl:=hasAllW_nil hr
 obtain⟨xs,rfl,hxs⟩:=hasW_list hd
 cases hwell with
 |cons h1 h2=>
 cases h2
 cases h1 with
 |list h1 h2=>
 rename_i b vs
 obtain⟨is,q1,q2⟩:=MM (C:=C w jC.os) (F:=jC.heap.get?) h2 hxs
 have hlen:xs.length<=1048576:=length_le_of_layableW (layW_cons hlay).1
 have K0:Ok (C w jC.os) ⟨jC.heap.get?,[],λ_=>none,λ_=>none,none⟩ ⟨[],[]⟩ jC:=
  ⟨λ_ _ e=>e,hk,λ_ _ e=>(nomatch e),rfl,λ_ _ e=>(nomatch e),λ_ _ _ e=>(nomatch e),λ_ _ e=>(nomatch e),λ_ _ _ e=>(nomatch e),hgens,rfl⟩
 refine AA (law is) λh' hlaw=>?_
 have hA:Rm callerA N:=by
  refine⟨rfl,?_,?_⟩
  ·show 1+claimMargin+4*N+8<recursionLimit
   have:claimMargin+249<recursionLimit:=by decide+kernel
   exact((BM 0x1211820145111233331213f92113a47c2019) hN this)
  ·show 4+64*N+64<cLine
   have:3908<cLine:=by decide+kernel
   exact((AR 0x1111882011885423331117d8c2a1887c2019) hN this)
 have ha:a=fad 107:=by
  have e:=eZ (λa o e=>hk _ _ (kin w.params a o e)) (OT w.params) G.T.g
  rw[hmg] at e
  cases e
  rfl
 subst ha
 have:=(ir w jC.os N).fn callerA hA 107 _ _ _ _ hlaw _ ⟨[],[]⟩ jC [.ref b] rfl K0 (by
  skip
  refine⟨_,_,rfl,⟨?_,b,vs,rfl,⟨_,h1,rfl,rfl,_,rfl⟩,q1⟩,rfl⟩
  rw[List.length_map,q2];exact Nat.le_trans hlen (by decide))
 refine wpAny_mono this (λv s' ⟨g',Go',K',r⟩=>?_) λ_ _ x=>x.elim
 subst r
 exact⟨.inl ⟨.bool true,.bool true,[],rfl,λ_=>rfl,.bool _,by kernel_rfl,λ_=>⟨.nil,λ_ h=>(nomatch h)⟩⟩,.of_keep λb o e=>(Go'.keep b o e rfl).1,K'.os,.of_eq K'.gens⟩
end X
end Mine.Internal
end
section
namespace Mine.Internal.Q
section
variable {α β:Type}
noncomputable def G7 (t:Nat)(a b:Nat->Prop):Prop:=match Nat.mod t 2 with
 |0=>a (Nat.div t 2)
 |_+1=>b (Nat.div t 2)
noncomputable def bd (o:Option α)(K:α->Prop):Prop:=match o with|some a=>K a|none=>True
noncomputable def tr (b:Bool)(K:Prop):Prop:=match b with|true=>K|false=>True
noncomputable def ask (t:Nat)(o:Option α)(K:α->Nat->Prop):Prop:=G7 t (λt=>bd o λa=>K a t) λt=>∀{a},o=some a->K a t
noncomputable def OE (t:Nat)(b:Bool)(K:Nat->Prop):Prop:=G7 t (λt=>tr b (K t)) λt=>b=true->K t
noncomputable def SU (t:Nat)(x:α)(K:α->Nat->Prop):Prop:=G7 t (K x) λt=>∀{a},x=a->K a t
noncomputable def Tg (t:Nat)(o:Option (α×β))(K:α->β->Nat->Prop):Prop:=G7 t (λt=>match o with|some (a,b)=>K a b t|none=>True) λt=>∀{a b},o=some (a,b)->K a b t
theorem Er {t:Nat}{a b:Nat->Prop}(ha:∀t,a t)(hb:∀t,b t):G7 t a b:=by
 unfold G7
 cases Nat.mod t 2
 ·exact ha _
 ·exact hb _
theorem Dj {o:Option α}{K:α->Prop}(h:∀a,o=some a->K a):bd o K:=by
 cases o
 ·trivial
 ·exact h _ rfl
theorem C0 {b:Bool}{K:Prop}(h:b=true->K):tr b K:=by
 cases b
 ·trivial
 ·exact h rfl
theorem Bx {t:Nat}{o:Option α}{K:α->Nat->Prop}(h:∀a,o=some a->∀t,K a t):ask t o K:=Er (λt=>Dj λa e=>h a e t) λt a e=>h a e t
theorem JP {t:Nat}{b:Bool}{K:Nat->Prop}(h:b=true->∀t,K t):OE t b K:=Er (λt=>C0 λe=>h e t) λt e=>h e t
theorem N_ {t:Nat}{x:α}{K:α->Nat->Prop}(h:∀a,x=a->∀t,K a t):SU t x K:=Er (λt=>h _ rfl t) λt a e=>h a e t
theorem OD {t:Nat}{o:Option (α×β)}{K:α->β->Nat->Prop}(h:∀a b,o=some (a,b)->∀t,K a b t):Tg t o K:=Er (λt=>by
 rcases o with _|⟨a,b⟩
 ·trivial
 ·exact h a b rfl t) λt a b e=>h a b e t
noncomputable def Po:List α->(List α->Prop)->Prop
 |[],K=>K []
 |a::l,K=>Po l λr=>K (a::r)
theorem HJ:∀{l:List α}{K:List α->Prop},K l->Po l K
 |[],_,h=>h
 |_::l,_,h=>HJ (l:=l) h
noncomputable def nb (o:Option (List α))(K:List α->Prop):Prop:=bd o λr=>Po r K
theorem Jm {o:Option (List α)}{K:List α->Prop}(h:∀r,o=some r->K r):nb o K:=Dj λr e=>HJ (h r e)
noncomputable def b2 (o:Option (α×β))(K:α->β->Prop):Prop:=match o with|some (a,b)=>K a b|none=>True
theorem Rx {o:Option (α×β)}{K:α->β->Prop}(h:∀a b,o=some (a,b)->K a b):b2 o K:=by
 rcases o with _|⟨a,b⟩
 ·trivial
 ·exact h a b rfl
theorem Am {o:Option α}{f:α->Option β}{a:α}{y:Option β}(e:o=some a)(h:f a=y):o.bind f=y:=by rw[e];exact h
theorem mp {o:Option α}{f:α->β}{a:α}(e:o=some a):o.map f=some (f a):=by rw[e];rfl
end
noncomputable def Fe (v:V)(K:Int->Prop):Prop:=match v with|.int i=>K i|_=>True
noncomputable def IQ (v:V)(K:List Nat->Prop):Prop:=match v with|.bytes i=>K i|_=>True
noncomputable def Wa (v:V)(K:List V->Prop):Prop:=match v with|.lst i=>K i|_=>True
noncomputable def Ve (v:V)(K:Nat->Prop):Prop:=match v with|.ref i=>K i|_=>True
noncomputable def RF (v:V)(K:Bool->Prop):Prop:=match v with|.bool i=>K i|_=>True
noncomputable def W0 (o:Option Slot)(K:List V->Prop):Prop:=match o with|some (.ul l)=>K l|_=>True
noncomputable def af (o:Option Slot)(K:List (V×V)->Prop):Prop:=match o with|some (.ud l)=>K l|_=>True
noncomputable def ZQ (o:Option Slot)(K:Nat->List (Nat×V)->Prop):Prop:=match o with|some (.uo c l)=>K c l|_=>True
noncomputable def Z1 (c:Cell)(K:Nat->List (Nat×V)->Prop):Prop:=match c with|.ins c fs=>K c fs|_=>True
noncomputable def gA (c:Cell)(K:List V->Prop):Prop:=match c with|.lst l=>K l|_=>True
theorem K_ {v:V}{K:Int->Prop}(h:∀i,v=.int i->K i):Fe v K:=by cases v<;>first|exact h _ rfl|trivial
theorem az {v:V}{K:List Nat->Prop}(h:∀i,v=.bytes i->K i):IQ v K:=by cases v<;>first|exact h _ rfl|trivial
theorem UO {v:V}{K:List V->Prop}(h:∀i,v=.lst i->K i):Wa v K:=by cases v<;>first|exact h _ rfl|trivial
theorem UZ {v:V}{K:Nat->Prop}(h:∀i,v=.ref i->K i):Ve v K:=by cases v<;>first|exact h _ rfl|trivial
theorem QA {v:V}{K:Bool->Prop}(h:∀i,v=.bool i->K i):RF v K:=by cases v<;>first|exact h _ rfl|trivial
theorem SG {o:Option Slot}{K:List V->Prop}(h:∀l,o=some (.ul l)->K l):W0 o K:=by
 cases o with
 |none=>trivial
 |some x=>cases x<;>first|exact h _ rfl|trivial
theorem Wy {o:Option Slot}{K:List (V×V)->Prop}(h:∀l,o=some (.ud l)->K l):af o K:=by
 cases o with
 |none=>trivial
 |some x=>cases x<;>first|exact h _ rfl|trivial
theorem WD {o:Option Slot}{K:Nat->List (Nat×V)->Prop}(h:∀c l,o=some (.uo c l)->K c l):ZQ o K:=by
 cases o with
 |none=>trivial
 |some x=>cases x<;>first|exact h _ _ rfl|trivial
theorem cA {c:Cell}{K:Nat->List (Nat×V)->Prop}(h:∀n fs,c=.ins n fs->K n fs):Z1 c K:=by cases c<;>first|exact h _ _ rfl|trivial
theorem fG {c:Cell}{K:List V->Prop}(h:∀l,c=.lst l->K l):gA c K:=by cases c<;>first|exact h _ rfl|trivial
noncomputable def Ou (s:St)(f:Bf->Prop):Prop:=match s with|⟨r,_⟩=>f r
noncomputable def Ha (s:St)(f:Hp->Prop):Prop:=match s with|⟨_,h⟩=>f h
noncomputable abbrev Kv (α:Type):=α->St->Nat->Prop
noncomputable def Sm (f:V->St->Nat->Kv (Option V)->Prop):List V->St->Nat->Kv (List V)->Prop
 |[],s,t,K=>K [] s t
 |x::r,s,t,K=>f x s t λo s t=>Sm f r s t λq s t=>K (match o with|some y=>y::q|none=>q) s t
noncomputable def Vx (f:V->St->Nat->Kv Fl->Prop):List V->St->Nat->Kv Fl->Prop
 |[],s,t,K=>K .nxt s t
 |x::r,s,t,K=>f x s t λo s t=>match o with
  |.nxt=>Vx f r s t K
  |.ret v=>K (.ret v) s t
noncomputable def Vc (c:St->Nat->Kv Bool->Prop)(f:St->Nat->Kv Fl->Prop):Nat->St->Nat->Kv Fl->Prop
 |0,_,_,_=>True
 |n+1,s,t,K=>c s t λb s t=>match b with
  |false=>K .nxt s t
  |true=>f s t λo s t=>match o with
   |.nxt=>Vc c f n s t K
   |.ret v=>K (.ret v) s t
noncomputable def Sn {α:Type}(F:St->Option (α×St))(f:St->Nat->Kv α->Prop):Prop:=∀s t K,(∀v s' t',F s=some (v,s')->K v s' t')->f s t K
theorem QP {f:V->St->Nat->Kv (Option V)->Prop}{F:V->St->Option (Option V×St)}(hf:∀x,Sn (F x) (f x)):∀l,Sn (BW F l) (Sm f l)
 |[],s,t,K,h=>h _ _ _ rfl
 |x::l,s,t,K,h=>hf x s t _ λo s1 t1 e1=>QP hf l s1 t1 _ λq s2 t2 e2=>by
  cases o with
  |none=>exact h _ _ _ (Am e1 (Am e2 rfl))
  |some y=>exact h _ _ _ (Am e1 (Am e2 rfl))
theorem Tz {f:V->St->Nat->Kv Fl->Prop}{F:V->St->Option (Fl×St)}(hf:∀x,Sn (F x) (f x)):∀l,Sn (Ct F l) (Vx f l)
 |[],s,t,K,h=>h _ _ _ rfl
 |x::l,s,t,K,h=>hf x s t _ λo s1 t1 e1=>by
  cases o with
  |nxt=>exact Tz hf l s1 t1 _ λq s2 t2 e2=>h _ _ _ (Am e1 e2)
  |ret y=>exact h _ _ _ (Am e1 rfl)
theorem UH {c:St->Nat->Kv Bool->Prop}{f:St->Nat->Kv Fl->Prop}{C:St->Option (Bool×St)}{F:St->Option (Fl×St)}(hc:Sn C c)(hf:Sn F f):∀n,Sn (Pu C F n) (Vc c f n)
 |0,s,t,K,h=>trivial
 |n+1,s,t,K,h=>hc s t _ λb s1 t1 e1=>by
  cases b with
  |false=>exact h _ _ _ (Am e1 rfl)
  |true=>
   refine hf s1 t1 _ λo s2 t2 e2=>?_
   cases o with
   |nxt=>exact UH hc hf n s2 t2 _ λq s3 t3 e3=>h _ _ _ (Am e1 (Am e2 e3))
   |ret y=>exact h _ _ _ (Am e1 (Am e2 rfl))
noncomputable def BF (u v:V)(h:Hp):Option V:=match u with
 |.ref n=>(match v with
  |.int j=>(match nth h n with
   |some (.lst l)=>(place j l.length).bind (nth l)
   |_=>Option.none)
  |_=>OO u v)
 |_=>OO u v
noncomputable def Pe (T:Tab)(u:V)(f:Nat)(h:Hp):Option V:=match u with
 |.obj c fs=>(match T.fok c f with|true=>BG f fs|false=>Option.none)
 |.ref n=>(match nth h n with
  |some (.ins c fs)=>(match T.fok c f with|true=>BG f fs|false=>Option.none)
  |_=>Option.none)
 |_=>Option.none
noncomputable def Bi (T:Tab)(D:Den)(elt:E)(t:Tgt)(cond:Option E)(v:V)(s':St):Option (Option V×St):=
 (DD t v s'.r).bind λr=>(OY T D cond ⟨r,s'.h⟩).bind λb=>match b.1 with
   |true=>(ev T D elt b.2).map λy=>(some y.1,y.2)
   |false=>some (Option.none,b.2)
noncomputable def B7 (T:Tab)(D:Den)(t:Tgt)(b:List S)(v:V)(s':St):Option (Fl×St):=(DD t v s'.r).bind λr=>Bd T D b ⟨r,s'.h⟩
section
variable (T:Tab)(D:Den)
mutual
noncomputable def AI:E->St->Nat->Kv V->Prop
 |.cst v,s,t,K=>K v s t
 |.var i,s,t,K=>bd (Es s.r i) λv=>K v s t
 |.fz i,s,t,K=>b2 (ev T D (.fz i) s) λv s=>Po s.r λr=>Ha s λh=>K v ⟨r,h⟩ t
 |.glb k,s,t,K=>bd (T.glb k) λv=>K v s t
 |.bin o a b,s,t,K=>AI a s t λx s t=>AI b s t λy s t=>ask t (AY o x y) λw t=>K w s t
 |.neg a,s,t,K=>AI a s t λx s t=>Fe x λi=>K (.int (-i)) s t
 |.cmp o a b,s,t,K=>AI a s t λx s t=>AI b s t λy s t=>ask t (Av o x y) λc t=>K (.bool c) s t
 |.cmp2 o p a b c,s,t,K=>AI a s t λx s t=>AI b s t λy s t=>ask t (Av o x y) λc1 t=>match c1 with
  |false=>K (.bool false) s t
  |true=>AI c s t λz s t=>ask t (Av p y z) λc2 t=>K (.bool c2) s t
 |.ite e a b,s,t,K=>G7 t (λt=>EJ e s t λc s t=>match c with|true=>AI a s t K|false=>AI b s t K) λt=>∀{v jC},ev T D (.ite e a b) s=some (v,jC)->K v jC t
 |.tup l,s,t,K=>ET l s t λvs s t=>OE t (AO vs.length) λt=>K (.tup vs) s t
 |.lst l,s,t,K=>ET l s t λvs s t=>ask t (DJ vs) λv t=>K v s t
 |.lstH l,s,t,K=>ET l s t λvs s t=>tr (AO vs.length) (Ou s λr=>Ha s λh=>K (.ref h.length) ⟨r,h++[.lst vs]⟩ t)
 |.dsp l,s,t,K=>NW l s t λvs s t=>tr (DT vs) (bd (BD vs []) λd=>K (.dct d) s t)
 |.sub a i,s,t,K=>AI a s t λx s t=>AI i s t λy s t=>ask t (BF x y s.h) λw t=>K w s t
 |.slc a lo hi st,s,t,K=>AI a s t λx s t=>Sz lo s t λl s t=>Sz hi s t λm s t=>Sz st s t λu s t=>ask t (FT x l m u) λw t=>K w s t
 |.att a f,s,t,K=>AI a s t λx s t=>ask t (Pe T x f s.h) λw t=>K w s t
 |.call f as,s,t,K=>ET as s t λvs s t=>Tg t (D.fn f vs s.h) λw h t=>Ou s λr=>K w ⟨r,h⟩ t
 |.new c as,s,t,K=>ET as s t λvs s t=>bd (T.frz c) λz=>Tg t (D.ini c vs s.h) λfs h t=>match z with
  |true=>Ou s λr=>K (.obj c fs) ⟨r,h⟩ t
  |false=>SU t (h++[.ins c fs]) λh' t=>Ou s λr=>K (.ref h.length) ⟨r,h'⟩ t
 |.mth a m as,s,t,K=>AI a s t λx s t=>ask t (CX T x m s.h) λf t=>ET as s t λvs s t=>Tg t (D.fn f (x::vs) s.h) λw h t=>Ou s λr=>K w ⟨r,h⟩ t
 |.bi b as,s,t,K=>ET as s t λvs s t=>ask t (Be b vs) λw t=>K w s t
 |.fromB a,s,t,K=>AI a s t λx s t=>IQ x λl=>OE t (Nat.ble l.length 8) λt=>K (.int (DQ l)) s t
 |.comp elt tg it cond,s,t,K=>AI it s t λx s t=>ask t (A4 x) λl t=>G7 t (λt=>Sm (λv s t K=>nb (DD tg v s.r) λr=>Ha s λh=>SX cond ⟨r,h⟩ t λb s t=>match b with
   |true=>AI elt s t λy s t=>K (some y) s t
   |false=>K none s t) l s t λq s t=>ask t (DJ q) λv t=>K v s t) λt=>∀{q jC},BW (Bi T D elt tg cond) l s=some (q,jC)->ask t (DJ q) λv t=>K v jC t
 |.flat a,s,t,K=>AI a s t λx s t=>ask t (A4 x) λl t=>ask t (E_ l) λq t=>ask t (DJ q) λv t=>K v s t
 |.and l,s,t,K=>G7 t (λt=>TU l s t K) λt=>∀{v jC},ev T D (.and l) s=some (v,jC)->K v jC t
 |.pkLen i,s,t,K=>b2 (ev T D (.pkLen i) s) λv s=>K v s t
 |.pkSub i e,s,t,K=>tr (C2 s.r i) (AI e s t λx s t=>W0 (nth s.r i) λl=>Fe x λj=>ask t ((place j l.length).bind (nth l)) λw t=>K w s t)
 |.pkNe i,s,t,K=>b2 (ev T D (.pkNe i) s) λv s=>K v s t
 |.pkIn neg e i,s,t,K=>AI e s t λx s t=>af (nth s.r i) λl=>tr (D0 x) (bd (keyOf x l) λb=>K (.bool (if neg then !b.isSome else b.isSome)) s t)
 |.pkAtt i f,s,t,K=>b2 (ev T D (.pkAtt i f) s) λv s=>K v s t
 |_,_,_,_=>True
termination_by structural x=>x
noncomputable def ET:List E->St->Nat->Kv (List V)->Prop
 |[],s,t,K=>K [] s t
 |e::r,s,t,K=>AI e s t λx s t=>ET r s t λy s t=>K (x::y) s t
termination_by structural x=>x
noncomputable def NW:List (E×E)->St->Nat->Kv (List (V×V))->Prop
 |[],s,t,K=>K [] s t
 |(k,e)::r,s,t,K=>AI k s t λx s t=>AI e s t λy s t=>NW r s t λz s t=>K ((x,y)::z) s t
termination_by structural x=>x
noncomputable def Sz:Option E->St->Nat->Kv (Option Int)->Prop
 |none,s,t,K=>K none s t
 |some e,s,t,K=>AI e s t λx s t=>Fe x λi=>K (some i) s t
termination_by structural x=>x
noncomputable def SX:Option E->St->Nat->Kv Bool->Prop
 |none,s,t,K=>K true s t
 |some e,s,t,K=>EJ e s t K
termination_by structural x=>x
noncomputable def EJ:E->St->Nat->Kv Bool->Prop
 |.and l,s,t,K=>G7 t (λt=>LS l s t K) λt=>∀{b jC},Cd T D (.and l) s=some (b,jC)->K b jC t
 |.or l,s,t,K=>Ov l s t K
 |.not a,s,t,K=>EJ a s t λb s t=>K (!b) s t
 |.tst e,s,t,K=>AI e s t λx s t=>RF x λb=>K b s t
 |_,_,_,_=>True
termination_by structural x=>x
noncomputable def LS:List E->St->Nat->Kv Bool->Prop
 |[],s,t,K=>K true s t
 |e::r,s,t,K=>EJ e s t λb s t=>match b with|true=>LS r s t K|false=>K false s t
termination_by structural x=>x
noncomputable def Ov:List E->St->Nat->Kv Bool->Prop
 |[],s,t,K=>K false s t
 |e::r,s,t,K=>EJ e s t λb s t=>match b with|true=>K true s t|false=>Ov r s t K
termination_by structural x=>x
noncomputable def TU:List E->St->Nat->Kv V->Prop
 |[a,b],s,t,K=>AI a s t λx s t=>RF x λc=>match c with|true=>AI b s t K|false=>K (.bool false) s t
 |_,_,_,_=>True
termination_by structural x=>x
end
end
section
variable {T:Tab}{D:Den}
theorem dh {c:Nat}{as:List E}(h1:Sn (CU T D as) (ET T D as)):Sn (ev T D (.new c as)) (AI T D (.new c as)):=λs t K h=>
 h1 s t _ λvs s1 t1 e1=>Dj λz e2=>OD λfs h' e3 t3=>by
  cases z with
  |true=>exact h _ _ _ (Am e1 (Am e2 (mp e3)))
  |false=>exact N_ λh'' e4 t4=>h _ _ _ (Am e1 (Am e2 ((mp e3).trans (by rw[<-e4]))))
theorem bz {o p:GS}{a b c:E}(ha:Sn (ev T D a) (AI T D a))(hb:Sn (ev T D b) (AI T D b))(hc:Sn (ev T D c) (AI T D c)):Sn (ev T D (.cmp2 o p a b c)) (AI T D (.cmp2 o p a b c)):=λs t K h=>
 ha s t _ λx s1 t1 e1=>hb s1 t1 _ λy s2 t2 e2=>Bx λc1 e3 t3=>by
  cases c1 with
  |false=>exact h _ _ _ (Am e1 (Am e2 (Am e3 rfl)))
  |true=>exact hc s2 t3 _ λz s4 t4 e4=>Bx λc2 e5 t5=>h _ _ _ (Am e1 (Am e2 (Am e3 (Am e4 (mp e5)))))
theorem fe {e a b:E}(he:Sn (Cd T D e) (EJ T D e))(ha:Sn (ev T D a) (AI T D a))(hb:Sn (ev T D b) (AI T D b)):Sn (ev T D (.ite e a b)) (AI T D (.ite e a b)):=λs t K h=>
 Er (λt=>he s t _ λc s1 t1 e1=>by
  cases c with
  |true=>exact ha s1 t1 _ λv s2 t2 e2=>h _ _ _ (Am e1 e2)
  |false=>exact hb s1 t1 _ λv s2 t2 e2=>h _ _ _ (Am e1 e2)) λt v s' e=>h _ _ _ e
theorem eE {a i:E}(ha:Sn (ev T D a) (AI T D a))(hi:Sn (ev T D i) (AI T D i)):Sn (ev T D (.sub a i)) (AI T D (.sub a i)):=λs t K h=>
 ha s t _ λx s1 t1 e1=>hi s1 t1 _ λy s2 t2 e2=>Bx λw e3 t3=>h _ _ _ (Am e1 (Am e2 (by
  clear e1 e2 ha hi h K
  unfold BF at e3
  cases x<;>first|exact mp e3|skip
  cases y<;>first|exact mp e3|skip
  dsimp only at e3 ⊢
  cases hn:nth s2.h _ with
  |none=>rw[hn] at e3;cases e3
  |some c=>rw[hn] at e3;cases c<;>first|exact mp e3|cases e3)))
theorem ew {a:E}{f:Nat}(ha:Sn (ev T D a) (AI T D a)):Sn (ev T D (.att a f)) (AI T D (.att a f)):=λs t K h=>
 ha s t _ λx s1 t1 e1=>Bx λw e3 t3=>h _ _ _ (Am e1 (by
  clear e1 ha h K
  unfold Pe at e3
  cases x<;>first|(cases e3;done)|skip
  ·dsimp only at e3 ⊢
   cases hf:T.fok _ f<;>rw[hf] at e3<;>first|exact mp e3|cases e3
  ·dsimp only at e3 ⊢
   cases hn:nth s1.h _ with
   |none=>rw[hn] at e3;cases e3
   |some c=>
    rw[hn] at e3
    cases c with
    |lst l=>cases e3
    |ins c fs=>dsimp only at e3 ⊢;cases hf:T.fok _ f<;>rw[hf] at e3<;>first|exact mp e3|cases e3))
theorem ZD {elt it:E}{tg:Tgt}{cond:Option E}(h1:Sn (ev T D elt) (AI T D elt))(h2:Sn (ev T D it) (AI T D it))(h3:Sn (OY T D cond) (SX T D cond)):Sn (ev T D (.comp elt tg it cond)) (AI T D (.comp elt tg it cond)):=λs t K h=>
 h2 s t _ λx s1 t1 e1=>Bx λl e2 t2=>Er (λt3=>QP (F:=Bi T D elt tg cond) (λv s t K h=>Jm λr e1=>h3 _ t _ λb s2 t2 e2=>by
   cases b with
   |true=>exact h1 s2 t2 _ λy s3 t3 e3=>h _ _ _ (Am e1 (Am e2 (mp e3)))
   |false=>exact h _ _ _ (Am e1 (Am e2 rfl))) l s1 _ _ λq s3 t3 e3=>Bx λw e4 t4=>h _ _ _ (Am e1 (Am e2 (Am e3 (mp e4)))))
  λt3 q s3 e3=>Bx λw e4 t4=>h _ _ _ (Am e1 (Am e2 (Am e3 (mp e4))))
theorem XK {i:Nat}{e:E}(he:Sn (ev T D e) (AI T D e)):Sn (ev T D (.pkSub i e)) (AI T D (.pkSub i e)):=λs t K h=>
 C0 λeu=>he s t _ λx s1 t1 e1=>SG λl el=>K_ λj ej=>Bx λw e3 t3=>h _ _ _ (by
  subst ej
  show(match C2 s.r i with|false=>none|true=>(ev T D e s).bind λx=>match nth x.2.r i,x.1 with|some (.ul l),.int j=>((place j l.length).bind (nth l)).map (·,x.2)|_,_=>none)=_
  rw[eu];refine Am e1 ?_;dsimp only;rw[el];exact mp e3)
theorem cQ {neg:Bool}{i:Nat}{e:E}(he:Sn (ev T D e) (AI T D e)):Sn (ev T D (.pkIn neg e i)) (AI T D (.pkIn neg e i)):=λs t K h=>
 he s t _ λx s1 t1 e1=>Wy λl el=>C0 λek=>Dj λb eb=>h _ _ _ (Am e1 (by dsimp only;rw[el];dsimp only;rw[ek];exact mp eb))
mutual
theorem sK:∀e:E,Sn (ev T D e) (AI T D e)
 |.cst v=>λs t K h=>h _ _ _ rfl
 |.var i=>λs t K h=>Dj λv e=>h _ _ _ (mp e)
 |.fz i=>λs t K h=>Rx λv s' e=>HJ (h _ _ _ e)
 |.glb k=>λs t K h=>Dj λv e=>h _ _ _ (mp e)
 |.bin o a b=>λs t K h=>sK a s t _ λx s1 t1 e1=>sK b s1 t1 _ λy s2 t2 e2=>Bx λw e3 t3=>h _ _ _ (Am e1 (Am e2 (mp e3)))
 |.neg a=>λs t K h=>sK a s t _ λx s1 t1 e1=>K_ λi ei=>h _ _ _ (Am e1 (ei▸rfl))
 |.cmp o a b=>λs t K h=>sK a s t _ λx s1 t1 e1=>sK b s1 t1 _ λy s2 t2 e2=>Bx λw e3 t3=>h _ _ _ (Am e1 (Am e2 (mp e3)))
 |.cmp2 o p a b c=>bz (sK a) (sK b) (sK c)
 |.ite e a b=>fe (sT e) (sK a) (sK b)
 |.tup l=>λs t K h=>Kj l s t _ λx s1 t1 e1=>JP λe2 t2=>h _ _ _ (Am e1 (by dsimp only;rw[e2]))
 |.lst l=>λs t K h=>Kj l s t _ λx s1 t1 e1=>Bx λw e2 t2=>h _ _ _ (Am e1 (mp e2))
 |.lstH l=>λs t K h=>Kj l s t _ λx s1 t1 e1=>C0 λe2=>h _ _ _ (Am e1 (by dsimp only;rw[e2]))
 |.dsp l=>λs t K h=>VW l s t _ λx s1 t1 e1=>C0 λe2=>Dj λd e3=>h _ _ _ (Am e1 (by dsimp only;rw[e2];exact mp e3))
 |.sub a i=>eE (sK a) (sK i)
 |.slc a lo hi st=>λs t K h=>sK a s t _ λx s1 t1 e1=>bk lo s1 t1 _ λy s2 t2 e2=>bk hi s2 t2 _ λz s3 t3 e3=>bk st s3 t3 _ λu s4 t4 e4=>Bx λw e5 t5=>h _ _ _ (Am e1 (Am e2 (Am e3 (Am e4 (mp e5)))))
 |.att a f=>ew (sK a)
 |.call f as=>λs t K h=>Kj as s t _ λx s1 t1 e1=>OD λw h' e3 t3=>h _ _ _ (Am e1 (mp e3))
 |.new c as=>dh (Kj as)
 |.mth a m as=>λs t K h=>sK a s t _ λx s1 t1 e1=>Bx λf e2 t2=>Kj as s1 t2 _ λvs s3 t3 e3=>OD λw h' e4 t4=>h _ _ _ (Am e1 (Am e2 (Am e3 (mp e4))))
 |.bi b as=>λs t K h=>Kj as s t _ λx s1 t1 e1=>Bx λw e3 t3=>h _ _ _ (Am e1 (mp e3))
 |.fromB a=>λs t K h=>sK a s t _ λx s1 t1 e1=>az λl el=>JP λeb t3=>h _ _ _ (Am e1 (by dsimp only;rw[el];dsimp only;rw[eb]))
 |.comp elt tg it cond=>ZD (sK elt) (sK it) (gc cond)
 |.flat a=>λs t K h=>sK a s t _ λx s1 t1 e1=>Bx λl e2 t2=>Bx λq e3 t3=>Bx λw e4 t4=>h _ _ _ (Am e1 (Am e2 (Am e3 (mp e4))))
 |.and l=>λs t K h=>Er (λt=>ik l s t K h) λt v s' e=>h _ _ _ e
 |.pkLen i=>λs t K h=>Rx λv s' e=>h _ _ _ e
 |.pkSub i e=>XK (sK e)
 |.pkNe i=>λs t K h=>Rx λv s' e=>h _ _ _ e
 |.pkIn neg e i=>cQ (sK e)
 |.pkAtt i f=>λs t K h=>Rx λv s' e=>h _ _ _ e
 |.not _=>λ_ _ _ _=>trivial
 |.or _=>λ_ _ _ _=>trivial
 |.tst _=>λ_ _ _ _=>trivial
 |.join _ _=>λ_ _ _ _=>trivial
 |.bad=>λ_ _ _ _=>trivial
termination_by structural x=>x
theorem Kj:∀e:List E,Sn (CU T D e) (ET T D e)
 |[]=>λs t K h=>h _ _ _ rfl
 |e::r=>λs t K h=>sK e s t _ λx s1 t1 e1=>Kj r s1 t1 _ λy s2 t2 e2=>h _ _ _ (Am e1 (mp e2))
termination_by structural x=>x
theorem VW:∀e:List (E×E),Sn (Hy T D e) (NW T D e)
 |[]=>λs t K h=>h _ _ _ rfl
 |(k,e)::r=>λs t K h=>sK k s t _ λx s1 t1 e1=>sK e s1 t1 _ λy s2 t2 e2=>VW r s2 t2 _ λz s3 t3 e3=>h _ _ _ (Am e1 (Am e2 (mp e3)))
termination_by structural x=>x
theorem bk:∀e:Option E,Sn (US T D e) (Sz T D e)
 |none=>λs t K h=>h _ _ _ rfl
 |some e=>λs t K h=>sK e s t _ λx s1 t1 e1=>K_ λi ei=>h _ _ _ (Am e1 (ei▸rfl))
termination_by structural x=>x
theorem gc:∀e:Option E,Sn (OY T D e) (SX T D e)
 |none=>λs t K h=>h _ _ _ rfl
 |some e=>λs t K h=>sT e s t K h
termination_by structural x=>x
theorem sT:∀e:E,Sn (Cd T D e) (EJ T D e)
 |.and l=>λs t K h=>Er (λt=>gK l s t K h) λt b s' e=>h _ _ _ e
 |.or l=>λs t K h=>gX l s t K h
 |.not a=>λs t K h=>sT a s t _ λb s1 t1 e1=>h _ _ _ (mp e1)
 |.tst e=>λs t K h=>sK e s t _ λx s1 t1 e1=>QA λb eb=>h _ _ _ (Am e1 (eb▸rfl))
 |.cst _=>λ_ _ _ _=>trivial
 |.var _=>λ_ _ _ _=>trivial
 |.fz _=>λ_ _ _ _=>trivial
 |.glb _=>λ_ _ _ _=>trivial
 |.bin _ _ _=>λ_ _ _ _=>trivial
 |.neg _=>λ_ _ _ _=>trivial
 |.cmp _ _ _=>λ_ _ _ _=>trivial
 |.cmp2 _ _ _ _ _=>λ_ _ _ _=>trivial
 |.ite _ _ _=>λ_ _ _ _=>trivial
 |.tup _=>λ_ _ _ _=>trivial
 |.lst _=>λ_ _ _ _=>trivial
 |.lstH _=>λ_ _ _ _=>trivial
 |.dsp _=>λ_ _ _ _=>trivial
 |.sub _ _=>λ_ _ _ _=>trivial
 |.slc _ _ _ _=>λ_ _ _ _=>trivial
 |.att _ _=>λ_ _ _ _=>trivial
 |.call _ _=>λ_ _ _ _=>trivial
 |.new _ _=>λ_ _ _ _=>trivial
 |.mth _ _ _=>λ_ _ _ _=>trivial
 |.bi _ _=>λ_ _ _ _=>trivial
 |.join _ _=>λ_ _ _ _=>trivial
 |.fromB _=>λ_ _ _ _=>trivial
 |.comp _ _ _ _=>λ_ _ _ _=>trivial
 |.flat _=>λ_ _ _ _=>trivial
 |.pkLen _=>λ_ _ _ _=>trivial
 |.pkSub _ _=>λ_ _ _ _=>trivial
 |.pkNe _=>λ_ _ _ _=>trivial
 |.pkIn _ _ _=>λ_ _ _ _=>trivial
 |.pkAtt _ _=>λ_ _ _ _=>trivial
 |.bad=>λ_ _ _ _=>trivial
termination_by structural x=>x
theorem gK:∀e:List E,Sn (FJ T D e) (LS T D e)
 |[]=>λs t K h=>h _ _ _ rfl
 |e::r=>λs t K h=>sT e s t _ λb s1 t1 e1=>match b,e1 with
  |true,e1=>gK r s1 t1 K λc s2 t2 e2=>h _ _ _ (Am e1 e2)
  |false,e1=>h _ _ _ (Am e1 rfl)
termination_by structural x=>x
theorem gX:∀e:List E,Sn (HG T D e) (Ov T D e)
 |[]=>λs t K h=>h _ _ _ rfl
 |e::r=>λs t K h=>sT e s t _ λb s1 t1 e1=>match b,e1 with
  |true,e1=>h _ _ _ (Am e1 rfl)
  |false,e1=>gX r s1 t1 K λc s2 t2 e2=>h _ _ _ (Am e1 e2)
termination_by structural x=>x
theorem ik:∀e:List E,Sn (ev T D (.and e)) (TU T D e)
 |[a,b]=>λs t K h=>sK a s t _ λx s1 t1 e1=>QA λc ec=>by
  subst ec
  cases c with
  |true=>exact sK b s1 t1 K λy s2 t2 e2=>h _ _ _ (Am e1 e2)
  |false=>exact h _ _ _ (Am e1 rfl)
 |[]=>λ_ _ _ _=>trivial
 |[_]=>λ_ _ _ _=>trivial
 |_::_::_::_=>λ_ _ _ _=>trivial
termination_by structural x=>x
end
end
section
variable (T:Tab)(D:Den)
noncomputable def O_:List UK->St->Nat->Kv (List Slot)->Prop
 |[],s,t,K=>K [] s t
 |.val e::r,s,t,K=>AI T D e s t λx s t=>O_ r s t λy s t=>K (.val x::y) s t
 |.ul::r,s,t,K=>O_ r s t λy s t=>K (.ul []::y) s t
 |.ud::r,s,t,K=>O_ r s t λy s t=>K (.ud []::y) s t
noncomputable def EP (i:Nat)(x:Slot)(s:St)(K:Fl->St->Prop):Prop:=tr (Nat.blt i s.r.length) (Po (put s.r i x) λr=>Ha s λh=>K .nxt ⟨r,h⟩)
mutual
noncomputable def GC:S->St->Nat->Kv Fl->Prop
 |.ass i e,s,t,K=>AI T D e s t λx s t=>EP i (.val x) s λf s=>K f s t
 |.assC i e,s,t,K=>AI T D e s t λx s t=>EP i (.val x) s λf s=>K f s t
 |.assU i l,s,t,K=>ET T D l s t λvs s t=>OE t (AO vs.length) λt=>EP i (.ul vs) s λf s=>K f s t
 |.assUC i e,s,t,K=>AI T D e s t λx s t=>Wa x λl=>EP i (.ul l) s λf s=>K f s t
 |.assUD i l,s,t,K=>NW T D l s t λvs s t=>tr (DT vs) (bd (BD vs []) λd=>EP i (.ud d) s λf s=>K f s t)
 |.assUI i e,s,t,K=>EJ T D e s t λb s t=>tr b (EP i (.ud []) s λf s=>K f s t)
 |.unp ts e,s,t,K=>AI T D e s t λx s t=>ask t (DR x) λvs t=>nb (Gn ts vs s.r) λr=>Ha s λh=>K .nxt ⟨r,h⟩ t
 |.swp rv ts us,s,t,K=>O_ T D us s t λsl s t=>match rv with
  |true=>nb (Di ts.reverse sl.reverse s.r) λr=>Ha s λh=>K .nxt ⟨r,h⟩ t
  |false=>nb (Di ts sl s.r) λr=>Ha s λh=>K .nxt ⟨r,h⟩ t
 |.sat i f e,s,t,K=>AI T D e s t λx s t=>ZQ (nth s.r i) λc fs=>tr (T.fok c f&&Nat.blt fs.length 64) (EP i (.uo c (Cm f x fs)) s λf s=>K f s t)
 |.hat a f e,s,t,K=>AI T D e s t λx s t=>AI T D a s t λy s t=>Ve y λn=>ask t (nth s.h n) λc t=>Z1 c λc fs=>tr (T.fok c f&&Nat.blt fs.length 64) (SU t (put s.h n (.ins c (Cm f x fs))) λh t=>Ou s λr=>K .nxt ⟨r,h⟩ t)
 |.hit a ix e,s,t,K=>AI T D e s t λx s t=>AI T D a s t λy s t=>AI T D ix s t λz s t=>Ve y λn=>Fe z λj=>ask t (nth s.h n) λc t=>gA c λl=>bd (place j l.length) λk=>Ou s λr=>Ha s λh=>K .nxt ⟨r,put h n (.lst (put l k x))⟩ t
 |.udt i k e,s,t,K=>AI T D e s t λx s t=>tr (I7 s.r i) (AI T D k s t λz s t=>af (nth s.r i) λl=>tr (isStr z&&C3 l&&Nat.blt l.length 64) (bd (Cj z x l) λd=>EP i (.ud d) s λf s=>K f s t))
 |.app i e,s,t,K=>tr (C2 s.r i) (AI T D e s t λx s t=>W0 (nth s.r i) λl=>OE t (AO (l.length+1)) λt=>SU t (l++[x]) λl t=>EP i (.ul l) s λf s=>K f s t)
 |.ext i e,s,t,K=>tr (C2 s.r i) (AI T D e s t λx s t=>W0 (nth s.r i) λl=>Wa x λm=>tr (AO (l.length+m.length)) (EP i (.ul (l++m)) s λf s=>K f s t))
 |.exp e,s,t,K=>AI T D e s t λx s t=>K .nxt s t
 |.iff e a b,s,t,K=>EJ T D e s t λc s t=>match c with|true=>DW a s t K|false=>DW b s t K
 |.forr tg e b,s,t,K=>AI T D e s t λx s t=>ask t (A4 x) λl t=>G7 t (λt=>Vx (λv s t K=>nb (DD tg v s.r) λr=>Ha s λh=>DW b ⟨r,h⟩ t K) l s t K) λt=>∀{f jC},Ct (B7 T D tg b) l s=some (f,jC)->K f jC t
 |.whl e b,s,t,K=>Vc (EJ T D e) (DW b) 64 s t K
 |.ret e,s,t,K=>AI T D e s t λx s t=>K (.ret x) s t
 |_,_,_,_=>True
termination_by structural x=>x
noncomputable def DW:List S->St->Nat->Kv Fl->Prop
 |[],s,t,K=>K .nxt s t
 |a::r,s,t,K=>GC a s t λf s t=>match f with|.nxt=>DW r s t K|.ret v=>K (.ret v) s t
termination_by structural x=>x
end
end
section
variable {T:Tab}{D:Den}
theorem D4 {i:Nat}{x:Slot}{s:St}{K:Fl->St->Prop}(h:∀f s',BL i x s=some (f,s')->K f s'):EP i x s K:=C0 λe=>HJ (h _ _ (by unfold BL;rw[e]))
theorem sU:∀us,Sn (Ec T D us) (O_ T D us)
 |[],s,t,K,h=>h _ _ _ rfl
 |.val e::r,s,t,K,h=>sK e s t _ λx s1 t1 e1=>sU r s1 t1 _ λy s2 t2 e2=>h _ _ _ (Am e1 (mp e2))
 |.ul::r,s,t,K,h=>sU r s t _ λy s2 t2 e2=>h _ _ _ (mp e2)
 |.ud::r,s,t,K,h=>sU r s t _ λy s2 t2 e2=>h _ _ _ (mp e2)
theorem eX {rv:Bool}{ts:List Nat}{us:List UK}:Sn (ex T D (.swp rv ts us)) (GC T D (.swp rv ts us)):=λs t K h=>
 sU us s t _ λsl s1 t1 e1=>by
  cases rv with
  |true=>exact Jm λr e2=>h _ _ _ (Am e1 (mp e2))
  |false=>exact Jm λr e2=>h _ _ _ (Am e1 (mp e2))
theorem eB {i f:Nat}{e:E}:Sn (ex T D (.sat i f e)) (GC T D (.sat i f e)):=λs t K h=>
 sK e s t _ λx s1 t1 e1=>WD λc fs eu=>C0 λe2=>D4 λg s2 e3=>h _ _ _ (Am e1 (by dsimp only;rw[eu];dsimp only;rw[e2];exact e3))
theorem fQ {a:E}{f:Nat}{e:E}:Sn (ex T D (.hat a f e)) (GC T D (.hat a f e)):=λs t K h=>
 sK e s t _ λx s1 t1 e1=>sK a s1 t1 _ λy s2 t2 e2=>UZ λn en=>Bx λc e3 t3=>cA λcn fs ec=>C0 λe4=>N_ λh' e5 t5=>h _ _ _ (by
  subst en ec
  refine Am e1 (Am e2 ?_)
  dsimp only
  rw[e3];dsimp only;rw[e4,<-e5])
theorem dQ {a ix:E}{e:E}:Sn (ex T D (.hit a ix e)) (GC T D (.hit a ix e)):=λs t K h=>
 sK e s t _ λx s1 t1 e1=>sK a s1 t1 _ λy s2 t2 e2=>sK ix s2 t2 _ λz s3 t3 e3=>UZ λn en=>K_ λj ej=>Bx λc e4 t4=>fG λl ec=>Dj λk e5=>h _ _ _ (by
  subst en ec ej
  refine Am e1 (Am e2 (Am e3 ?_))
  dsimp only
  rw[e4];exact mp e5)
theorem dq {i:Nat}{k e:E}:Sn (ex T D (.udt i k e)) (GC T D (.udt i k e)):=λs t K h=>
 sK e s t _ λx s1 t1 e1=>C0 λe0=>sK k s1 t1 _ λz s2 t2 e2=>Wy λl e3=>C0 λe4=>Dj λd e5=>D4 λg s3 e6=>h _ _ _ (Am e1 (by
  dsimp only;rw[e0];refine Am e2 ?_;dsimp only;rw[e3];dsimp only;rw[e4];exact Am e5 e6))
theorem cY {i:Nat}{e:E}:Sn (ex T D (.app i e)) (GC T D (.app i e)):=λs t K h=>
 C0 λe0=>sK e s t _ λx s1 t1 e1=>SG λl e2=>JP λe3 t3=>N_ λl' e4 t4=>D4 λg s2 e5=>h _ _ _ (by
  show(match C2 s.r i with|false=>none|true=>(ev T D e s).bind λx=>match nth x.2.r i with|some (.ul l)=>(match AO (l.length+1) with|true=>BL i (.ul (l++[x.1])) x.2|false=>none)|_=>none)=_
  rw[e0];refine Am e1 ?_;dsimp only;rw[e2];dsimp only;rw[e3,e4];exact e5)
theorem fJ {i:Nat}{e:E}:Sn (ex T D (.ext i e)) (GC T D (.ext i e)):=λs t K h=>
 C0 λe0=>sK e s t _ λx s1 t1 e1=>SG λl e2=>UO λm e3=>C0 λe4=>D4 λg s2 e5=>h _ _ _ (by
  subst e3
  show(match C2 s.r i with|false=>none|true=>(ev T D e s).bind λx=>match nth x.2.r i,x.1 with|some (.ul l),.lst l'=>(match AO (l.length+l'.length) with|true=>BL i (.ul (l++l')) x.2|false=>none)|_,_=>none)=_
  rw[e0];refine Am e1 ?_;dsimp only;rw[e2];dsimp only;rw[e4];exact e5)
theorem XN {i:Nat}{e:E}:Sn (ex T D (.assUC i e)) (GC T D (.assUC i e)):=λs t K h=>
 sK e s t _ λx s1 t1 e1=>UO λl el=>D4 λf s2 e2=>h _ _ _ (Am e1 (by subst el;exact e2))
theorem fN {e:E}{a b:List S}(ha:Sn (Bd T D a) (DW T D a))(hb:Sn (Bd T D b) (DW T D b)):Sn (ex T D (.iff e a b)) (GC T D (.iff e a b)):=λs t K h=>
 sT e s t _ λc s1 t1 e1=>by
  cases c with
  |true=>exact ha s1 t1 K λv s2 t2 e2=>h _ _ _ (Am e1 e2)
  |false=>exact hb s1 t1 K λv s2 t2 e2=>h _ _ _ (Am e1 e2)
theorem bX {tg:Tgt}{e:E}{b:List S}(hb:Sn (Bd T D b) (DW T D b)):Sn (ex T D (.forr tg e b)) (GC T D (.forr tg e b)):=λs t K h=>
 sK e s t _ λx s1 t1 e1=>Bx λl e2 t2=>Er (λt3=>Tz (F:=B7 T D tg b) (λv s t K h=>Jm λr e1=>hb _ t K λf s2 t2 e2=>h _ _ _ (Am e1 e2)) l s1 _ K λq s3 t3 e3=>h _ _ _ (Am e1 (Am e2 e3)))
  λt3 f s3 e3=>h _ _ _ (Am e1 (Am e2 e3))
mutual
theorem sS:∀e:S,Sn (ex T D e) (GC T D e)
 |.ass i e=>λs t K h=>sK e s t _ λx s1 t1 e1=>D4 λf s2 e2=>h _ _ _ (Am e1 e2)
 |.assC i e=>λs t K h=>sK e s t _ λx s1 t1 e1=>D4 λf s2 e2=>h _ _ _ (Am e1 e2)
 |.assU i l=>λs t K h=>Kj l s t _ λx s1 t1 e1=>JP λe0 t2=>D4 λf s2 e2=>h _ _ _ (Am e1 (by dsimp only;rw[e0];exact e2))
 |.assUC i e=>XN
 |.assUD i l=>λs t K h=>VW l s t _ λx s1 t1 e1=>C0 λe0=>Dj λd e3=>D4 λf s2 e2=>h _ _ _ (Am e1 (by dsimp only;rw[e0];exact Am e3 e2))
 |.assUI i e=>λs t K h=>sT e s t _ λb s1 t1 e1=>C0 λe0=>D4 λf s2 e2=>h _ _ _ (Am e1 (by subst e0;exact e2))
 |.unp ts e=>λs t K h=>sK e s t _ λx s1 t1 e1=>Bx λvs e2 t2=>Jm λr e3=>h _ _ _ (Am e1 (Am e2 (mp e3)))
 |.swp rv ts us=>eX
 |.sat i f e=>eB
 |.hat a f e=>fQ
 |.hit a ix e=>dQ
 |.udt i k e=>dq
 |.app i e=>cY
 |.ext i e=>fJ
 |.exp e=>λs t K h=>sK e s t _ λx s1 t1 e1=>h _ _ _ (mp e1)
 |.iff e a b=>fN (JC a) (JC b)
 |.forr tg e b=>bX (JC b)
 |.whl e b=>UH (sT e) (JC b) 64
 |.ret e=>λs t K h=>sK e s t _ λx s1 t1 e1=>h _ _ _ (mp e1)
 |.uit _ _ _=>λ_ _ _ _=>trivial
 |.upd _ _=>λ_ _ _ _=>trivial
 |.rse=>λ_ _ _ _=>trivial
termination_by structural x=>x
theorem JC:∀e:List S,Sn (Bd T D e) (DW T D e)
 |[]=>λs t K h=>h _ _ _ rfl
 |a::r=>λs t K h=>sS a s t _ λf s1 t1 e1=>match f,e1 with
  |.nxt,e1=>JC r s1 t1 K λg s2 t2 e2=>h _ _ _ (Am e1 e2)
  |.ret v,e1=>h _ _ _ (Am e1 rfl)
termination_by structural x=>x
end
end
noncomputable def XT (f:Fn)(as:List V):Option Bf:=(D9 f as).map λvs=>vs.map Slot.val++List.replicate (f.nv - f.np) .un
noncomputable def jB:Fl->V
 |.ret v=>v
 |.nxt=>.none
noncomputable def gh (n i:Nat)(as:List V)(h:Hp)(t:Nat):Prop:=bd (A.fnAt i) λf=>bd (D9 f as) λvs=>Po (vs.map Slot.val++List.replicate (f.nv - f.np) .un) λr=>DW A.tb (A.den n) f.body ⟨r,h⟩ t λfl s _=>match fl with
 |.ret v=>(A.den (n+1)).fn i as h=some (v,s.h)
 |.nxt=>(A.den (n+1)).fn i as h=some (.none,s.h)
theorem fA (n i:Nat)(as:List V)(h:Hp)(t:Nat):gh n i as h t:=Dj λf e0=>Dj λvs e1=>HJ <| JC f.body _ _ _ λfl s' t' e=>by
 have q:(A.den (n+1)).fn i as h=(Bd A.tb (A.den n) f.body ⟨vs.map Slot.val++List.replicate (f.nv - f.np) .un,h⟩).map λp=>match p.1 with
  |.ret v=>(v,p.2.h)
  |.nxt=>(.none,p.2.h):=Am e0 (Am e1 rfl)
 rw[e] at q
 cases fl<;>exact q
noncomputable def gq (n c:Nat)(as:List V)(h:Hp)(t:Nat):Prop:=bd (A.initOf c) λi=>bd (A.fnAt i) λf=>bd (D9 {f with np:=f.np - 1} as) λvs=>Po (.uo c []::vs.map Slot.val++List.replicate (f.nv - f.np) .un) λr=>DW A.tb (A.den n) f.body ⟨r,h⟩ t λfl s _=>match fl with
 |.ret v=>True
 |.nxt=>ZQ (nth s.r 0) λc' fs=>tr (Nat.beq c' c) ((A.den (n+1)).ini c as h=some (fs,s.h))
theorem iA (n c:Nat)(as:List V)(h:Hp)(t:Nat):gq n c as h t:=Dj λi e00=>Dj λf e0=>Dj λvs e1=>HJ <| JC f.body _ _ _ λfl s' t' e=>by
 have q:(A.den (n+1)).ini c as h=(Bd A.tb (A.den n) f.body ⟨.uo c []::vs.map Slot.val++List.replicate (f.nv - f.np) .un,h⟩).bind λp=>match p.1,nth p.2.r 0 with
  |.nxt,some (.uo c' fs)=>match Nat.beq c' c with|true=>some (fs,p.2.h)|false=>Option.none
  |_,_=>Option.none:=Am e00 (Am e0 (Am e1 rfl))
 rw[e] at q
 cases fl with
 |ret v=>trivial
 |nxt=>exact WD λc' fs eu=>C0 λeb=>by rw[q];refine Am rfl ?_;dsimp only;rw[eu];dsimp only;rw[eb]
theorem fE {α β:Type}{o:Option (α×β)}{a b:α}{c:β}(h:o=some (a,c))(e:a=b):o=some (b,c):=e▸h
theorem fC {n i:Nat}{as:List V}{h:Hp}{y:Option (V×Hp)}(t:Nat)(q:gh n i as h t->(A.den (n+1)).fn i as h=y):(A.den (n+1)).fn i as h=y:=q (fA n i as h t)
theorem iC {n c:Nat}{as:List V}{h:Hp}{y:Option (List (Nat×V)×Hp)}(t:Nat)(q:gq n c as h t->(A.den (n+1)).ini c as h=y):(A.den (n+1)).ini c as h=y:=q (iA n c as h t)
section
variable {T:Tab}{D:Den}
noncomputable def xK (T:Tab)(D:Den)(b:List S)(s:St)(t:Nat):Prop:=DW T D b s t λf s' _=>Bd T D b s=some (f,s')
theorem xC {b:List S}{s:St}{y:Option (Fl×St)}(t:Nat)(q:xK T D b s t->Bd T D b s=y):Bd T D b s=y:=q (JC b s t _ λ_ _ _ e=>e)
noncomputable def oK (T:Tab)(D:Den)(tg:Tgt)(b:List S)(v:V)(s:St)(t:Nat):Prop:=nb (DD tg v s.r) λr=>Ha s λh=>DW T D b ⟨r,h⟩ t λf s' _=>B7 T D tg b v s=some (f,s')
theorem oC {tg:Tgt}{b:List S}{v:V}{s:St}{y:Option (Fl×St)}(t:Nat)(q:oK T D tg b v s t->B7 T D tg b v s=y):B7 T D tg b v s=y:=q (Jm λr e1=>JC b _ t _ λ_ _ _ e=>Am e1 e)
noncomputable def cK (T:Tab)(D:Den)(e:E)(tg:Tgt)(cd:Option E)(v:V)(s:St)(t:Nat):Prop:=nb (DD tg v s.r) λr=>Ha s λh=>SX T D cd ⟨r,h⟩ t λb jC t=>match b with
 |true=>AI T D e jC t λy s' _=>Bi T D e tg cd v s=some (some y,s')
 |false=>Bi T D e tg cd v s=some (none,jC)
theorem cC {e:E}{tg:Tgt}{cd:Option E}{v:V}{s:St}{y:Option (Option V×St)}(t:Nat)(q:cK T D e tg cd v s t->Bi T D e tg cd v s=y):Bi T D e tg cd v s=y:=q (Jm λr e1=>gc cd _ t _ λb s1 t1 e2=>by
 cases b with
 |true=>exact sK e s1 t1 _ λw s2 t2 e3=>Am e1 (Am e2 (mp e3))
 |false=>exact Am e1 (Am e2 rfl))
noncomputable def tK (T:Tab)(D:Den)(e:E)(s:St)(t:Nat):Prop:=EJ T D e s t λv s' _=>Cd T D e s=some (v,s')
theorem tC {e:E}{s:St}{y:Option (Bool×St)}(t:Nat)(q:tK T D e s t->Cd T D e s=y):Cd T D e s=y:=q (sT e s t _ λ_ _ _ e=>e)
noncomputable def eK (T:Tab)(D:Den)(e:E)(s:St)(t:Nat):Prop:=AI T D e s t λv s' _=>ev T D e s=some (v,s')
theorem eC {e:E}{s:St}{y:Option (V×St)}(t:Nat)(q:eK T D e s t->ev T D e s=y):ev T D e s=y:=q (sK e s t _ λ_ _ _ e=>e)
end
end Mine.Internal.Q
end
section
namespace Mine.Internal.Q
theorem IY {a b:Int}(h:a<b):Av .lt (.int a) (.int b)=some true:=congrArg some (decide_eq_true h)
theorem Cn {a b:Int}(h:b<=a):Av .lt (.int a) (.int b)=some false:=congrArg some (decide_eq_false (Int.not_lt.mpr h))
theorem Hx {a b:Int}(h:a<=b):Av .le (.int a) (.int b)=some true:=congrArg some (decide_eq_true h)
theorem bA {a b:Int}(h:b<a):Av .le (.int a) (.int b)=some false:=congrArg some (decide_eq_false (Int.not_le.mpr h))
theorem Wi {a b:Int}(h:b<a):Av .gt (.int a) (.int b)=some true:=congrArg some (decide_eq_true h)
theorem Fo {a b:Int}(h:a<=b):Av .gt (.int a) (.int b)=some false:=congrArg some (decide_eq_false (Int.not_lt.mpr h))
theorem Lg {a b:Int}(h:b<=a):Av .ge (.int a) (.int b)=some true:=congrArg some (decide_eq_true h)
theorem DC {a b:Int}(h:a<b):Av .ge (.int a) (.int b)=some false:=congrArg some (decide_eq_false (Int.not_le.mpr h))
theorem iM {a b:Int}(h:a=b):Av .eq (.int a) (.int b)=some true:=congrArg some (decide_eq_true h)
theorem iL {a b:Int}(h:b<a):Av .eq (.int a) (.int b)=some false:=congrArg some (decide_eq_false (Int.ne_of_gt h))
theorem iu {a b:Int}(h:¬a=b):Av .eq (.int a) (.int b)=some false:=congrArg some (decide_eq_false h)
theorem hY {a b:Int}(h:¬a=b):Av .ne (.int a) (.int b)=some true:=congrArg (λx=>some (!x)) (decide_eq_false h)
theorem iR {a b:Int}(h:a=b):Av .ne (.int a) (.int b)=some false:=congrArg (λx=>some (!x)) (decide_eq_true h)
theorem Mn {a b:Int}(h:0<b)(h2:b<9223372036854775808):AY .fdiv (.int a) (.int b)=some (.int (a/b)):=by
 show(match decide (0<b)&&decide (b<Ek) with|true=>some (a/b)|false=>none).map V.int=_;rw[show(decide (0<b)&&decide (b<Ek))=true from Bool.and_eq_true_iff.mpr ⟨decide_eq_true h,decide_eq_true h2⟩];rfl
theorem UC {a b:Int}(h:0<b):AY .mod (.int a) (.int b)=some (.int (a%b)):=by
 show(match decide (0<b) with|true=>some (a%b)|false=>none).map V.int=_;rw[decide_eq_true h];rfl
theorem X6 {a b:Int}(h: -9223372036854775808<a)(h2:a<9223372036854775808):AY .mul (.int a) (.int b)=some (.int (a*b)):=by
 show(match small a with|true=>some (V.int (a*b))|false=>none)=_
 rw[show small a=true from Bool.and_eq_true_iff.mpr ⟨decide_eq_true h,decide_eq_true h2⟩]
theorem BP {a b:Int}(h: -4294967297<a)(h2:a<4294967297):AY .mul (.int a) (.int b)=some (.int (a*b)):=X6 (Int.lt_trans (by decide) h) (Int.lt_trans h2 (by decide))
theorem Ci {n:Nat}(h:n<=16777216):AO n=true:=Nat.ble_eq_true_of_le h
theorem CK {l:List V}(h:AO l.length=true):DJ l=some (.lst l):=by unfold DJ;rw[h]
theorem TR {l:List Nat}(h:l.length<=16777216):Fy l=some (.bytes l):=by unfold Fy;rw[Ci h]
theorem Al {a b:List Nat}(h:(a++b).length<=16777216):AY .add (.bytes a) (.bytes b)=some (.bytes (a++b)):=TR h
theorem OZ {a b:List V}(h:(a++b).length<=16777216):AY .add (.lst a) (.lst b)=some (.lst (a++b)):=by show DJ _=_;unfold DJ;rw[Ci h]
noncomputable def B (x:Int):Nat:=(x%256).toNat
noncomputable def Aq (x:Int):List Nat:=[B (x/256),B x]
noncomputable def Bb (x:Int):List Nat:=[B (x/65536/256),B (x/65536),B (x/256),B x]
theorem Le {x:Int}:(Aq x).length=2:=rfl
theorem Y9 {x:Int}:(Bb x).length=4:=rfl
theorem la {α:Type}{x y:List α}{m n:Nat}(h:x.length<=m)(g:y.length<=n):(x++y).length<=m+n:=by rw[List.length_append];exact Nat.add_le_add h g
theorem lb {α:Type}{l:List α}{m k:Nat}(h:l.length<=m)(e:Nat.ble m k=true:=by kernel_rfl):l.length<=k:=Nat.le_trans h (Nat.le_of_ble_eq_true e)
theorem lt {α:Type}{l:List α}{k m:Nat}(h:l.length<=m):(l.take k).length<=m:=Nat.le_trans (List.length_take_le' k l) h
theorem lq {α:Type}{l:List α}{k m:Nat}(h:l.length<=m):(l.drop k).length<=m:=Nat.le_trans (by rw[List.length_drop];exact Nat.sub_le _ _) h
theorem lr {α:Type}{l:List α}:l.length<=l.length:=Nat.le_refl _
theorem fa {α:Type}{p:α->Prop}{a:α}{l:List α}(h:p a)(g:∀x∈l,p x):∀x∈a::l,p x:=List.forall_mem_cons.mpr ⟨h,g⟩
theorem fo {α:Type}{p:α->Prop}:∀x∈([]:List α),p x:=λ_ h=>nomatch h
section
variable {s jC jG:St}
theorem Mh {f:V->St->Option (Option V×St)}{x y:V}{l q:List V}(e1:f x s=some (some y,jC))(e2:BW f l jC=some (q,jG)):BW f (x::l) s=some (y::q,jG):=by
 show(f x s).bind _=_;rw[e1];show(BW f l jC).bind _=_;rw[e2];rfl
theorem Sa {f:V->St->Option (Fl×St)}:Ct f [] s=some (.nxt,s):=rfl
theorem BN {f:V->St->Option (Fl×St)}{v:V}{l:List V}{x:Fl×St}(e1:f v s=some (.nxt,jC))(e2:Ct f l jC=some x):Ct f (v::l) s=some x:=by
 show(f v s).bind _=_;rw[e1];exact e2
theorem WE {T:Tab}{D:Den}{a:S}{l:List S}{x:Fl×St}(e1:Bd T D [a] s=some (.nxt,jC))(e2:Bd T D l jC=some x):Bd T D (a::l) s=some x:=by
 show(ex T D a s).bind _=_
 have e1:(ex T D a s).bind _=_:=e1
 cases h:ex T D a s with
 |none=>rw[h] at e1;exact(ns e1).elim
 |some p=>
  rw[h] at e1
  obtain⟨f,s2⟩:=p
  cases f with
  |ret v=>exact nomatch e1
  |nxt=>
   have e1:some (Fl.nxt,s2)=some (Fl.nxt,jC):=e1
   rw[(p2 e1).2];exact e2
variable {h h':Hp}
theorem W_ {n i:Nat}{f:Fn}{as:List V}{v w:V}{r0:Bf}(e0:A.fnAt i=some f)(e1:XT f as=some r0)(e2:Bd A.tb (A.den n) f.body ⟨r0,h⟩=some (.ret v,jC))(e3:jC.h=h')(e4:v=w):
  (A.den (n+1)).fn i as h=some (w,h'):=by
 show(A.fnAt i).bind _=_;rw[e0]
 obtain⟨vs,e5,rfl⟩:=Option.map_eq_some_iff.1 (show(D9 f as).map _=_ from e1)
 show(D9 f as).bind _=_;rw[e5];show(Bd A.tb (A.den n) f.body _).map _=_;rw[e2,<-e3,<-e4];rfl
end
end Mine.Internal.Q
end
section
set_option maxRecDepth 100000
namespace Mine.Internal.Q
theorem To (x:Int):B x<256:=by skip;exact((E0 0x14882013148820061000187) (Int.toNat_of_nonneg ((Aj 0x100020100025) (m0 255))) (mo 255))
theorem LN {a b:Int}(h1:0<=a)(h2:a<256)(h3:0<=b)(h4:b<256):Be .bytes [.lst [.int a,.int b]]=some (.bytes [a.toNat,b.toNat]):=by
 show(FV _).bind Fy=_
 have:FV [.int a,.int b]=some [a.toNat,b.toNat]:=by simp[FV,h1,h2,h3,h4]
 rw[this];rfl
theorem JF {i:Int}(h1:0<=i)(h2:i<64):Be .bytes [.int i]=some (.bytes (List.replicate i.toNat 0)):=by
 show(match decide (0<=i)&&decide (i<64) with|true=>Fy (List.replicate i.toNat 0)|false=>none)=_
 rw[show(decide (0<=i)&&decide (i<64))=true from Bool.and_eq_true_iff.mpr ⟨decide_eq_true h1,decide_eq_true h2⟩]
 exact TR (by rw[List.length_replicate];exact((E0 0x11888888882012100018711882006) h2 (Int.toNat_of_nonneg h1)))
theorem IJ {i:Int}{n:Nat}(h:0<=i):Dy i n=min i.toNat n:=by
 show(match decide (0<=i) with|true=>(match Nat.blt i.toNat n with|true=>i.toNat|false=>n)|false=>_)=_
 rw[decide_eq_true h]
 show(match Nat.blt i.toNat n with|true=>i.toNat|false=>n)=_
 cases q:Nat.blt i.toNat n with
 |true=>exact(Nat.min_eq_left (Nat.le_of_lt (Nat.blt_eq.mp q))).symm
 |false=>exact(Nat.min_eq_right (Nat.le_of_not_lt λz=>ft (q.symm.trans (Nat.blt_eq.mpr z)))).symm
theorem HT {i:Int}{n:Nat}(h:0<=i)(h2:i<=n):Dy i n=i.toNat:=(IJ h).trans (Nat.min_eq_left (Int.toNat_le.mpr h2))
theorem DV {i:Int}(h: -9223372036854775808<i)(h2:i<9223372036854775808):small i=true:=Bool.and_eq_true_iff.mpr ⟨decide_eq_true h,decide_eq_true h2⟩
theorem cD {α:Type}{l:List α}{i j:Int}(h:0<=i)(h2:i<=l.length)(h3:0<=j)(h4:j<=l.length):cut l (some i) (some j)=(l.drop i.toNat).take (j.toNat - i.toNat):=by
 unfold cut;dsimp only;rw[HT h h2,HT h3 h4]
theorem g9 {l:List Nat}{i j:Int}(h:0<=i)(h2:i<=l.length)(h3:0<=j)(h4:j<=l.length)(h5:l.length<=16777216):FT (.bytes l) (some i) (some j) none=some (.bytes ((l.drop i.toNat).take (j.toNat - i.toNat))):=by
 show(match small i&&small j with|true=>some (V.bytes (cut l (some i) (some j)))|false=>none)=_
 rw[DV (by exact((Aj 0x1001888888888888888888888271100025) h)) (by exact((E0 0x118888888888888888888882001118888888820191018005) h2 h5)),DV (by exact((Aj 0x1001888888888888888888888271100025) h3)) (by exact((E0 0x118888888888888888888882001118888888820191018005) h4 h5)),cD h h2 h3 h4];rfl
theorem Up {l:List Nat}{i:Int}{b:Nat}{h':Hp}(h:0<=i)(e:nth l i.toNat=some b):BF (.bytes l) (.int i) h'=some (.int b):=by
 show(match decide (0<=i) with|true=>(nth l i.toNat).map λ(b:Nat)=>V.int (b:Int)|false=>none)=_
 rw[decide_eq_true h];exact mp e
theorem AV {n:Nat}{x:Int}{h:Hp}:(A.den (n+1)).fn 11 [.int x] h=some (.bytes (Aq x),h):=by
 exact fC 16 λK=>K (LN ((Aj 0x100020100025) (m0 255)) ((Aj 0x1488200114882006) (mo 255)) ((Aj 0x100020100025) (m0 255)) ((Aj 0x1488200114882006) (mo 255)))
theorem B5 {n:Nat}{x:Int}{h:Hp}(h1: -32768<=x)(h2:x<=32767):(A.den (n+2)).fn 12 [.int x] h=some (.bytes (Aq x),h):=by
 exact fC 7 λK=>K (Cn h1) (Fo h2) AV
theorem Cq {n:Nat}{x:Int}{h:Hp}(h1:0<=x)(h2:x<=65535):(A.den (n+2)).fn 13 [.int x] h=some (.bytes (Aq x),h):=by
 exact fC 7 λK=>K (Cn h1) (Fo h2) AV
theorem Au {n:Nat}{x:Int}{h:Hp}:(A.den (n+2)).fn 14 [.int x] h=some (.bytes (Bb x),h):=by
 exact fC 14 λK=>K AV AV (Al (lb (la lr lr)))
noncomputable def Ag (l:List Nat):List Nat:=l++List.replicate ((4 - (l.length:Int)%4)%4).toNat 0
theorem Bv (l:List Nat):(Ag l).length<=l.length+3:=by
 unfold Ag;rw[List.length_append,List.length_replicate];exact Nat.add_le_add_left (Int.toNat_le.mpr (by exact((Aj 0x1328000142006) (mo 3)))) _
theorem Ba {n:Nat}{l:List Nat}{h:Hp}(hl:l.length<=16000000):(A.den (n+1)).fn 16 [.bytes l] h=some (.bytes (Ag l),h):=by
 exact fC 48 λK=>K (JF ((Aj 0x100020100025) (m0 3)) ((Aj 0x11882001142006) (mo 3))) (Al ((gC 0x11888888882112142006100318713121b12101311b17d8aa8882019) hl List.length_append List.length_replicate (Int.toNat_of_nonneg ((Aj 0x100020100025) (m0 3))) (mo 3)))
theorem KW {n:Nat}{l:List Nat}{i:Int}{h:Hp}{a b:Nat}(h0:0<=i)(h1:i+2<=l.length)(ha:nth l i.toNat=some a)(hb:nth l (i+1).toNat=some b)(hc:a<65536):
  (A.den (n+1)).fn 8 [.bytes l,.int i] h=some (.int (a*256+b),h):=by
 exact fC 185 λK=>K (Cn h0) (Fo h1) (Up h0 ha) (BP (Ao 0x101848888888889271102014) ((Ao 0x148888888889201811288888201a) hc)) (Up ((Aj 0x112003020100025) h0) hb)
theorem XM (l:List Nat){i:Int}(h:0<=i):(cut l (some i) (some (i+4))).length<=8:=by
 show((l.drop (Dy i l.length)).take (Dy (i+4) l.length - Dy i l.length)).length<=8
 rw[IJ h,IJ (Int.add_nonneg h (by decide)),Int.toNat_add h (by decide)]
 exact Nat.le_trans (List.length_take_le _ _) (Nat.le_trans (Nat.sub_le_of_le_add (go _ _)) (by decide))
where go:∀a n:Nat,min (a+(4:Int).toNat) n<=4+min a n:=λa n=>(Nat.le_total a n).elim (λq=>by rw[Nat.min_eq_left q,Nat.add_comm];exact Nat.min_le_left _ _) λq=>by rw[Nat.min_eq_right q];exact Nat.le_trans (Nat.min_le_right _ _) (Nat.le_add_left _ _)
theorem iQ {l:List Nat}{i k:Int}(h:0<=i)(h3:0<=k)(h4:i+k<=l.length)(h5:l.length<=16777216):FT (.bytes l) (some i) (some (i+k)) none=some (.bytes ((l.drop i.toNat).take k.toNat)):=by
 rw[g9 h (by exact((Z4 0x10181001018001035100025) h3 h4)) (by exact((Fx 0x110003020110025100025) h h3)) h4 h5,Int.toNat_add h h3,Nat.add_sub_cancel_left]
theorem U9 {n:Nat}{l:List Nat}{i k:Int}{h:Hp}(h0:0<=i)(h1:0<=k)(h2:i+k<=l.length)(hl:l.length<=16777216):
  (A.den (n+1)).fn 15 [.bytes l,.int i,.int k] h=some (.bytes ((l.drop i.toNat).take k.toNat),h):=by
 exact fC 83 λK=>K (Cn h0) (Cn h1) (Fo h2) (iQ h0 h1 h2 hl)
theorem eh {n:Nat}{l:List Nat}{i:Int}{h:Hp}{a b:Nat}(h0:0<=i)(h1:i+2<=l.length)(ha:nth l i.toNat=some a)(hb:nth l (i+1).toNat=some b)(hc:a<65536):
  (A.den (n+2)).fn 9 [.bytes l,.int i] h=some (.int (if(32768:Int)<=a*256+b then a*256+b - 65536 else a*256+b),h):=by
 by_cases q:(32768:Int)<=a*256+b
 ·rw[if_pos q]
  exact fC 5 λK=>K (KW h0 h1 ha hb hc) (Lg q)
 ·rw[if_neg q]
  exact fC 5 λK=>K (KW h0 h1 ha hb hc) (DC ((AR 0x1188888211848801863111888882118488018636) (Int.not_le.mp q)))
theorem dm {n:Nat}{l:List Nat}{i:Int}{h:Hp}{a b c d:Nat}(h0:0<=i)(h1:i+4<=l.length)(ha:nth l i.toNat=some a)(hb:nth l (i+1).toNat=some b)(hc:nth l (i+2).toNat=some c)(hd:nth l (i+2+1).toNat=some d)(h2:a<256)(h3:b<256)(h4:c<256):
  (A.den (n+2)).fn 10 [.bytes l,.int i] h=some (.int ((a*256+b)*65536+(c*256+d)),h):=by
 exact fC 11 λK=>K (KW h0 ((E0 0x10182200301018420035) h1) ha hb ((Ao 0x128888820131488201a) h2)) (BP (AR 0x1118488018634888888888927110211448802014) ((AR 0x14888888888921184880186311488211a488488201a) h2 h3)) (KW ((Aj 0x122003020100025) h0) ((E0 0x10182222003301018420035) h1) hc hd ((Ao 0x128888820131488201a) h4))
theorem N4 {f:V->St->Option (Fl×St)}{h:Hp}(I:Bf->Prop):∀{l:List V},(∀x∈l,∀r,I r->∃r',f x ⟨r,h⟩=some (.nxt,⟨r',h⟩)/\I r')->∀r,I r->∃r',Ct f l ⟨r,h⟩=some (.nxt,⟨r',h⟩)/\I r'
 |[],_,r,hr=>⟨r,rfl,hr⟩
 |x::l,hf,r,hr=>by
  obtain⟨r1,e1,h1⟩:=hf x List.mem_cons_self r hr
  refine Ac (N4 I (l:=l) (λy hy=>hf y (List.mem_cons_of_mem _ hy)) r1 h1) λr2 e2 h2=>?_
  exact⟨r2,BN e1 e2,h2⟩
end Mine.Internal.Q
end
section
set_option maxRecDepth 10000
namespace Mine.Internal.Q
theorem aI {i:Int}(a: -4294967297<i)(b:i<4294967297):LW i=true:=Bool.and_eq_true_iff.mpr ⟨decide_eq_true (Int.lt_trans (by decide) a),decide_eq_true (Int.lt_trans b (by decide))⟩
theorem TL {a b c:Int}(h1: -4294967297<a)(h2:a<4294967297)(h3: -4294967297<b)(h4:b<4294967297)(h5:0<c)(h6:c<4294967297):Be .range [.int a,.int b,.int c]=some (.rng a b c):=by
 show(match Eg a b c with|true=>some (V.rng a b c)|false=>none)=_
 rw[show Eg a b c=true from by unfold Eg;rw[aI h1 h2,aI h3 h4,aI (by exact((Aj 0x10048888888889271100026) h5)) h6,decide_eq_true h5];rfl]
theorem Ox {b:Int}(h3: -4294967297<b)(h4:b<4294967297):Be .range [.int b]=some (.rng 0 b 1):=TL (by decide) (by decide) h3 h4 (by decide) (by decide)
theorem Vb {a b c:Int}(hc:0<c)(h:b - a<=16777216):CC a b c<=16777216:=by
 unfold CC
 split
 ·have h1:(b - a - 1)/c<=b - a - 1:=by
   rename_i q
   have q:=of_decide_eq_true q
   exact Int.ediv_le_self _ (by exact((Fx 0x112001044020110006) q))
  omega
 ·exact Nat.zero_le _
theorem eO {a b c:Int}(hc:0<c)(h:b - a<=16777216):A4 (.rng a b c)=some (CT a b c):=by
 show(match AO (CC a b c) with|true=>some (CT a b c)|false=>none)=_
 rw[Ci (Vb hc h)]
theorem Zh {l:List Nat}{i j:Int}(h1: -4294967297<i)(h2:i<4294967297)(h3: -4294967297<j)(h4:j<4294967297):FT (.bytes l) (some i) (some j) none=some (.bytes (cut l (some i) (some j))):=by
 show(match small i&&small j with|true=>some (V.bytes (cut l (some i) (some j)))|false=>none)=_
 rw[DV (Int.lt_trans (by decide) h1) (Int.lt_trans h2 (by decide)),DV (Int.lt_trans (by decide) h3) (Int.lt_trans h4 (by decide))];rfl
theorem Rd {st:Int}:∀{n:Nat}{lo:Int}{x:V},x∈CF lo st n->∃k:Nat,k<n/\x=.int (lo+k*st)
 |0,_,_,h=>by cases h
 |n+1,lo,x,h=>by
  rcases List.mem_cons.1 h with e|h
  ·exact⟨0,Nat.succ_pos _,by rw[e];simp⟩
  ·obtain⟨k,hk,e⟩:=Rd h
   refine⟨k+1,by exact((AR 0x11211312013311101a) hk),?_⟩
   rw[e];congr 1;rw[Int.natCast_succ,Int.add_mul];exact(Int.le_antisymm (FI 0x11015203003201000330) (FI 0x11020003320151030030))
theorem XU {a b c:Int}(hc:0<c){x:V}(h:x∈CT a b c):∃i,x=.int i/\a<=i/\i<b:=by
 refine Ac (Rd h) λk hk e=>?_
 refine⟨_,e,?_,?_⟩
 ·have:0<=(k:Int)*c:=Int.mul_nonneg (by exact(Ao 0x1018020102014)) (by exact((Aj 0x100020100026) hc))
  exact((Fx 0x100103100100025) this)
 ·unfold CC at hk
  split at hk
  ·have h1:(k:Int)<=(b - a - 1)/c:=by omega
   have h2:(k:Int)*c<=(b - a - 1)/c*c:=Int.mul_le_mul_of_nonneg_right h1 (by exact((Aj 0x100020100026) hc))
   have h3:(b - a - 1)/c*c<=b - a - 1:=Int.ediv_mul_le _ (by exact(Int.ne_of_gt ((Aj 0x100021100026) hc)))
   exact((Ht 0x120003031112302044105110005) h2 h3)
  ·exact((jv 0x02010003110201410201a) hk)
theorem I0 {n:Nat}{l:List Nat}{h:Hp}(hl:l.length<=16000000):∃t,(A.den (n+2)).fn 17 [.bytes l] h=some (.int (t%4294967296),h):=by
 have hp:=Bv l
 obtain⟨r',e,t,k,rfl⟩:=N4 (f:=B7 A.tb (A.den (n+1)) (.one 3) [.ass 1 (.bin .add (.var 1) (.fromB (.slc (.var 2) (some (.var 3)) (some (.bin .add (.var 3) (.cst (.int 4)))) none)))]) (h:=h)
  (λr=>∃t k,r=[.val (.bytes l),.val (.int t),.val (.bytes (Ag l)),k]) (l:=CT 0 (Ag l).length 4) (λx hx r ⟨t,k,hr⟩=>by
   obtain⟨i,rfl,hi1,hi2⟩:=XU (by decide) hx
   subst hr
   have:=XM (Ag l) hi1
   refine⟨[.val (.bytes l),.val (.int (t+DQ (cut (Ag l) (some i) (some (i+4))))),.val (.bytes (Ag l)),.val (.int i)],?_,_,_,rfl⟩
   have hb:Nat.ble (cut (Ag l) (some i) (some (i+4))).length 8=true:=Nat.ble_eq_true_of_le this
   exact oC 6 λK=>K (Zh ((Aj 0x10048888888889271100025) hi1) ((E9 0x1488888888892001111800613201311917d8aa8882019) hl hp hi2) ((Aj 0x14200348888888889271100025) hi1) ((E9 0x1488888888892420031111800613201311917d8aa8882019) hl hp hi2)) hb) [.val (.bytes l),.val (.int 0),.val (.bytes (Ag l)),.un] ⟨_,_,rfl⟩
 refine⟨t,?_⟩
 exact fC 29 λK=>K (Ba hl) (TL (by decide) (by decide) (Ao 0x101848888888889271102014) ((AR 0x1488888888892118113201311917d8aa8882019) hl hp) (by decide) (by decide)) (eO (by decide) ((AR 0x11888888882021184013201311917d8aa8882019) hl hp)) e
end Mine.Internal.Q
end
section
set_option maxRecDepth 10000
namespace Mine.Internal.Q
theorem Xu {l:List Nat}{j:Int}(h3:0<=j)(h4:j<=l.length)(h5:l.length<=16777216):FT (.bytes l) none (some j) none=some (.bytes (l.take j.toNat)):=by
 show(match Fv none&&small j with|true=>some (V.bytes (cut l none (some j)))|false=>none)=_
 rw[DV (by exact((Aj 0x1001888888888888888888888271100025) h3)) (by exact((E0 0x118888888888888888888882001118888888820191018005) h4 h5))]
 show some (V.bytes ((l.drop 0).take (Dy j l.length - 0)))=_
 rw[HT h3 h4];rfl
theorem Xw {l:List Nat}{j:Int}(h3:0<=j)(h4:j<=l.length)(h5:l.length<=16777216):FT (.bytes l) (some j) none none=some (.bytes (l.drop j.toNat)):=by
 show(match small j&&Fv none with|true=>some (V.bytes (cut l (some j) none))|false=>none)=_
 rw[DV (by exact((Aj 0x1001888888888888888888888271100025) h3)) (by exact((E0 0x118888888888888888888882001118888888820191018005) h4 h5))]
 show some (V.bytes ((l.drop (Dy j l.length)).take (l.length - Dy j l.length)))=_
 rw[HT h3 h4,<-List.length_drop,List.take_length]
noncomputable def Uj (l:List Nat):List Nat:=l.take 8++List.replicate 4 0++l.drop 12
theorem Yx {l:List Nat}(h:12<=l.length):(Uj l).length=l.length:=by skip;exact(Nat.le_antisymm ((Ky 0x141012118231b1411c2213b14231311b12111301b) List.length_append List.length_append (ld h) (gb ((Ao 0x10118221011c29) h))) ((Ky 0x101412118231c1411c2213c14231311c12111301c) List.length_append List.length_append (ld h) (gb ((Ao 0x10118221011c29) h))))
theorem Hr {n:Nat}{l:List Nat}{h:Hp}(h1:12<=l.length)(h2:l.length<=1000000):(A.den (n+1)).fn 27 [.bytes l] h=some (.bytes (Uj l),h):=by
 exact fC 55 λK=>K (Xu (by decide) ((Ao 0x101818201011c29) h1) ((Ao 0x1188888888201213ec99882019) h2)) (JF (by decide) (by decide)) (Al (lb (la (lt h2) lr))) (Xw (by decide) ((Ao 0x101842182301011c29) h1) ((Ao 0x1188888888201213ec99882019) h2)) (Al (lb (la (la (lt h2) lr) (lq h2))))
theorem dX {a b:List Nat}(h:a=b):Av .eq (.str a) (.str b)=some true:=congrArg some (decide_eq_true h)
theorem di {a b:List Nat}(h:¬a=b):Av .eq (.str a) (.str b)=some false:=congrArg some (decide_eq_false h)
theorem FX {n:Nat}{t l:List Nat}{h:Hp}(h1:t=[104,101,97,100]->12<=l.length)(h2:l.length<=1000000):∃z,(A.den (n+3)).fn 28 [.str t,.bytes l] h=some (.int (z%4294967296),h):=by
 by_cases q:t=[104,101,97,100]
 ·have hl:=h1 q
  obtain⟨z,e⟩:=I0 (n:=n) (l:=Uj l) (h:=h) (by rw[Yx hl];exact((Ao 0x17d8aa888201213ec99882019) h2))
  refine⟨z,?_⟩
  have:=dX q
  exact fC 14 λK=>K this (Hr hl h2) e
 ·refine AA (I0 (n:=n) (l:=l) (h:=h) (by exact((Ao 0x17d8aa888201213ec99882019) h2))) λz e=>?_
  refine⟨z,?_⟩
  have:=di q
  exact fC 6 λK=>K this e
theorem V1 {n:Nat}{h:Hp}:(A.den (n+1)).fn 29 [.int 7] h=some (.tup [.int 4,.int 2],h):=by kernel_rfl
theorem Jy {n:Nat}{h:Hp}:(A.den (n+1)).fn 19 [.str [99,109,97,112]] h=some (.bytes [99,109,97,112],h):=by kernel_rfl
theorem J1 {n:Nat}{h:Hp}:(A.den (n+1)).fn 19 [.str [103,108,121,102]] h=some (.bytes [103,108,121,102],h):=by kernel_rfl
theorem Kw {n:Nat}{h:Hp}:(A.den (n+1)).fn 19 [.str [104,101,97,100]] h=some (.bytes [104,101,97,100],h):=by kernel_rfl
theorem JD {n:Nat}{h:Hp}:(A.den (n+1)).fn 19 [.str [104,104,101,97]] h=some (.bytes [104,104,101,97],h):=by kernel_rfl
theorem JH {n:Nat}{h:Hp}:(A.den (n+1)).fn 19 [.str [104,109,116,120]] h=some (.bytes [104,109,116,120],h):=by kernel_rfl
theorem Jv {n:Nat}{h:Hp}:(A.den (n+1)).fn 19 [.str [108,111,99,97]] h=some (.bytes [108,111,99,97],h):=by kernel_rfl
theorem Kn {n:Nat}{h:Hp}:(A.den (n+1)).fn 19 [.str [109,97,120,112]] h=some (.bytes [109,97,120,112],h):=by kernel_rfl
noncomputable def D7 (a b c d e f g:List Nat):V:=.dct [(.str [103,108,121,102],.bytes b),(.str [108,111,99,97],.bytes f),(.str [104,109,116,120],.bytes e),(.str [104,101,97,100],.bytes c),(.str [109,97,120,112],.bytes g),(.str [104,104,101,97],.bytes d),(.str [99,109,97,112],.bytes a)]
noncomputable def T7 (a b c d e f g:List Nat):V:=.obj 1 [(2,D7 a b c d e f g)]
section
variable {n:Nat}{a b c d e f g:List Nat}{h:Hp}
theorem FN:(A.den (n+1)).fn 21 [T7 a b c d e f g] h=some (.lst [.str [99,109,97,112],.str [103,108,121,102],.str [104,101,97,100],.str [104,104,101,97],.str [104,109,116,120],.str [108,111,99,97],.str [109,97,120,112]],h):=by kernel_rfl
theorem F6:(A.den (n+1)).fn 23 [T7 a b c d e f g,.str [99,109,97,112]] h=some (.bytes a,h):=by kernel_rfl
theorem Gp:(A.den (n+1)).fn 23 [T7 a b c d e f g,.str [103,108,121,102]] h=some (.bytes b,h):=by kernel_rfl
theorem Ep:(A.den (n+1)).fn 23 [T7 a b c d e f g,.str [104,101,97,100]] h=some (.bytes c,h):=by kernel_rfl
theorem FU:(A.den (n+1)).fn 23 [T7 a b c d e f g,.str [104,104,101,97]] h=some (.bytes d,h):=by kernel_rfl
theorem Gx:(A.den (n+1)).fn 23 [T7 a b c d e f g,.str [104,109,116,120]] h=some (.bytes e,h):=by kernel_rfl
theorem FW:(A.den (n+1)).fn 23 [T7 a b c d e f g,.str [108,111,99,97]] h=some (.bytes f,h):=by kernel_rfl
theorem Gd:(A.den (n+1)).fn 23 [T7 a b c d e f g,.str [109,97,120,112]] h=some (.bytes g,h):=by kernel_rfl
theorem Ww:(A.den (n+1)).fn 22 [T7 a b c d e f g,.str [104,101,97,100]] h=some (.bool true,h):=by kernel_rfl
noncomputable def Pa:List Nat:=Bb 65536++Aq 7++Aq 64++Aq 2++Aq 48
end
end Mine.Internal.Q
end
section
set_option maxRecDepth 10000
namespace Mine.Internal.Q
noncomputable abbrev Pt:=Int×Int
noncomputable def Bm (p:Pt):V:=.tup [.int p.1,.int p.2,.bool true]
noncomputable def AF (c:List Pt):V:=.lst (c.map Bm)
noncomputable def Aw (cs:List (List Pt)):V:=.lst (cs.map AF)
noncomputable def A7 (cs:List (List Pt))(ins:List Nat):V:=.obj 0 [(0,Aw cs),(1,.bytes ins)]
theorem E4 {α:Type}{f:V->St->Option (Option V×St)}{h:Hp}{g out:α->V}(I:Bf->Prop):∀(l:List α),(∀x∈l,∀r,I r->∃r',f (g x) ⟨r,h⟩=some (some (out x),⟨r',h⟩)/\I r')->∀r,I r->∃r',BW f (l.map g) ⟨r,h⟩=some (l.map out,⟨r',h⟩)/\I r'
 |[],_,r,hr=>⟨r,rfl,hr⟩
 |x::l,hf,r,hr=>by
  obtain⟨r1,e1,h1⟩:=hf x List.mem_cons_self r hr
  refine Ac (E4 I l (λy hy=>hf y (List.mem_cons_of_mem _ hy)) r1 h1) λr2 e2 h2=>?_
  exact⟨r2,Mh e1 e2,h2⟩
theorem F4 {α σ:Type}{f:V->St->Option (Option V×St)}{h:Hp}{g out:α->V}{fr:σ->Bf}{nx:σ->α->σ}{P:α->Prop}(st:∀x s,P x->f (g x) ⟨fr s,h⟩=some (some (out x),⟨fr (nx s x),h⟩)):∀{l:List α}{s:σ},(∀x∈l,P x)->BW f (l.map g) ⟨fr s,h⟩=some (l.map out,⟨fr (l.foldl nx s),h⟩)
 |[],_,_=>rfl
 |x::l,s,hp=>Mh (st x s (hp x (.head _))) (F4 st (l:=l) λy hy=>hp y (.tail _ hy))
theorem Si {α β σ:Type}{f:V->St->Option (Fl×St)}{h:Hp}{g:α->V}{out:α->β}{fr:List β->σ->Bf}{nx:σ->α->σ}{P:α->Prop}{N:Nat}(st:∀x acc s,P x->acc.length<N->f (g x) ⟨fr acc s,h⟩=some (.nxt,⟨fr (acc++[out x]) (nx s x),h⟩)):∀{l:List α}{acc:List β}{s:σ},(∀x∈l,P x)->acc.length+l.length<=N->Ct f (l.map g) ⟨fr acc s,h⟩=some (.nxt,⟨fr (acc++l.map out) (l.foldl nx s),h⟩)
 |[],acc,s,_,_=>by rw[show acc++List.map out []=acc from List.append_nil acc];rfl
 |x::l,acc,s,hp,hl=>by
  have e:=Si st (l:=l) (acc:=acc++[out x]) (s:=nx s x) (λy hy=>hp y (.tail _ hy)) (by rw[List.length_append,Nat.add_assoc,Nat.add_comm [out x].length];exact hl)
  rw[List.append_assoc] at e
  exact BN (st x acc s (hp x (.head _)) (Nat.lt_of_lt_of_le (Nat.lt_add_of_pos_right (Nat.succ_pos _)) hl)) e
noncomputable def J0 (_:Slot×Slot×Slot)(p:Pt):Slot×Slot×Slot:=(.val (.int p.1),.val (.int p.2),.val (.bool true))
noncomputable def Qv (z:Slot×Slot×Slot×Slot)(c:List Pt):Slot×Slot×Slot×Slot:=(.val (AF c),c.foldl J0 z.2)
noncomputable def Og (_:Slot×Slot)(p:Pt):Slot×Slot:=(.val (.int p.1),.val (.int p.2))
theorem HI {cs:List (List Pt)}:A4 (Aw cs)=some (cs.map AF):=rfl
theorem UT {c:List Pt}:A4 (AF c)=some (c.map Bm):=rfl
theorem J5 {c:List Pt}:Be .list [AF c]=some (.lst (c.map Bm)):=rfl
theorem E5 {cs:List (List Pt)}{ins:List Nat}{h:Hp}{m k:Nat}(q:A.tb.mth 0 m=some k):CX A.tb (A7 cs ins) m h=some k:=q
theorem Bt {α:Type}{l:List α}{g:α->V}(h:l.length<=16777216):AO (l.map g).length=true:=Ci (by rw[List.length_map];exact h)
theorem Ip {D:Den}{v0:Slot}{h:Hp}:∀(cs:List (List Pt))(acc:List Pt)(s2:Slot),acc.length+cs.flatten.length<=1000000->∃s2',Ct (B7 A.tb D (.one 2) [.ass 1 (.bin .add (.var 1) (.bi .list [(.var 2)]))]) (cs.map AF) ⟨[v0,.val (.lst (acc.map Bm)),s2],h⟩=some (.nxt,⟨[v0,.val (.lst ((acc++cs.flatten).map Bm)),s2'],h⟩)
 |[],acc,s2,_=>⟨s2,by rw[List.flatten_nil,List.append_nil];rfl⟩
 |c::cs,acc,s2,hl=>by
  rw[List.flatten_cons,List.length_append] at hl
  obtain⟨s2',e⟩:=Ip (D:=D) (v0:=v0) (h:=h) cs (acc++c) (.val (AF c)) (by rw[List.length_append];exact((BM 0x13ec9988221110133213ec99882211130139) hl))
  refine⟨s2',?_⟩
  have hb:(acc.map Bm++c.map Bm).length<=16777216:=by rw[List.length_append,List.length_map,List.length_map];exact((BM 0x1188888888211013210221413ec99882211130139) hl)
  have st:B7 A.tb D (.one 2) [.ass 1 (.bin .add (.var 1) (.bi .list [(.var 2)]))] (AF c) ⟨[v0,.val (.lst (acc.map Bm)),s2],h⟩=some (.nxt,⟨[v0,.val (.lst (acc.map Bm++c.map Bm)),.val (AF c)],h⟩):=by
   exact oC 3 λK=>K J5 (OZ hb)
  rw[<-List.map_append] at st
  rw[List.flatten_cons,<-List.append_assoc]
  exact BN st e
theorem FY {n:Nat}{cs:List (List Pt)}{ins:List Nat}{h:Hp}(hl:cs.flatten.length<=1000000):(A.den (n+1)).fn 1 [A7 cs ins] h=some (AF cs.flatten,h):=by
 refine AA (Ip (D:=A.den n) (v0:=.val (A7 cs ins)) (h:=h) cs [] .un (by simpa using hl)) λs2' e=>?_
 rw[List.nil_append] at e
 exact fC 12 λK=>K HI e
noncomputable def CJ (x y:Int)(p:Pt):Pt:=(p.1+x,p.2+y)
theorem QW {n:Nat}{cs:List (List Pt)}{x y:Int}{h:Hp}(hl:cs.length<=1000)(hc:∀c∈cs,c.length<=1000):(A.den (n+1)).fn 5 [Aw cs,.int x,.int y] h=some (Aw (cs.map λc=>c.map (CJ x y)),h):=by
 have e:=F4 (f:=Bi A.tb (A.den n) (.comp (.tup [(.bin .add (.var 4) (.var 1)),(.bin .add (.var 5) (.var 2)),(.var 6)]) (.many [4,5,6]) (.var 3) none) (.one 3) none) (h:=h) (P:=λc=>c.length<=1000) (g:=AF) (out:=λc=>AF (c.map (CJ x y))) (nx:=Qv) (fr:=λz=>[.val (Aw cs),.val (.int x),.val (.int y),z.1,z.2.1,z.2.2.1,z.2.2.2]) (λc z hcl=>by
  have e1:=F4 (f:=Bi A.tb (A.den n) (.tup [(.bin .add (.var 4) (.var 1)),(.bin .add (.var 5) (.var 2)),(.var 6)]) (.many [4,5,6]) none) (h:=h) (P:=λ_=>True) (g:=Bm) (out:=λp=>Bm (CJ x y p)) (nx:=J0) (fr:=λz=>[.val (Aw cs),.val (.int x),.val (.int y),.val (AF c),z.1,z.2.1,z.2.2]) (λp z _=>by
   show _=some (some (V.tup [.int (p.1+x),.int (p.2+y),.bool true]),(⟨[.val (Aw cs),.val (.int x),.val (.int y),.val (AF c),.val (.int p.1),.val (.int p.2),.val (.bool true)],h⟩:St))
   exact cC 0 λK=>K) (l:=c) (s:=z.2) (λ_ _=>trivial)
  have hb:AO (c.map λp=>Bm (CJ x y p)).length=true:=Bt (Nat.le_trans hcl (by decide))
  show _=some (some (V.lst _),(⟨[.val (Aw cs),.val (.int x),.val (.int y),.val (AF c),(c.foldl J0 z.2).1,(c.foldl J0 z.2).2.1,(c.foldl J0 z.2).2.2],h⟩:St))
  rw[List.map_map]
  show _=some (some (V.lst (c.map λp=>Bm (CJ x y p))),_)
  exact cC 7 λK=>K UT e1 (CK hb)) (l:=cs) (s:=(.un,.un,.un,.un)) hc
 have hb:AO (cs.map λc=>AF (c.map (CJ x y))).length=true:=Bt (Nat.le_trans hl (by decide))
 exact fC 7 λK=>fE (K HI e (CK hb)) (by show V.lst _=V.lst _;rw[List.map_map];rfl)
end Mine.Internal.Q
end
section
set_option maxRecDepth 10000
namespace Mine.Internal.Q
theorem WS {n:Nat}{x:Int}{h:Hp}:(A.den (n+1)).fn 6 [.int x] h=some (.int ((x+8192)/16384),h):=by kernel_rfl
structure Sc where
 a:Int
 b:Int
 c:Int
 d:Int
noncomputable def Sc.v (s:Sc):V:=.tup [.int s.a,.int s.b,.int s.c,.int s.d]
structure Sc.ok (s:Sc):Prop where
 a1: -100000<s.a
 a2:s.a<100000
 b1: -100000<s.b
 b2:s.b<100000
 c1: -100000<s.c
 c2:s.c<100000
 d1: -100000<s.d
 d2:s.d<100000
noncomputable def Ir (s:Sc)(p:Pt):Pt:=((s.a*p.1+s.c*p.2+8192)/16384,(s.b*p.1+s.d*p.2+8192)/16384)
theorem Qq {n:Nat}{h:Hp}{v0 v1:Slot}{s:Sc}(k:s.ok){cs:List (List Pt)}{z:Slot×Slot×Slot×Slot}(hl:cs.length<=1000)(hc:∀c∈cs,c.length<=1000):
  Ct (B7 A.tb (A.den (n+1)) (.one 7) [.app 6 (.comp (.tup [(.call 6 [(.bin .add (.bin .mul (.var 2) (.var 8)) (.bin .mul (.var 4) (.var 9)))]),(.call 6 [(.bin .add (.bin .mul (.var 3) (.var 8)) (.bin .mul (.var 5) (.var 9)))]),(.var 10)]) (.many [8,9,10]) (.var 7) none)]) (cs.map AF) ⟨[v0,v1,.val (.int s.a),.val (.int s.b),.val (.int s.c),.val (.int s.d),.ul ([]),z.1,z.2.1,z.2.2.1,z.2.2.2],h⟩=some (.nxt,⟨[v0,v1,.val (.int s.a),.val (.int s.b),.val (.int s.c),.val (.int s.d),.ul ((cs.map λc=>c.map (Ir s)).map AF),(cs.foldl Qv z).1,(cs.foldl Qv z).2.1,(cs.foldl Qv z).2.2.1,(cs.foldl Qv z).2.2.2],h⟩):=
 Si (N:=1000) (P:=λc=>c.length<=1000) (g:=AF) (out:=λc=>c.map (Ir s)) (nx:=Qv) (fr:=λacc z=>[v0,v1,.val (.int s.a),.val (.int s.b),.val (.int s.c),.val (.int s.d),.ul (acc.map AF),z.1,z.2.1,z.2.2.1,z.2.2.2]) (λc acc z hcl hal=>by
  obtain⟨a1,a2,b1,b2,c1,c2,d1,d2⟩:=k
  have e1:=F4 (f:=Bi A.tb (A.den (n+1)) (.tup [(.call 6 [(.bin .add (.bin .mul (.var 2) (.var 8)) (.bin .mul (.var 4) (.var 9)))]),(.call 6 [(.bin .add (.bin .mul (.var 3) (.var 8)) (.bin .mul (.var 5) (.var 9)))]),(.var 10)]) (.many [8,9,10]) none) (h:=h) (P:=λ_=>True) (g:=Bm) (out:=λp=>Bm (Ir s p)) (nx:=J0) (fr:=λz=>[v0,v1,.val (.int s.a),.val (.int s.b),.val (.int s.c),.val (.int s.d),.ul (acc.map AF),.val (AF c),z.1,z.2.1,z.2.2]) (λp z _=>by
   show _=some (some (V.tup [.int ((s.a*p.1+s.c*p.2+8192)/16384),.int ((s.b*p.1+s.d*p.2+8192)/16384),.bool true]),(⟨[v0,v1,.val (.int s.a),.val (.int s.b),.val (.int s.c),.val (.int s.d),.ul (acc.map AF),.val (AF c),.val (.int p.1),.val (.int p.2),.val (.bool true)],h⟩:St))
   exact cC 187 λK=>K (BP ((Aj 0x1004888888888927110038bac8276) a1) ((Aj 0x1488888888892001138bac82006) a2)) (BP ((Aj 0x1004888888888927110038bac8276) c1) ((Aj 0x1488888888892001138bac82006) c2)) WS (BP ((Aj 0x1004888888888927110038bac8276) b1) ((Aj 0x1488888888892001138bac82006) b2)) (BP ((Aj 0x1004888888888927110038bac8276) d1) ((Aj 0x1488888888892001138bac82006) d2)) WS) (l:=c) (s:=z.2) (λ_ _=>trivial)
  have hb:AO (c.map λp=>Bm (Ir s p)).length=true:=Bt (Nat.le_trans hcl (by decide))
  have hb2:AO ((acc.map AF).length+1)=true:=Ci (by rw[List.length_map];exact((Ao 0x1188888888212013211fd8201a) hal))
  have hm:(acc.map AF)++[V.lst (c.map λp=>Bm (Ir s p))]=(acc++[c.map (Ir s)]).map AF:=by rw[List.map_append];show _=_++[AF _];unfold AF;rw[List.map_map];rfl
  show _=some (Fl.nxt,(⟨[v0,v1,.val (.int s.a),.val (.int s.b),.val (.int s.c),.val (.int s.d),.ul ((acc++[c.map (Ir s)]).map AF),.val (AF c),(c.foldl J0 z.2).1,(c.foldl J0 z.2).2.1,(c.foldl J0 z.2).2.2],h⟩:St))
  exact oC 31 λK=>K UT e1 (CK hb) hb2 hm) (l:=cs) (acc:=[]) (s:=z) hc (by rw[List.length_nil,Nat.zero_add];exact hl)
theorem PB {n:Nat}{cs:List (List Pt)}{s:Sc}{h:Hp}(k:s.ok)(hl:cs.length<=1000)(hc:∀c∈cs,c.length<=1000):(A.den (n+2)).fn 7 [Aw cs,s.v] h=some (Aw (cs.map λc=>c.map (Ir s)),h):=by
 have e:=Qq (n:=n) (h:=h) (v0:=.val (Aw cs)) (v1:=.val s.v) (z:=(.un,.un,.un,.un)) k hl hc
 exact fC 12 λK=>K HI e
noncomputable def Sc.okB (s:Sc):Bool:=[s.a,s.b,s.c,s.d].all λx=>decide (-100000<x)&&decide (x<100000)
theorem Sc.ok_of {s:Sc}(h:s.okB=true):s.ok:=by
 have h:=λx hx=>Bool.and_eq_true_iff.1 (List.all_eq_true.1 h x hx)
 have h1:=h s.a (.head _)
 have h2:=h s.b (.tail _ (.head _))
 have h3:=h s.c (.tail _ (.tail _ (.head _)))
 have h4:=h s.d (.tail _ (.tail _ (.tail _ (.head _))))
 exact⟨of_decide_eq_true h1.1,of_decide_eq_true h1.2,of_decide_eq_true h2.1,of_decide_eq_true h2.2,of_decide_eq_true h3.1,of_decide_eq_true h3.2,of_decide_eq_true h4.1,of_decide_eq_true h4.2⟩
noncomputable def CN (g a b:Int)(mv:Bool)(s:Sc):V:=.obj 4 [(9,.int g),(10,.int a),(11,.int b),(12,.bool mv),(13,s.v)]
section
variable {T:Tab}{g a b:Int}{mv:Bool}{s:Sc}{st:St}
end
theorem IZ {j:Int}{n:Nat}(h:0<=j)(h2:j<n):place j n=some j.toNat:=by
 show(match decide (0<=j) with|true=>(match Nat.blt j.toNat n with|true=>some j.toNat|false=>none)|false=>_)=_
 rw[decide_eq_true h,show Nat.blt j.toNat n=true from(Nat.blt_eq).mpr (by exact((E9 0x10111310011871018006) h2 (Int.toNat_of_nonneg h)))]
theorem Bh {α:Type}:∀{l:List α}{i:Nat}{x:α},nth l i=some x->i<l.length
 |[],_,_,h=>nomatch h
 |_::_,0,_,_=>Nat.succ_pos _
 |_::l,i+1,_,h=>Nat.succ_lt_succ (Bh (l:=l) h)
theorem DY {α β:Type}{f:α->β}:∀{l:List α}{i:Nat}{x:α},nth l i=some x->nth (l.map f) i=some (f x)
 |[],_,_,h=>nomatch h
 |_::_,0,_,h=>by cases h;rfl
 |_::l,i+1,_,h=>DY (l:=l) h
theorem JN {c:List Pt}{j:Int}{p:Pt}{s:Hp}(h:0<=j)(e:nth c j.toNat=some p):BF (AF c) (.int j) s=some (Bm p):=by
 show(place j (c.map Bm).length).bind (nth (c.map Bm))=_
 rw[IZ h (by rw[List.length_map];exact(Int.toNat_lt h).mp (Bh e)),Option.bind_some,DY e]
theorem D6 {c:List Pt}:Be .len [AF c]=some (.int c.length):=by
 show some (V.int ((c.map Bm).length:Int))=_;rw[List.length_map]
theorem Ei {n:Nat}{cs:List (List Pt)}{h:Hp}:(A.den (n+1)).ini 0 [Aw cs] h=some ([(0,Aw cs),(1,.bytes [])],h):=by kernel_rfl
noncomputable def GH (u:Bool)(s:Sc)(cs:List (List Pt)):List (List Pt):=match u with|true=>cs.map λc=>c.map (Ir s)|false=>cs
theorem Ri {u:Bool}{s:Sc}{cs:List (List Pt)}:(GH u s cs).length=cs.length:=by cases u<;>simp[GH]
theorem Rg {u:Bool}{s:Sc}{cs:List (List Pt)}(hc:∀c∈cs,c.length<=1000):∀c∈GH u s cs,c.length<=1000:=by
 cases u
 ·exact hc
 ·intro c h
  obtain⟨d,hd,rfl⟩:=List.mem_map.1 h
  rw[List.length_map];exact hc d hd
noncomputable def Tc:V:=.tup [.int 16384,.int 0,.int 0,.int 16384]
theorem Vv {n:Nat}{cs out:List (List Pt)}{g a b:Int}{s:Sc}{u:Bool}{h:Hp}(k:s.ok)(hu:Av .ne s.v Tc=some u)(hl:cs.length<=1000)(hc:∀c∈cs,c.length<=1000):
  (A.den (n+3)).fn 52 [CN g a b true s,Aw cs,Aw out] h=some (Aw ((GH u s cs).map λc=>c.map (CJ a b)),h):=by
 have hm:=QW (n:=n+1) (x:=a) (y:=b) (h:=h) (by rw[Ri];exact hl:(GH u s cs).length<=1000) (Rg hc)
 skip
 cases u<;>dsimp only[GH] at hm ⊢
 ·
  exact fC 136 λK=>K hu hm
 ·
  exact fC 552 λK=>K hu (PB k hl hc) hm
theorem VR {n:Nat}{cs out:List (List Pt)}{g a b:Int}{s:Sc}{u:Bool}{p q:Pt}{h:Hp}(k:s.ok)(hu:Av .ne s.v Tc=some u)(hl:cs.length<=1000)(hc:∀c∈cs,c.length<=1000)
  (ha:0<=a)(hb:0<=b)(ep:nth out.flatten a.toNat=some p)(eq:nth (GH u s cs).flatten b.toNat=some q)(ho:out.flatten.length<=1000000)(hf:(GH u s cs).flatten.length<=1000000):
  (A.den (n+3)).fn 52 [CN g a b false s,Aw cs,Aw out] h=some (Aw ((GH u s cs).map λc=>c.map (CJ (p.1 - q.1) (p.2 - q.2))),h):=by
 have hm:=QW (n:=n+1) (x:=p.1 - q.1) (y:=p.2 - q.2) (h:=h) (by rw[Ri];exact hl:(GH u s cs).length<=1000) (Rg hc)
 have l1:=Bh ep
 have l2:=Bh eq
 skip
 have hpo:=FY (n:=n+1) (ins:=[]) (h:=h) hf
 cases u<;>dsimp only[GH] at hm hpo eq l2 ⊢
 ·
  exact fC 135641064 λK=>K hu Ei (E5 rfl) (FY ho) Ei (E5 rfl) hpo D6 (DC ((E9 0x1118001100018811101a) l1 (Int.toNat_of_nonneg ha))) D6 (DC ((E9 0x1118001100018811101a) l2 (Int.toNat_of_nonneg hb))) (JN ha ep) (JN hb eq) hm
 ·
  exact fC 542564264 λK=>K hu (PB k hl hc) Ei (E5 rfl) (FY ho) Ei (E5 rfl) hpo D6 (DC ((E9 0x1118001100018811101a) l1 (Int.toNat_of_nonneg ha))) D6 (DC ((E9 0x1118001100018811101a) l2 (Int.toNat_of_nonneg hb))) (JN ha ep) (JN hb eq) hm
end Mine.Internal.Q
end
section
set_option maxRecDepth 20000
namespace Mine.Internal.Q
theorem PS {a b c d e f g:V}:Be .len [.lst [a,b,c,d,e,f,g]]=some (.int 7):=rfl
theorem XZ:Be .max [.int 1,.int 7]=some (.int 7):=by kernel_rfl
structure Ro where
 t:List Nat
 s:Int
 p:Int
 z:Int
noncomputable def Pk (F:List Nat)(r:Ro):List Nat:=F++r.t++Bb r.s++Bb r.p++Bb r.z
noncomputable def LC:List Ro->List Nat->List Nat
 |[],L=>L
 |r::l,L=>r.t++(Bb r.s++(Bb r.p++(Bb r.z++LC l L)))
theorem L9:∀(l:List Ro)(F L:List Nat),l.foldl Pk F++L=F++LC l L
 |[],_,_=>rfl
 |r::l,F,L=>(L9 l (Pk F r) L).trans (by unfold Pk;rw[List.append_assoc,List.append_assoc,List.append_assoc,List.append_assoc];rfl)
theorem OP:∀(l:List Ro)(L:List Nat),(∀r∈l,r.t.length=4)->(LC l L).length=16*l.length+L.length
 |[],L,_=>(Nat.zero_add _).symm
 |r::l,L,h=>by
  have e:=h r List.mem_cons_self
  have f:=OP l L λx hx=>h x (List.mem_cons_of_mem _ hx)
  show(r.t++([_,_,_,_]++([_,_,_,_]++([_,_,_,_]++LC l L)))).length=_
  rw[List.length_append,List.length_append,List.length_append,List.length_append,f,e,List.length_cons]
  show 4+(4+(4+(4+(16*l.length+L.length))))=16*(l.length+1)+L.length
  exact(Nat.le_antisymm (AR 0x111120132853110128534234234234232) (AR 0x111012853423423423423111201328532))
section
variable {n:Nat}{a b c d e f g:List Nat}{h:Hp}
noncomputable def S6 (a b c d e f g:List Nat)(sa sb sc sd se sf sg pa pb pc pd pe pf pg:Int):List Ro:=[⟨[99,109,97,112],sa,pa,a.length⟩,⟨[103,108,121,102],sb,pb,b.length⟩,⟨[104,101,97,100],sc,pc,c.length⟩,⟨[104,104,101,97],sd,pd,d.length⟩,⟨[104,109,116,120],se,pe,e.length⟩,⟨[108,111,99,97],sf,pf,f.length⟩,⟨[109,97,120,112],sg,pg,g.length⟩]
theorem eG {pa pb pc pd pe pf pg sa sb sc sd se sf sg:Int}(hsa:(A.den (n+4)).fn 28 [.str [99,109,97,112],.bytes a] h=some (.int sa,h))(hsb:(A.den (n+4)).fn 28 [.str [103,108,121,102],.bytes b] h=some (.int sb,h))(hsc:(A.den (n+4)).fn 28 [.str [104,101,97,100],.bytes c] h=some (.int sc,h))(hsd:(A.den (n+4)).fn 28 [.str [104,104,101,97],.bytes d] h=some (.int sd,h))(hse:(A.den (n+4)).fn 28 [.str [104,109,116,120],.bytes e] h=some (.int se,h))(hsf:(A.den (n+4)).fn 28 [.str [108,111,99,97],.bytes f] h=some (.int sf,h))(hsg:(A.den (n+4)).fn 28 [.str [109,97,120,112],.bytes g] h=some (.int sg,h)):(A.den (n+5)).fn 30 [T7 a b c d e f g,.dct [(.str [99,109,97,112],.int pa),(.str [103,108,121,102],.int pb),(.str [104,101,97,100],.int pc),(.str [104,104,101,97],.int pd),(.str [104,109,116,120],.int pe),(.str [108,111,99,97],.int pf),(.str [109,97,120,112],.int pg)]] h=some (.bytes ((S6 a b c d e f g sa sb sc sd se sf sg pa pb pc pd pe pf pg).foldl Pk Pa),h):=by
 exact fC 8922814135116131571138477112759518 λK=>fE (K FN PS XZ V1 Au AV AV AV AV FN F6 Jy hsa Au (Al (lb (la (la (la (la (la (la lr lr) lr) lr) lr) lr) lr))) Au (Al (lb (la (la (la (la (la (la (la lr lr) lr) lr) lr) lr) lr) lr))) Au (Al (lb (la (la (la (la (la (la (la (la lr lr) lr) lr) lr) lr) lr) lr) lr))) Gp J1 (Al (lb (la (la (la (la (la (la (la (la (la lr lr) lr) lr) lr) lr) lr) lr) lr) lr))) hsb Au (Al (lb (la (la (la (la (la (la (la (la (la (la lr lr) lr) lr) lr) lr) lr) lr) lr) lr) lr))) Au (Al (lb (la (la (la (la (la (la (la (la (la (la (la lr lr) lr) lr) lr) lr) lr) lr) lr) lr) lr) lr))) Au (Al (lb (la (la (la (la (la (la (la (la (la (la (la (la lr lr) lr) lr) lr) lr) lr) lr) lr) lr) lr) lr) lr))) Ep Kw (Al (lb (la (la (la (la (la (la (la (la (la (la (la (la (la lr lr) lr) lr) lr) lr) lr) lr) lr) lr) lr) lr) lr) lr))) hsc Au (Al (lb (la (la (la (la (la (la (la (la (la (la (la (la (la (la lr lr) lr) lr) lr) lr) lr) lr) lr) lr) lr) lr) lr) lr) lr))) Au (Al (lb (la (la (la (la (la (la (la (la (la (la (la (la (la (la (la lr lr) lr) lr) lr) lr) lr) lr) lr) lr) lr) lr) lr) lr) lr) lr))) Au (Al (lb (la (la (la (la (la (la (la (la (la (la (la (la (la (la (la (la lr lr) lr) lr) lr) lr) lr) lr) lr) lr) lr) lr) lr) lr) lr) lr) lr))) FU JD (Al (lb (la (la (la (la (la (la (la (la (la (la (la (la (la (la (la (la (la lr lr) lr) lr) lr) lr) lr) lr) lr) lr) lr) lr) lr) lr) lr) lr) lr) lr))) hsd Au (Al (lb (la (la (la (la (la (la (la (la (la (la (la (la (la (la (la (la (la (la lr lr) lr) lr) lr) lr) lr) lr) lr) lr) lr) lr) lr) lr) lr) lr) lr) lr) lr))) Au (Al (lb (la (la (la (la (la (la (la (la (la (la (la (la (la (la (la (la (la (la (la lr lr) lr) lr) lr) lr) lr) lr) lr) lr) lr) lr) lr) lr) lr) lr) lr) lr) lr) lr))) Au (Al (lb (la (la (la (la (la (la (la (la (la (la (la (la (la (la (la (la (la (la (la (la lr lr) lr) lr) lr) lr) lr) lr) lr) lr) lr) lr) lr) lr) lr) lr) lr) lr) lr) lr) lr))) Gx JH (Al (lb (la (la (la (la (la (la (la (la (la (la (la (la (la (la (la (la (la (la (la (la (la lr lr) lr) lr) lr) lr) lr) lr) lr) lr) lr) lr) lr) lr) lr) lr) lr) lr) lr) lr) lr) lr))) hse Au (Al (lb (la (la (la (la (la (la (la (la (la (la (la (la (la (la (la (la (la (la (la (la (la (la lr lr) lr) lr) lr) lr) lr) lr) lr) lr) lr) lr) lr) lr) lr) lr) lr) lr) lr) lr) lr) lr) lr))) Au (Al (lb (la (la (la (la (la (la (la (la (la (la (la (la (la (la (la (la (la (la (la (la (la (la (la lr lr) lr) lr) lr) lr) lr) lr) lr) lr) lr) lr) lr) lr) lr) lr) lr) lr) lr) lr) lr) lr) lr) lr))) Au (Al (lb (la (la (la (la (la (la (la (la (la (la (la (la (la (la (la (la (la (la (la (la (la (la (la (la lr lr) lr) lr) lr) lr) lr) lr) lr) lr) lr) lr) lr) lr) lr) lr) lr) lr) lr) lr) lr) lr) lr) lr) lr))) FW Jv (Al (lb (la (la (la (la (la (la (la (la (la (la (la (la (la (la (la (la (la (la (la (la (la (la (la (la (la lr lr) lr) lr) lr) lr) lr) lr) lr) lr) lr) lr) lr) lr) lr) lr) lr) lr) lr) lr) lr) lr) lr) lr) lr) lr))) hsf Au (Al (lb (la (la (la (la (la (la (la (la (la (la (la (la (la (la (la (la (la (la (la (la (la (la (la (la (la (la lr lr) lr) lr) lr) lr) lr) lr) lr) lr) lr) lr) lr) lr) lr) lr) lr) lr) lr) lr) lr) lr) lr) lr) lr) lr) lr))) Au (Al (lb (la (la (la (la (la (la (la (la (la (la (la (la (la (la (la (la (la (la (la (la (la (la (la (la (la (la (la lr lr) lr) lr) lr) lr) lr) lr) lr) lr) lr) lr) lr) lr) lr) lr) lr) lr) lr) lr) lr) lr) lr) lr) lr) lr) lr) lr))) Au (Al (lb (la (la (la (la (la (la (la (la (la (la (la (la (la (la (la (la (la (la (la (la (la (la (la (la (la (la (la (la lr lr) lr) lr) lr) lr) lr) lr) lr) lr) lr) lr) lr) lr) lr) lr) lr) lr) lr) lr) lr) lr) lr) lr) lr) lr) lr) lr) lr))) Gd Kn (Al (lb (la (la (la (la (la (la (la (la (la (la (la (la (la (la (la (la (la (la (la (la (la (la (la (la (la (la (la (la (la lr lr) lr) lr) lr) lr) lr) lr) lr) lr) lr) lr) lr) lr) lr) lr) lr) lr) lr) lr) lr) lr) lr) lr) lr) lr) lr) lr) lr) lr))) hsg Au (Al (lb (la (la (la (la (la (la (la (la (la (la (la (la (la (la (la (la (la (la (la (la (la (la (la (la (la (la (la (la (la (la lr lr) lr) lr) lr) lr) lr) lr) lr) lr) lr) lr) lr) lr) lr) lr) lr) lr) lr) lr) lr) lr) lr) lr) lr) lr) lr) lr) lr) lr) lr))) Au (Al (lb (la (la (la (la (la (la (la (la (la (la (la (la (la (la (la (la (la (la (la (la (la (la (la (la (la (la (la (la (la (la (la lr lr) lr) lr) lr) lr) lr) lr) lr) lr) lr) lr) lr) lr) lr) lr) lr) lr) lr) lr) lr) lr) lr) lr) lr) lr) lr) lr) lr) lr) lr) lr))) Au (Al (lb (la (la (la (la (la (la (la (la (la (la (la (la (la (la (la (la (la (la (la (la (la (la (la (la (la (la (la (la (la (la (la (la lr lr) lr) lr) lr) lr) lr) lr) lr) lr) lr) lr) lr) lr) lr) lr) lr) lr) lr) lr) lr) lr) lr) lr) lr) lr) lr) lr) lr) lr) lr) lr) lr)))) (by rfl)
end
theorem eJ {P Z Y S:List Nat}{i j:Nat}(hi:i=P.length)(hj:j=P.length+Z.length):(P++(Z++S)).take i++Y++(P++(Z++S)).drop j=P++(Y++S):=by
 rw[hi,hj,List.take_left,<-List.drop_drop,List.drop_left,List.drop_left,List.append_assoc]
theorem iW {P H Z R d e f g:List Nat}:P++(H++(Z++R))++d++e++f++g=(P++H)++(Z++(R++(d++(e++(f++g))))):=by simp only[List.append_assoc]
section
variable {n:Nat}{a b c d e f g:List Nat}{h:Hp}
theorem g8 {z:Int}{X:List Nat}(ha:a.length<=1000)(hb:b.length<=1000)(hd:d.length<=1000)(he:e.length<=1000)(hf:f.length<=1000)(hg:g.length<=1000)(hc:c.length=54)(hu:(A.den (n+5)).fn 27 [.bytes c] h=some (.bytes c,h))(hX:X.length=124)
  (hd:(A.den (n+5)).fn 30 [T7 a b c d e f g,.dct [(.str [99,109,97,112],.int (12+16*7)),(.str [103,108,121,102],.int (12+16*7+(Ag a).length)),(.str [104,101,97,100],.int (12+16*7+(Ag a).length+(Ag b).length)),(.str [104,104,101,97],.int (12+16*7+(Ag a).length+(Ag b).length+(Ag c).length)),(.str [104,109,116,120],.int (12+16*7+(Ag a).length+(Ag b).length+(Ag c).length+(Ag d).length)),(.str [108,111,99,97],.int (12+16*7+(Ag a).length+(Ag b).length+(Ag c).length+(Ag d).length+(Ag e).length)),(.str [109,97,120,112],.int (12+16*7+(Ag a).length+(Ag b).length+(Ag c).length+(Ag d).length+(Ag e).length+(Ag f).length))]] h=some (.bytes X,h))(hz:(A.den (n+5)).fn 17 [.bytes (X++Ag a++Ag b++Ag c++Ag d++Ag e++Ag f++Ag g)] h=some (.int z,h)):
  (A.den (n+6)).fn 31 [T7 a b c d e f g] h=some (.bytes ((X++Ag a++Ag b++Ag c++Ag d++Ag e++Ag f++Ag g).take ((12+16*7+(Ag a).length+(Ag b).length)+8:Int).toNat++Bb ((2981146554 - z)%4294967296)++(X++Ag a++Ag b++Ag c++Ag d++Ag e++Ag f++Ag g).drop ((12+16*7+(Ag a).length+(Ag b).length)+8+4:Int).toNat),h):=by
 have ka:(Ag a).length<=2000:=Nat.le_trans (Bv a) (by exact((Ao 0x13fa8232013211fd82019) ha));have kb:(Ag b).length<=2000:=Nat.le_trans (Bv b) (by exact((Ao 0x13fa8232013211fd82019) hb));have kc:(Ag c).length<=2000:=Nat.le_trans (Bv c) (by exact((Ao 0x13fa8232013216e201b) hc));have kd:(Ag d).length<=2000:=Nat.le_trans (Bv d) (by lia);have ke:(Ag e).length<=2000:=Nat.le_trans (Bv e) (by exact((Ao 0x13fa8232013211fd82019) he));have kf:(Ag f).length<=2000:=Nat.le_trans (Bv f) (by exact((Ao 0x13fa8232013211fd82019) hf));have kg:(Ag g).length<=2000:=Nat.le_trans (Bv g) (by exact((Ao 0x13fa8232013211fd82019) hg))
 have kc2:54<=(Ag c).length:=by unfold Ag;rw[List.length_append,hc];exact Nat.le_add_right _ _
 exact fC 157148749673109729580460073194924654719481686002 λK=>K FN Jy J1 Kw JD JH Jv Kn PS Ww Ep (Cn ((Ao 0x1018421823016e201c) hc)) FN PS FN F6 (Ba ((Ao 0x17d8aa888201211fd82019) ha)) Gp (Ba ((Ao 0x17d8aa888201211fd82019) hb)) Ep (Ba ((Ao 0x17d8aa888201216e201b) hc)) FU (Ba (by omega)) Gx (Ba ((Ao 0x17d8aa888201211fd82019) he)) FW (Ba ((Ao 0x17d8aa888201211fd82019) hf)) Gd (Ba ((Ao 0x17d8aa888201211fd82019) hg)) hd FN F6 (Ba ((Ao 0x17d8aa888201211fd82019) ha)) (Al (lb (la (Nat.le_of_eq hX) ka))) Gp (Ba ((Ao 0x17d8aa888201211fd82019) hb)) (Al (lb (la (la (Nat.le_of_eq hX) ka) kb))) Ep hu (Ba ((Ao 0x17d8aa888201216e201b) hc)) (Al (lb (la (la (la (Nat.le_of_eq hX) ka) kb) kc))) FU (Ba (by omega)) (Al (lb (la (la (la (la (Nat.le_of_eq hX) ka) kb) kc) kd))) Gx (Ba ((Ao 0x17d8aa888201211fd82019) he)) (Al (lb (la (la (la (la (la (Nat.le_of_eq hX) ka) kb) kc) kd) ke))) FW (Ba ((Ao 0x17d8aa888201211fd82019) hf)) (Al (lb (la (la (la (la (la (la (Nat.le_of_eq hX) ka) kb) kc) kd) ke) kf))) Gd (Ba ((Ao 0x17d8aa888201211fd82019) hg)) (Al (lb (la (la (la (la (la (la (la (Nat.le_of_eq hX) ka) kb) kc) kd) ke) kf) kg))) Ww hz (Xu (AR 0x1182118018722851c23333020102114102014) ((cO 0x12181821d181e18722851c23333011e10131c1c11d11c131b1c1111b131a1c1511a13191c1611913181c171181331c10241410271410261410251414131321c1116e2911fc201c) hX kc2 List.length_append List.length_append List.length_append List.length_append List.length_append List.length_append List.length_append) (lb (la (la (la (la (la (la (la (Nat.le_of_eq hX) ka) kb) kc) kd) ke) kf) kg))) Au (Al (lb (la (lt (la (la (la (la (la (la (la (Nat.le_of_eq hX) ka) kb) kc) kd) ke) kf) kg)) lr))) (Xw (AR 0x142182118018722851c233333020102114102014) ((cO 0x1218421821d181e18722851c233333011e10131c1c11d11c131b1c1111b131a1c1511a13191c1611913181c171181331c10241410271410261410251414131321c1116e2911fc201c) hX kc2 List.length_append List.length_append List.length_append List.length_append List.length_append List.length_append List.length_append) (lb (la (la (la (la (la (la (la (Nat.le_of_eq hX) ka) kb) kc) kd) ke) kf) kg))) (Al (lb (la (la (lt (la (la (la (la (la (la (la (Nat.le_of_eq hX) ka) kb) kc) kd) ke) kf) kg)) lr) (lq (la (la (la (la (la (la (la (Nat.le_of_eq hX) ka) kb) kc) kd) ke) kf) kg)))))
end
end Mine.Internal.Q
end
section
set_option maxRecDepth 20000
namespace Mine.Internal.Q
structure At (W:List Nat)(i:Int)(L:List Nat):Prop where
 lo:0<=i
 hi:i<=W.length
 eq:W.drop i.toNat=L
 max:W.length<=1000000
theorem N2 {α:Type}:∀{l:List α}{i:Nat}{x:α}{r:List α},l.drop i=x::r->nth l i=some x
 |[],i,_,_,h=>by rw[List.drop_nil] at h;exact nomatch h
 |a::l,0,_,_,h=>congrArg some (List.cons.inj h).1
 |a::l,i+1,_,_,h=>N2 (l:=l) h
section
variable {W p L:List Nat}{i j x:Int}{n:Nat}{h:Hp}
theorem At.len (q:At W i L):i+L.length=W.length:=by
 have h1:=q.lo;have h2:=q.hi
 have h3:i.toNat<=W.length:=Int.toNat_le.mpr h2
 have h4:=ld h3
 rw[q.eq] at h4
 exact(Int.le_antisymm ((cu 0x12180180030100118812111013b) h4 (Int.toNat_of_nonneg h1)) ((cu 0x10180032180100118712111013c) h4 (Int.toNat_of_nonneg h1)))
theorem At.skip (q:At W i (p++L)):At W (i+p.length) L:=by
 have h1:=q.lo;have h2:=q.len;have h3:=List.length_append (as:=p) (bs:=L)
 refine⟨by exact((E0 0x1018003020102014100025) h1),by exact((gC 0x1118218003010231413121301c11180180037) h2 h3),?_,q.max⟩
 rw[Int.toNat_add h1 (Int.natCast_nonneg _),Int.toNat_natCast,<-List.drop_drop,q.eq,List.drop_left]
theorem At.at (q:At W i L)(e:i=j):At W j L:=e▸q
theorem At.skp {k:Nat}(q:At W i (p++L))(e:p.length=k):At W (i+k) L:=e▸q.skip
theorem At.sk4 (q:At W i (p++L))(e:p.length=4):At W (i+4) L:=q.skp e
theorem At.step {a:Nat}(q:At W i (a::L)):At W (i+1) L:=At.skip (p:=[a]) q
theorem At.skip2 (q:At W i (Aq x++L)):At W (i+2) L:=At.skip (p:=Aq x) q
theorem At.skip4 (q:At W i (Bb x++L)):At W (i+4) L:=At.skip (p:=Bb x) q
theorem At.nth {a:Nat}(q:At W i (a::L)):nth W i.toNat=some a:=N2 q.eq
theorem At.take (q:At W i (p++L)):(W.drop i.toNat).take p.length=p:=by rw[q.eq,List.take_left]
theorem At.fin (q:At W i p):At W i (p++[]):=(List.append_nil p).symm▸q
theorem At.all (h:W=L)(m:W.length<=1000000):At W 0 L:=⟨Int.le_refl 0,Int.natCast_nonneg _,h,m⟩
theorem Xg:(B x:Int)=x%256:=Int.toNat_of_nonneg (m0 255)
theorem Xm (h0:0<=x)(h1:x<65536):(B (x/256):Int)*256+(B x:Nat)=x:=by
 rw[Xg,Xg,Int.emod_eq_of_lt (Int.ediv_nonneg h0 (by decide)) (Int.ediv_lt_of_lt_mul (by decide) h1),Int.mul_comm,Int.mul_ediv_add_emod]
theorem iJ:(B ((x+256*256)/256):Int)*256+(B (x+256*256):Nat)=(B (x/256):Int)*256+(B x:Nat):=by
 unfold B;rw[Int.add_mul_ediv_right _ _ (by decide),Int.add_mul_emod_self_right];show(((x/256+1*256)%256).toNat:Int)*256+_=_;rw[Int.add_mul_emod_self_right]
theorem ia (h0: -32768<=x)(h1:x<=32767):(if(32768:Int)<=(B (x/256):Int)*256+(B x:Nat) then(B (x/256):Int)*256+(B x:Nat) - 65536 else(B (x/256):Int)*256+(B x:Nat))=x:=by
 by_cases h:0<=x
 ·rw[Xm h (by exact((Aj 0x1288888200117ffff2005) h1)),if_neg (by exact(Int.not_le.mpr ((Aj 0x1188888200117ffff2005) h1)))]
 ·rw[<-iJ,Xm (by exact((Aj 0x148824885003020100188888275) h0)) (by exact((Aj 0x12888882488248850031102006) (Int.not_le.mp h))),if_pos (by exact((Aj 0x14882488500318888820100188888275) h0))];exact Int.add_sub_cancel x 65536
theorem jm (h0:0<=x)(h1:x<4294967296):((B (x/65536/256):Int)*256+(B (x/65536):Nat))*65536+((B (x/256):Int)*256+(B x:Nat))=x:=by
 rw[Xm (Int.ediv_nonneg h0 (by decide)) (Int.ediv_lt_of_lt_mul (by decide) h1),Xg,Xg]
 have h:x/256/256=x/65536:=Int.ediv_ediv_of_nonneg (by decide)
 rw[<-h]
 exact(Int.le_antisymm ((Xb 0x140304881063288888006301403020488537488201000488537) (mq 255) (mq 255)) ((Xb 0x130488106328888800634001403020488538488201000488538) (mq 255) (mq 255)))
theorem gi:B x<65536:=Nat.lt_trans (To x) (by decide)
theorem CA (q:At W i (Aq x++L))(h0:0<=x)(h1:x<65536):(A.den (n+1)).fn 8 [.bytes W,.int i] h=some (.int x,h):=by
 rw[KW q.lo q.skip2.hi q.nth q.step.nth gi,Xm h0 h1]
theorem G6 (q:At W i (Aq x++L))(h0: -32768<=x)(h1:x<=32767):(A.den (n+2)).fn 9 [.bytes W,.int i] h=some (.int x,h):=by
 rw[eh q.lo q.skip2.hi q.nth q.step.nth gi,ia h0 h1]
theorem CR (q:At W i (Bb x++L))(h0:0<=x)(h1:x<4294967296):(A.den (n+2)).fn 10 [.bytes W,.int i] h=some (.int x,h):=by
 have q2:=q.step.step.at (Int.add_assoc i 1 1)
 rw[dm q.lo q.skip4.hi q.nth q.step.nth q2.nth q2.step.nth (To _) (To _) (To _),jm h0 h1]
theorem DN (q:At W i (p++L)):(A.den (n+1)).fn 15 [.bytes W,.int i,.int p.length] h=some (.bytes p,h):=by
 rw[U9 q.lo (Int.natCast_nonneg _) q.skip.hi (Nat.le_trans q.max (by decide)),Int.toNat_natCast,q.take]
end
noncomputable def Eh (t:List Nat):Prop:=t.length=4/\∀{n:Nat}{l:List Nat}{i:Int}{h:Hp},(A.den (n+1)).fn 15 [.bytes l,.int i,.int 4] h=some (.bytes t,h)->(A.den (n+2)).fn 18 [.bytes l,.int i] h=some (.str t,h)
theorem VN:Eh [99,109,97,112]:=⟨rfl,λhp=>by exact fC 1 λK=>K hp⟩
theorem Vg:Eh [103,108,121,102]:=⟨rfl,λhp=>by exact fC 1 λK=>K hp⟩
theorem Vp:Eh [104,101,97,100]:=⟨rfl,λhp=>by exact fC 1 λK=>K hp⟩
theorem Vu:Eh [104,104,101,97]:=⟨rfl,λhp=>by exact fC 1 λK=>K hp⟩
theorem VQ:Eh [104,109,116,120]:=⟨rfl,λhp=>by exact fC 1 λK=>K hp⟩
theorem Wb:Eh [108,111,99,97]:=⟨rfl,λhp=>by exact fC 1 λK=>K hp⟩
theorem Vh:Eh [109,97,120,112]:=⟨rfl,λhp=>by exact fC 1 λK=>K hp⟩
theorem Tu {n:Nat}{t s p z:V}{h:Hp}:(A.den (n+1)).ini 2 [t,s,p,z] h=some ([(3,t),(4,s),(5,p),(6,z)],h):=by kernel_rfl
noncomputable def Ro.v (r:Ro):V:=.obj 2 [(3,.str r.t),(4,.int r.s),(5,.int r.p),(6,.int r.z)]
structure Ro.ok (m:Nat)(r:Ro):Prop where
 t:Eh r.t
 s0:0<=r.s
 s1:r.s<4294967296
 p0:0<=r.p
 z0:0<=r.z
 pz:r.p+r.z<=m
noncomputable def ji:List S:=match nth A.f_read_directory_b 2 with|some (.forr _ _ b)=>b|_=>[]
theorem QC {W L:List Nat}{n:Nat}{h:Hp}:∀(l:List Ro)(k:Int)(acc:List V)(u2 u3 u4:Slot),At W (12+16*k) (LC l L)->(∀r∈l,r.ok W.length)->acc.length+l.length<=1000->
  ∃u2' u3' u4',Ct (B7 A.tb (A.den (n+3)) (.one 2) ji) (CF k 1 l.length) ⟨[.val (.bytes W),.ul acc,u2,u3,u4],h⟩=some (.nxt,⟨[.val (.bytes W),.ul (acc++l.map Ro.v),u2',u3',u4'],h⟩)
 |[],k,acc,u2,u3,u4,_,_,_=>⟨u2,u3,u4,by rw[List.map_nil,List.append_nil];rfl⟩
 |r::l,k,acc,u2,u3,u4,q,hr,hm=>by
  have o:=hr r List.mem_cons_self
  have m1:=o.p0;have m2:=o.z0;have m3:=o.pz;have m4:=q.max
  rw[List.length_cons] at hm
  have q4:=q.sk4 o.t.1
  have q8:At W (12+16*k+8) _:=q4.skip4.at (Int.add_assoc _ 4 4)
  have q12:At W (12+16*k+12) _:=q8.skip4.at (Int.add_assoc _ 8 4)
  obtain⟨v2,v3,v4,e⟩:=QC l (k+1) (acc++[r.v]) (.val (.int k)) (.val (.int (12+16*k))) (.val r.v) (q12.skip4.at (by exact(Int.le_antisymm (Aj 0x1120032851c23421c2002851c23330) (Aj 0x1421c2002851c2333120032851c230)))) (λx hx=>hr x (List.mem_cons_of_mem _ hx)) (by exact((BM 0x11fd8211213211202301321b11fd82121130139) hm List.length_append))
  rw[List.append_assoc] at e
  refine⟨v2,v3,v4,BN ?_ e⟩
  have e4:=o.t.2 (n:=n+1) (h:=h) (o.t.1▸DN q)
  have e5:=CR (n:=n+1) (h:=h) q4 o.s0 o.s1
  have e6:=CR (n:=n+1) (h:=h) q8 m1 (by exact((Z4 0x148888888888210113ec998820191018001035100025) m2 m3 m4))
  have e7:=CR (n:=n+1) (h:=h) q12 m2 (by exact((Z4 0x148888888888210113ec998820191018100035100025) m1 m3 m4))
  clear q q4 q8 q12 hr o
  exact oC 50004 λK=>K e4 e5 e6 e7 Tu (Fo m3) (Ci ((AR 0x1188888888212013210211411fd82121130139) hm))
theorem bJ {n:Nat}{h:Hp}{W L:List Nat}{l:List Ro}(q:At W 0 (Pa++LC l L))(h7:l.length=7)(hr:∀r∈l,r.ok W.length):(A.den (n+4)).fn 25 [.bytes W] h=some (.lst (l.map Ro.v),h):=by
 have e0:=CR (n:=n+1) (h:=h) (x:=65536) (i:=0) (L:=_) q (by decide) (by decide)
 have e4:=CA (n:=n+2) (h:=h) (x:=7) (i:=4) (At.skip4 (i:=0) (x:=65536) q) (by decide) (by decide)
 have Ac:At W (12+16*0) _:=At.skip (p:=Pa) q
 obtain⟨v2,v3,v4,e⟩:=QC (n:=n) (h:=h) l 0 [] .un .un .un Ac hr (by rw[h7];decide)
 rw[h7,List.nil_append] at e
 have hi:A4 (.rng 0 7 1)=some (CF 0 1 7):=rfl
 have hb:Be .range [.int 7]=some (.rng 0 7 1):=rfl
 clear q Ac hr
 exact fC 241 λK=>K e0 e4 hb hi e
end Mine.Internal.Q
end
section
set_option maxRecDepth 20000
namespace Mine.Internal.Q
theorem aJ {a b c d e f g:Int}:Be .sum [.lst [.int a,.int b,.int c,.int d,.int e,.int f,.int g]]=some (.int (a+(b+(c+(d+(e+(f+(g+0)))))))):=rfl
theorem Hb {n:Nat}{x:V}{h:Hp}:(A.den (n+1)).ini 1 [x] h=some ([(2,x)],h):=by kernel_rfl
noncomputable def R7 (a b c d e f g:List Nat):V:=.obj 1 [(2,.dct [(.str [99,109,97,112],.bytes a),(.str [103,108,121,102],.bytes b),(.str [104,101,97,100],.bytes c),(.str [104,104,101,97],.bytes d),(.str [104,109,116,120],.bytes e),(.str [108,111,99,97],.bytes f),(.str [109,97,120,112],.bytes g)])]
theorem bD {n:Nat}{h:Hp}{W a b c d e f g z:List Nat}{sa sb sc sd se sf sg pa pb pc pd pe pf pg:Int}(rd:(A.den (n+4)).fn 25 [.bytes W] h=some (.lst ((S6 a b c d e f g sa sb sc sd se sf sg pa pb pc pd pe pf pg).map Ro.v),h))
  (hz:(a.length:Int)+(b.length+(c.length+(d.length+(e.length+(f.length+(g.length+0))))))<=W.length)(ea:(A.den (n+4)).fn 15 [.bytes W,.int pa,.int a.length] h=some (.bytes a,h))(eb:(A.den (n+4)).fn 15 [.bytes W,.int pb,.int b.length] h=some (.bytes b,h))(ec:(A.den (n+4)).fn 15 [.bytes W,.int pc,.int c.length] h=some (.bytes z,h))(ed:(A.den (n+4)).fn 15 [.bytes W,.int pd,.int d.length] h=some (.bytes d,h))(ee:(A.den (n+4)).fn 15 [.bytes W,.int pe,.int e.length] h=some (.bytes e,h))(ef:(A.den (n+4)).fn 15 [.bytes W,.int pf,.int f.length] h=some (.bytes f,h))(eg:(A.den (n+4)).fn 15 [.bytes W,.int pg,.int g.length] h=some (.bytes g,h)):
  (A.den (n+5)).fn 26 [.bytes W] h=some (R7 a b z d e f g,h):=by
 exact fC 2832909443016705 λK=>K rd aJ (Fo hz) ea eb ec ed ee ef eg Hb
section
variable {n:Nat}{a b c d e f g:List Nat}{h:Hp}
theorem Rz:(A.den (n+1)).fn 23 [R7 a b c d e f g,.str [99,109,97,112]] h=some (.bytes a,h):=by kernel_rfl
theorem SI:(A.den (n+1)).fn 23 [R7 a b c d e f g,.str [103,108,121,102]] h=some (.bytes b,h):=by kernel_rfl
theorem R6:(A.den (n+1)).fn 23 [R7 a b c d e f g,.str [104,101,97,100]] h=some (.bytes c,h):=by kernel_rfl
theorem RH:(A.den (n+1)).fn 23 [R7 a b c d e f g,.str [104,104,101,97]] h=some (.bytes d,h):=by kernel_rfl
theorem Sy:(A.den (n+1)).fn 23 [R7 a b c d e f g,.str [104,109,116,120]] h=some (.bytes e,h):=by kernel_rfl
theorem RB:(A.den (n+1)).fn 23 [R7 a b c d e f g,.str [108,111,99,97]] h=some (.bytes f,h):=by kernel_rfl
theorem R8:(A.den (n+1)).fn 23 [R7 a b c d e f g,.str [109,97,120,112]] h=some (.bytes g,h):=by kernel_rfl
theorem RE:(A.den (n+1)).fn 22 [R7 a b c d e f g,.str [107,101,114,110]] h=some (.bool false,h):=by kernel_rfl
end
theorem EE (l:List Nat):l.length<=(Ag l).length:=by unfold Ag;rw[List.length_append];exact Nat.le_add_right _ _
theorem dR (l L:List Nat):Ag l++L=l++(List.replicate ((4 - (l.length:Int)%4)%4).toNat 0++L):=List.append_assoc _ _ _
theorem cz {H8 R:List Nat}(h8:H8.length=8):Uj (H8++(Bb 0++R))=H8++(Bb 0++R):=by
 unfold Uj
 rw[show(8:Nat)=H8.length from h8.symm,List.take_left,show(12:Nat)=H8.length+(Bb 0).length from by rw[h8];rfl,<-List.drop_drop,List.drop_left,List.drop_left,List.append_assoc]
 rfl
theorem jz {X a b H L:List Nat}:(X++a++b++H)++L=X++(a++(b++(H++L))):=by rw[List.append_assoc,List.append_assoc,List.append_assoc]
theorem gR {H X R Z L:List Nat}:H++(X++((R++Z)++L))=(H++(X++R))++(Z++L):=by simp only[List.append_assoc]
section
variable {W L H X Z R a:List Nat}{i:Int}{n:Nat}{h:Hp}
theorem At.pad_a (q:At W i (Ag a++L)):(A.den (n+1)).fn 15 [.bytes W,.int i,.int a.length] h=some (.bytes a,h):=DN (At.at (L:=a++_) (by rw[<-dR];exact q) rfl)
theorem At.hd_a {k:Nat}(q:At W i (H++(X++((R++Z)++L))))(e:(H++(X++R)).length=k):(A.den (n+1)).fn 15 [.bytes W,.int i,.int k] h=some (.bytes (H++(X++R)),h):=by
 rw[gR] at q;exact e▸DN q
end
theorem VX {l:List Ro}{F:List Nat}(h:∀r∈l,r.t.length=4):(l.foldl Pk F).length=F.length+16*l.length:=by
 have e:=congrArg List.length (L9 l F [])
 rw[List.append_nil,List.length_append,OP l [] h] at e
 exact e
section
variable {W L H X Z R a t:List Nat}{i s:Int}
theorem At.pz (q:At W i (Ag a++L)):i+a.length<=W.length:=by
 have h1:=q.skip.hi;have h2:=EE a
 exact((cu 0x1118218003010121911180180035) h1 h2)
theorem At.hz {k:Nat}(q:At W i (H++(X++((R++Z)++L))))(e:(H++(X++R)).length=k):i+k<=W.length:=by
 rw[gR] at q;exact e▸q.skip.hi
theorem Ro.ok.of {W:List Nat}{k:Nat}(g:Eh t)(h0:0<=i)(h:i+k<=W.length):Ro.ok W.length ⟨t,s%4294967296,i,k⟩:=⟨g,m0 4294967295,mo 4294967295,h0,Int.natCast_nonneg _,h⟩
end
section
variable {n:Nat}{h:Hp}
theorem Us {a b d e f g H8 R:List Nat}(h8:H8.length=8)(hR:R.length=42)(ha:a.length<=1000)(hb:b.length<=1000)(hd:d.length<=1000)(he:e.length<=1000)(hf:f.length<=1000)(hg:g.length<=1000):
  ∃W X4,X4.length=4/\(A.den (n+6)).fn 31 [T7 a b (H8++(Bb 0++R)) d e f g] h=some (.bytes W,h)/\∀n' h',(A.den (n'+5)).fn 26 [.bytes W] h'=some (R7 a b (H8++(X4++R)) d e f g,h'):=by
 have hc:∀Z:List Nat,Z.length=4->(H8++(Z++R)).length=54:=λZ hZ=>by rw[List.length_append,List.length_append,h8,hR,hZ]
 have hc0:=hc (Bb 0) rfl
 have hcp:Ag (H8++(Bb 0++R))=H8++(Bb 0++(R++[0,0])):=by
  unfold Ag;rw[hc0,List.append_assoc,List.append_assoc];rfl
 have hu:=Hr (n:=n+4) (h:=h) (l:=H8++(Bb 0++R)) (by rw[hc0];decide) (by rw[hc0];decide)
 rw[cz h8] at hu
 obtain⟨ta,sa⟩:=FX (n:=n+1) (t:=[99,109,97,112]) (l:=a) (h:=h) (λz=>absurd z (by decide)) (Nat.le_trans ha (by decide))
 obtain⟨tb,sb⟩:=FX (n:=n+1) (t:=[103,108,121,102]) (l:=b) (h:=h) (λz=>absurd z (by decide)) (Nat.le_trans hb (by decide))
 obtain⟨tc,sc⟩:=FX (n:=n+1) (t:=[104,101,97,100]) (l:=H8++(Bb 0++R)) (h:=h) (λ_=>by rw[hc0];decide) (by rw[hc0];decide)
 obtain⟨td,sd⟩:=FX (n:=n+1) (t:=[104,104,101,97]) (l:=d) (h:=h) (λz=>absurd z (by decide)) (Nat.le_trans hd (by decide))
 obtain⟨te,se⟩:=FX (n:=n+1) (t:=[104,109,116,120]) (l:=e) (h:=h) (λz=>absurd z (by decide)) (Nat.le_trans he (by decide))
 obtain⟨tf,sf⟩:=FX (n:=n+1) (t:=[108,111,99,97]) (l:=f) (h:=h) (λz=>absurd z (by decide)) (Nat.le_trans hf (by decide))
 obtain⟨tg,sg⟩:=FX (n:=n+1) (t:=[109,97,120,112]) (l:=g) (h:=h) (λz=>absurd z (by decide)) (Nat.le_trans hg (by decide))
 have hdir:=eG (n:=n) (h:=h) (pa:=12+16*7) (pb:=12+16*7+(Ag a).length) (pc:=12+16*7+(Ag a).length+(Ag b).length) (pd:=12+16*7+(Ag a).length+(Ag b).length+(Ag (H8++(Bb 0++R))).length) (pe:=12+16*7+(Ag a).length+(Ag b).length+(Ag (H8++(Bb 0++R))).length+(Ag d).length) (pf:=12+16*7+(Ag a).length+(Ag b).length+(Ag (H8++(Bb 0++R))).length+(Ag d).length+(Ag e).length) (pg:=12+16*7+(Ag a).length+(Ag b).length+(Ag (H8++(Bb 0++R))).length+(Ag d).length+(Ag e).length+(Ag f).length) sa sb sc sd se sf sg
 generalize hro:S6 a b (H8++(Bb 0++R)) d e f g (ta%4294967296) (tb%4294967296) (tc%4294967296) (td%4294967296) (te%4294967296) (tf%4294967296) (tg%4294967296) (12+16*7) (12+16*7+(Ag a).length) (12+16*7+(Ag a).length+(Ag b).length) (12+16*7+(Ag a).length+(Ag b).length+(Ag (H8++(Bb 0++R))).length) (12+16*7+(Ag a).length+(Ag b).length+(Ag (H8++(Bb 0++R))).length+(Ag d).length) (12+16*7+(Ag a).length+(Ag b).length+(Ag (H8++(Bb 0++R))).length+(Ag d).length+(Ag e).length) (12+16*7+(Ag a).length+(Ag b).length+(Ag (H8++(Bb 0++R))).length+(Ag d).length+(Ag e).length+(Ag f).length)=rows at hdir
 have hl:rows.length=7:=by rw[<-hro];rfl
 have hX:(rows.foldl Pk Pa).length=124:=by
  rw[VX (by rw[<-hro];exact fa rfl (fa rfl (fa rfl (fa rfl (fa rfl (fa rfl (fa rfl (fo)))))))),hl];rfl
 generalize hXX:rows.foldl Pk Pa=X at hX hdir
 have ka:(Ag a).length<=2000:=Nat.le_trans (Bv a) (by exact((Ao 0x13fa8232013211fd82019) ha));have kb:(Ag b).length<=2000:=Nat.le_trans (Bv b) (by exact((Ao 0x13fa8232013211fd82019) hb));have kd:(Ag d).length<=2000:=Nat.le_trans (Bv d) (by exact((Ao 0x13fa8232013211fd82019) hd));have ke:(Ag e).length<=2000:=Nat.le_trans (Bv e) (by exact((Ao 0x13fa8232013211fd82019) he));have kf:(Ag f).length<=2000:=Nat.le_trans (Bv f) (by exact((Ao 0x13fa8232013211fd82019) hf));have kg:(Ag g).length<=2000:=Nat.le_trans (Bv g) (by exact((Ao 0x13fa8232013211fd82019) hg))
 have kc:(Ag (H8++(Bb 0++R))).length=56:=by rw[hcp,List.length_append,List.length_append,List.length_append,h8,hR];rfl
 obtain⟨z,hz⟩:=I0 (n:=n+3) (h:=h) (l:=X++Ag a++Ag b++Ag (H8++(Bb 0++R))++Ag d++Ag e++Ag f++Ag g) (by exact((cO 0x17d8aa888218121110131e1b1211e131d1b1711d131c1b1311c131b1b1411b131a1b1511a13191b1611913181b178271b13fa8261913fa8251913fa8241913fa8231913fa8221913fa8211911fc201b) hX ka kb kd ke kf kg kc List.length_append List.length_append List.length_append List.length_append List.length_append List.length_append List.length_append))
 have hw:=g8 ha hb hd he hf hg hc0 hu hX hdir hz
 rw[hcp,iW,eJ (by rw[List.length_append,List.length_append,List.length_append,hX,h8];exact(Nat.le_antisymm ((BM 0x118221111fc23330121182218118722851c233330187) (Int.toNat_of_nonneg (AR 0x1182118018722851c23333020102114102014))) ((BM 0x10118221111fc233321182218118722851c233330188) (Int.toNat_of_nonneg (AR 0x1182118018722851c23333020102114102014))))) (by rw[List.length_append,List.length_append,List.length_append,hX,h8];show _=_+4;exact(Nat.le_antisymm ((BM 0x14218221111fc23333012142182218118722851c2333330187) (Int.toNat_of_nonneg (AR 0x142182118018722851c233333020102114102014))) ((BM 0x1014218221111fc233332142182218118722851c2333330188) (Int.toNat_of_nonneg (AR 0x142182118018722851c233333020102114102014))))),jz] at hw
 obtain⟨X4,h4⟩:∃X4,X4=Bb ((2981146554 - z%4294967296)%4294967296):=⟨_,rfl⟩
 have hX4:X4.length=4:=by rw[h4];rfl
 rw[<-h4] at hw
 obtain⟨W,hW⟩:∃W,W=X++(Ag a++(Ag b++(H8++(X4++((R++[0,0])++(Ag d++(Ag e++(Ag f++Ag g)))))))):=⟨_,rfl⟩
 rw[<-hW] at hw
 have hm:W.length<=1000000:=by rw[hW];exact lb (la (Nat.le_of_eq hX) (la ka (la kb (la (Nat.le_of_eq h8) (la (Nat.le_of_eq hX4) (la (la (Nat.le_of_eq hR) lr) (la kd (la ke (la kf kg)))))))))
 have q0:=At.all hW hm
 have qa:At W (12+16*7) _:=q0.skp hX
 have qb:=qa.skip
 have qc:=qb.skip
 have qd:=(((qc.skp h8).skp hX4).skp (k:=44) (by rw[List.length_append,hR];rfl)).at (j:=12+16*7+(Ag a).length+(Ag b).length+(Ag (H8++(Bb 0++R))).length) (by rw[kc];exact(Int.le_antisymm (AR 0x17828118018722851c233335c284281828118018722851c23333330) (AR 0x15c284281828118018722851c23333337828118018722851c233330)))
 have qe:=qd.skip
 have qf:=qe.skip
 have qg:=qf.skip.fin
 rw[<-hXX,L9] at q0
 have hcX:=hc X4 hX4
 refine⟨W,X4,hX4,hw,λn' h'=>?_⟩
 have zc:12+16*7+(Ag a).length+(Ag b).length+((H8++(Bb 0++R)).length:Int)<=W.length:=by rw[hc0];exact qc.hz hcX
 have rd:=bJ (n:=n') (h:=h') q0 hl (by rw[<-hro];exact fa (.of VN qa.lo qa.pz) (fa (.of Vg qb.lo qb.pz) (fa (.of Vp qc.lo zc) (fa (.of Vu qd.lo qd.pz) (fa (.of VQ qe.lo qe.pz) (fa (.of Wb qf.lo qf.pz) (fa (.of Vh qg.lo qg.pz) fo)))))))
 rw[<-hro] at rd
 have zg:=qg.pz
 have ja:=EE a;have jb:=EE b;have jc:=EE (H8++(Bb 0++R));have jd:=EE d;have je:=EE e;have jf:=EE f
 exact bD rd (by exact((iZ 0x118180271831d1831c1831b18301831a1831918301611d191511c191411b191311a19121191911818718618518418118318218722851c2333333335178211c16e201b) hc0 kc zg ja jb jd je jf)) qa.pad_a qb.pad_a (hc0▸qc.hd_a hcX) qd.pad_a qe.pad_a qf.pad_a qg.pad_a
end
end Mine.Internal.Q
end
section
set_option maxRecDepth 20000
namespace Mine.Internal.Q
section
variable {n:Nat}{a b c d e f g:List Nat}{h:Hp}
noncomputable def CM:List Nat:=[0,0,0,1,0,3,0,1,0,0,0,12,0,4,0,32,0,0,0,4,0,4,0,1,0,0,0,100,255,255,0,0,0,97,255,255,255,160,0,1,0,0,0,0]
noncomputable def HH:List Nat:=[0,1,0,0,3,32,255,56,0,90,0,24,0,0,0,0,0,0,0,1,0,0,0,0,0,0,0,0,0,0,0,0,0,0,0,4]
noncomputable def HM:List Nat:=[0,8,0,0,0,16,0,0,0,16,0,0,0,24,0,0,0,0]
noncomputable def MX:List Nat:=[0,1,0,0,0,5,0,4,0,1,0,4,0,1,0,2,0,16,0,64,0,64,0,0,1,0,0,0,0,16,0,8]
noncomputable def SM:V:=match (A.den 12).fn 58 [.bytes CM] [] with|some (v,_)=>v|none=>.none
theorem cE:(A.den (n+12)).fn 64 [.lst [.tup [.int 3,.int 1,.bytes (CM.drop 12)]]] h=some (.bytes CM,h):=by kernel_rfl
theorem eW:(A.den (n+12)).fn 63 [.int 4,.dct [(.int 97,.int 1),(.int 98,.int 2),(.int 99,.int 3),(.int 100,.int 4)]] h=some (.bytes (CM.drop 12),h):=by kernel_rfl
theorem Tr:(A.den (n+12)).fn 76 [.lst [.tup [.int 8,.int 0],.tup [.int 16,.int 0],.tup [.int 16,.int 0],.tup [.int 24,.int 0],.tup [.int 24,.int 0]]] h=some (.tup [.bytes HM,.int 4],h):=by kernel_rfl
theorem ZF:(A.den (n+12)).fn 69 [.int 5,.int 4,.int 1,.int 8] h=some (.bytes MX,h):=by kernel_rfl
theorem Y3:(A.den (n+12)).fn 72 [.obj 8 [(26,.int 800),(27,.int (-200)),(28,.int 90),(29,.int 4)],.int 24] h=some (.bytes HH,h):=by kernel_rfl
theorem Zk:(A.den (n+12)).fn 58 [.bytes CM] h=some (SM,h):=by kernel_rfl
theorem aM:(A.den (n+12)).fn 55 [SM,.int 100] h=some (.int 4,h):=by kernel_rfl
theorem Xy:(A.den (n+12)).fn 71 [.bytes HH] h=some (.obj 8 [(26,.int 800),(27,.int (-200)),(28,.int 90),(29,.int 4)],h):=by kernel_rfl
theorem XR:(A.den (n+12)).fn 68 [.bytes MX] h=some (.int 5,h):=by kernel_rfl
noncomputable def MT:V:=match (A.den 12).fn 74 [.bytes HM,.int 4,.int 5] [] with|some (v,_)=>v|none=>.none
theorem Uh:(A.den (n+12)).fn 74 [.bytes HM,.int 4,.int 5] h=some (MT,h):=by kernel_rfl
end
end Mine.Internal.Q
end
section
set_option maxRecDepth 10000
namespace Mine.Internal.Q
noncomputable def oc (W:List Nat)(i:Int):Cell:=.ins 3 [(7,.bytes W),(8,.int i)]
theorem AP {α:Type}{c:α}:∀{h:List α}{k:Nat},k<h.length->nth (put h k c) k=some c
 |[],_,q=>absurd q (Nat.not_lt_zero _)
 |_::_,0,_=>rfl
 |_::h,k+1,q=>AP (h:=h) (Nat.lt_of_succ_lt_succ q)
theorem QI {α:Type}{c d:α}:∀{h:List α}{k:Nat},put (put h k c) k d=put h k d
 |[],_=>rfl
 |_::_,0=>rfl
 |a::h,k+1=>congrArg (a::·) (QI (h:=h) (k:=k))
theorem Kz {h:Hp}{k:Nat}{W:List Nat}{i j:Int}:put (put h k (oc W i)) k (.ins 3 [(7,.bytes W),(8,.int j)])=put h k (oc W j):=QI
section
variable {h:Hp}{k:Nat}{W L:List Nat}{i:Int}{r:Bf}{n:Nat}
theorem EO (hk:k<h.length):nth (put h k (oc W i)) k=some (.ins 3 [(7,.bytes W),(8,.int i)]):=AP hk
theorem CD {c f:Nat}{fs:List (Nat×V)}{v:V}(e:nth h k=some (.ins c fs))(o:A.tb.fok c f=true)(g:BG f fs=some v):Pe A.tb (.ref k) f h=some v:=by
 show(match nth h k with|some (.ins c fs)=>(match A.tb.fok c f with|true=>BG f fs|false=>Option.none)|_=>Option.none)=_
 rw[e];show(match A.tb.fok c f with|true=>BG f fs|false=>Option.none)=_;rw[o];exact g
theorem DU (hk:k<h.length):Pe A.tb (.ref k) 7 (put h k (oc W i))=some (.bytes W):=CD (EO hk) rfl rfl
theorem Dn (hk:k<h.length):Pe A.tb (.ref k) 8 (put h k (oc W i))=some (.int i):=CD (EO hk) rfl rfl
theorem fP {m c f:Nat}{fs:List (Nat×V)}(e:nth h k=some (.ins c fs))(q:A.tb.mth c m=some f):CX A.tb (.ref k) m h=some f:=by
 show(match nth h k with|some (.ins c _)=>A.tb.mth c m|_=>none)=_
 rw[e];exact q
theorem Bj {m f:Nat}(hk:k<h.length)(q:A.tb.mth 3 m=some f):CX A.tb (.ref k) m (put h k (oc W i))=some f:=fP (EO hk) q
theorem Xi {i m:Int}:i+m - m=i:=Int.add_sub_cancel i m
theorem Et {x:Int}(hk:k<h.length)(q:At W i (Aq x++L))(h0:0<=x)(h1:x<65536):(A.den (n+2)).fn 35 [.ref k] (put h k (oc W i))=some (.int x,put h k (oc W (i+2))):=by
 have hu:(A.den (n+1)).fn 8 [.bytes W,.int (i+2 - 2)] (put h k (oc W (i+2)))=some (.int x,put h k (oc W (i+2))):=by
  rw[Xi];exact CA q h0 h1
 exact fC 189 λK=>K (Dn hk) (EO hk) Kz (DU hk) (Dn hk) hu
theorem BB {x:Int}(hk:k<h.length)(q:At W i (Aq x++L))(h0: -32768<=x)(h1:x<=32767):(A.den (n+3)).fn 36 [.ref k] (put h k (oc W i))=some (.int x,put h k (oc W (i+2))):=by
 have hu:(A.den (n+2)).fn 9 [.bytes W,.int (i+2 - 2)] (put h k (oc W (i+2)))=some (.int x,put h k (oc W (i+2))):=by
  rw[Xi];exact G6 q h0 h1
 exact fC 189 λK=>K (Dn hk) (EO hk) Kz (DU hk) (Dn hk) hu
theorem CZ {a:Nat}(hk:k<h.length)(q:At W i (a::L)):(A.den (n+2)).fn 34 [.ref k] (put h k (oc W i))=some (.int a,put h k (oc W (i+1))):=by
 have hu:(A.den (n+1)).fn 15 [.bytes W,.int (i+1 - 1),.int 1] (put h k (oc W (i+1)))=some (.bytes [a],put h k (oc W (i+1))):=by
  rw[Xi];exact DN (p:=[a]) q
 exact fC 189 λK=>K (Dn hk) (EO hk) Kz (DU hk) (Dn hk) hu
theorem XJ {p:List Nat}(hk:k<h.length)(q:At W i (p++L)):(A.den (n+2)).fn 37 [.ref k,.int p.length] (put h k (oc W i))=some (.bytes p,put h k (oc W (i+p.length))):=by
 have hu:(A.den (n+1)).fn 15 [.bytes W,.int (i+p.length - p.length),.int p.length] (put h k (oc W (i+p.length)))=some (.bytes p,put h k (oc W (i+p.length))):=by
  rw[Xi];exact DN q
 exact fC 189 λK=>K (Dn hk) (EO hk) Kz (DU hk) (Dn hk) hu
theorem IL {p:List Nat}{m:Int}(hk:k<h.length)(q:At W i (p++L))(hm:m=p.length):(A.den (n+2)).fn 37 [.ref k,.int m] (put h k (oc W i))=some (.bytes p,put h k (oc W (i+m))):=hm▸XJ hk q
end
end Mine.Internal.Q
end
section
set_option maxRecDepth 10000
namespace Mine.Internal.Q
section
variable {T:Tab}{D:Den}{s jC jG:St}{t:St->Option (Bool×St)}{f:St->Option (Fl×St)}
end
noncomputable def dS (l:List Int):V:=.lst (l.map V.int)
noncomputable def Kr (l:List Nat):List V:=l.map λ(f:Nat)=>V.int (f:Int)
theorem iG {a b c d:Bool}(h1:a=true)(h2:b=true)(h3:c=true)(h4:d=true):(a&&b&&c&&d)=true:=by rw[h1,h2,h3,h4];rfl
theorem Se {f s:Int}:KI .band f s=match decide (0<=f)&&decide (0<=s)&&decide (f<65536)&&decide (s<65536) with|true=>some ((f.toNat &&& s.toNat:Nat):Int)|false=>none:=by
 rfl
theorem Sp {o:Hu}{f s:Int}:Hk o (.int f) (.int s)=(KI o f s).map V.int:=rfl
theorem Ua {x y:V}:AY .band x y=Hk .band x y:=rfl
theorem DS {f s:Nat}(hf:f<65536)(hs:s<65536):AY .band (.int f) (.int s)=some (.int ((f &&& s:Nat):Int)):=by
 rw[Ua,Sp,Se,iG (decide_eq_true (by exact(Ao 0x1018020102014))) (decide_eq_true (by exact(Ao 0x1018020102014))) (decide_eq_true (by exact((Ao 0x1288888201811288888201a) hf))) (decide_eq_true (by exact((Ao 0x1288888201811288888201a) hs)))]
 rfl
theorem NZ {f:Nat}(hf:f<256):AY .band (.int f) (.int 1)=some (.int ((f &&& 1:Nat):Int)):=DS (f:=f) (s:=1) (Nat.lt_trans hf (by decide)) (by decide)
noncomputable def Rq (sh sa f:Nat)(l:List Nat)(a:Int):Option (Int×List Nat):=match Nat.beq (f &&& sh) 0 with
 |true=>match Nat.beq (f &&& sa) 0 with
  |true=>none
  |false=>some (a,l)
 |false=>match l with
  |[]=>none
  |b::l=>match Nat.beq (f &&& sa) 0 with
   |true=>some (a - b,l)
   |false=>some (a+b,l)
noncomputable def FO (sh sa:Nat):List Nat->List Nat->Int->Option (List Int×List Nat)
 |[],l,_=>some ([],l)
 |f::fs,l,a=>(Rq sh sa f l a).bind λp=>(FO sh sa fs p.2 p.1).map λq=>(p.1::q.1,q.2)
theorem HY {a:Nat}(h:Nat.beq a 0=false):Av .ne (.int (a:Int)) (.int 0)=some true:=hY (by have:=Nat.ne_of_beq_eq_false h;lia)
theorem H5 {a:Nat}(h:Nat.beq a 0=true):Av .ne (.int (a:Int)) (.int 0)=some false:=iR (by have:=Nat.eq_of_beq_eq_true h;exact(Int.le_antisymm ((Ao 0x102018010201b) this) ((Ao 0x101802010201c) this)))
theorem dc {a:Nat}(h:Nat.beq a 0=false):Av .eq (.int (a:Int)) (.int 0)=some false:=iu (by have:=Nat.ne_of_beq_eq_false h;lia)
section
variable {h:Hp}{k:Nat}{W:List Nat}{n:Nat}
noncomputable def Xc (k:Nat)(v1:Slot)(sh sa:Nat)(acc:List V)(a:Int)(t6 t7:Slot)(h:Hp)(W:List Nat)(i:Int):St:=⟨[.val (.ref k),v1,.val (.int sh),.val (.int sa),.ul acc,.val (.int a),t6,t7],put h k (oc W i)⟩
noncomputable def gu:List S:=match nth A.f_read_deltas_b 2 with|some (.forr _ _ b)=>b|_=>[]
theorem eA {sh sa f:Nat}{v1 t6 t7:Slot}{L:List Nat}{a i:Int}{p:Int×List Nat}{acc:List V}(hk:k<h.length)(hsh:sh<256)(hsa:sa<256)(hf:f<256)(hl:acc.length<=1000)(e:Rq sh sa f L a=some p)(q:At W i L):
  ∃i' u,At W i' p.2/\B7 A.tb (A.den (n+3)) (.one 6) gu (.int f) (Xc k v1 sh sa acc a t6 t7 h W i)=some (.nxt,Xc k v1 sh sa (acc++[.int p.1]) p.1 (.val (.int f)) u h W i'):=by
 have b1:=DS (f:=f) (s:=sh) (by exact((Ao 0x128888820131488201a) hf)) (by exact((Ao 0x128888820131488201a) hsh))
 have b2:=DS (f:=f) (s:=sa) (by exact((Ao 0x128888820131488201a) hf)) (by exact((Ao 0x128888820131488201a) hsa))
 unfold Rq at e
 cases q1:Nat.beq (f &&& sh) 0 with
 |true=>
  have c1:=H5 q1
  rw[q1] at e
  cases q2:Nat.beq (f &&& sa) 0 with
  |true=>rw[q2] at e;exact(ns e).elim
  |false=>
   have c2:=dc q2
   rw[q2] at e
   rw[<-s1 e]
   refine⟨i,t7,q,?_⟩
   clear q e
   exact oC 31 λK=>K b1 c1 b2 c2 (Ci ((Ao 0x1188888888212013211fd82019) hl))
 |false=>
  have c1:=HY q1
  rw[q1] at e
  cases L with
  |nil=>exact(ns e).elim
  |cons b L=>
   have d:=CZ (n:=n+1) hk q
   cases q2:Nat.beq (f &&& sa) 0 with
   |true=>
    have c2:=H5 q2
    rw[q2] at e
    rw[<-s1 e]
    refine⟨i+1,.val (.int b),q.step,?_⟩
    clear q e
    exact oC 367 λK=>K b1 c1 (Bj hk rfl) d b2 c2 (Ci ((Ao 0x1188888888212013211fd82019) hl))
   |false=>
    have c2:=HY q2
    rw[q2] at e
    rw[<-s1 e]
    refine⟨i+1,.val (.int b),q.step,?_⟩
    clear q e
    exact oC 367 λK=>K b1 c1 (Bj hk rfl) d b2 c2 (Ci ((Ao 0x1188888888212013211fd82019) hl))
theorem Im {sh sa:Nat}{v1:Slot}(hk:k<h.length)(hsh:sh<256)(hsa:sa<256):∀(fs L:List Nat)(a:Int)(acc:List V)(r:List Int×List Nat)(i:Int)(t6 t7:Slot),(∀f∈fs,f<256)->acc.length+fs.length<=1000->FO sh sa fs L a=some r->At W i L->
  ∃i' a' u6 u7,At W i' r.2/\Ct (B7 A.tb (A.den (n+3)) (.one 6) gu) (Kr fs) (Xc k v1 sh sa acc a t6 t7 h W i)=some (.nxt,Xc k v1 sh sa (acc++r.1.map V.int) a' u6 u7 h W i')
 |[],L,a,acc,r,i,t6,t7,_,_,e,q=>by
  rw[<-s1 e]
  exact⟨i,a,t6,t7,q,by rw[List.map_nil,List.append_nil];rfl⟩
 |f::fs,L,a,acc,r,i,t6,t7,hf,hl,e,q=>Ai e λp e1 e=>CG e λr' e2=>by
  rw[List.length_cons] at hl
  have hl3:acc.length+1+fs.length<=1000:=by exact((AR 0x11fd8211120133211fd82121130139) hl)
  refine Hl (eA (n:=n) (v1:=v1) (t6:=t6) (t7:=t7) (acc:=acc) hk hsh hsa (hf f List.mem_cons_self) (by exact((AR 0x11fd8201210211411fd82121130139) hl)) e1 q) λi2 u q2 st=>?_
  obtain⟨i',a',u6,u7,q',ih⟩:=Im (v1:=v1) hk hsh hsa fs p.2 p.1 (acc++[.int p.1]) r' i2 (.val (.int f)) u (λg hg=>hf g (List.mem_cons_of_mem _ hg)) (by rw[List.length_append];exact hl3) e2 q2
  rw[List.append_assoc] at ih
  refine⟨i',a',u6,u7,q',?_⟩
  exact BN (v:=.int f) (l:=Kr fs) st ih
theorem PO {sh sa:Nat}{fs L L':List Nat}{xs:List Int}{i:Int}(hk:k<h.length)(hsh:sh<256)(hsa:sa<256)(hf:∀f∈fs,f<256)(hl:fs.length<=1000)(e:FO sh sa fs L 0=some (xs,L'))(q:At W i L):
  ∃i',At W i' L'/\(A.den (n+4)).fn 39 [.ref k,.lst (Kr fs),.int sh,.int sa] (put h k (oc W i))=some (dS xs,put h k (oc W i')):=by
 obtain⟨i',at2,t6,t7,qq,e⟩:=Im (n:=n) (h:=h) (W:=W) (v1:=.val (.lst (Kr fs))) hk hsh hsa fs L 0 [] _ i .un .un hf (by rw[List.length_nil];exact((Ao 0x11fd8201023211fd82019) hl)) e q
 rw[List.nil_append] at e
 refine⟨i',qq,?_⟩
 clear q qq hf
 exact fC 4 λK=>K e
theorem Yo {i:Int}{L:List Nat}(hk:k<h.length)(q:At W i (Aq 3++L)):(A.den (n+3)).fn 40 [.ref k,.int 1] (put h k (oc W i))=some (.lst [.int 3],put h k (oc W (i+2))):=by
 have it:A4 (.rng 0 1 1)=some [.int 0]:=by kernel_rfl
 exact fC 54 λK=>K (Ox (by decide) (by decide)) it (Bj hk rfl) (Et hk q (by decide) (by decide))
theorem VZ {a b c d:Nat}{i:Int}{L:List Nat}(hk:k<h.length)(q:At W i (a::b::c::d::L))(ha:a<256)(hb:b<256)(hc:c<256)(hd:d<256)(ea:Nat.beq (a &&& 8) 0=true)(eb:Nat.beq (b &&& 8) 0=true)(ec:Nat.beq (c &&& 8) 0=true)(ed:Nat.beq (d &&& 8) 0=true):
  (A.den (n+3)).fn 38 [.ref k,.int 4] (put h k (oc W i))=some (.lst (Kr [a,b,c,d]),put h k (oc W (i+1+1+1+1))):=by
 have b1:AY .band (.int a) (.int 8)=some (.int ((a &&& 8:Nat):Int)):=DS (f:=a) (s:=8) (by exact((Ao 0x128888820131488201a) ha)) (by exact(by decide))
 have b2:AY .band (.int b) (.int 8)=some (.int ((b &&& 8:Nat):Int)):=DS (f:=b) (s:=8) (by exact((Ao 0x128888820131488201a) hb)) (by exact(by decide))
 have b3:AY .band (.int c) (.int 8)=some (.int ((c &&& 8:Nat):Int)):=DS (f:=c) (s:=8) (by exact((Ao 0x128888820131488201a) hc)) (by exact(by decide))
 have b4:AY .band (.int d) (.int 8)=some (.int ((d &&& 8:Nat):Int)):=DS (f:=d) (s:=8) (by exact((Ao 0x128888820131488201a) hd)) (by exact(by decide))
 have c1:=H5 ea
 have c2:=H5 eb
 have c3:=H5 ec
 have c4:=H5 ed
 have q1:=q.step
 have q2:=q1.step
 have q3:=q2.step
 have m1:∀z:V,AY .mul (.lst [z]) (.int 1)=some (.lst [z]):=λz=>rfl
 exact fC 1741659964 λK=>K (Bj hk rfl) (CZ hk q) b1 c1 rfl (Bj hk rfl) (CZ hk q1) b2 c2 rfl (Bj hk rfl) (CZ hk q2) b3 c3 rfl (Bj hk rfl) (CZ hk q3) b4 c4 rfl rfl
end
end Mine.Internal.Q
end
section
set_option maxRecDepth 10000
namespace Mine.Internal.Q
theorem fk {n:Nat}{p q r s:V}{h:Hp}:(A.den (n+1)).fn 4 [.lst [p,q,r,s],.lst [.int 3]] h=some (.lst [.lst [p,q,r,s]],h):=by kernel_rfl
theorem KZ {n:Nat}{u:V}{l:List Nat}{h:Hp}:(A.den (n+1)).ini 0 [u,.bytes l] h=some ([(0,u),(1,.bytes l)],h):=by kernel_rfl
theorem XO:A4 (.rng 0 4 1)=some [.int 0,.int 1,.int 2,.int 3]:=by kernel_rfl
section
variable {h:Hp}{k:Nat}{W L L' L'':List Nat}{n:Nat}{i:Int}{a b c d:Nat}{x0 x1 x2 x3 y0 y1 y2 y3:Int}
theorem Ul (hk:k<h.length)(q:At W i (Aq 3++(Aq 0++(a::b::c::d::L))))(ha:a<256)(hb:b<256)(hc:c<256)(hd:d<256)
  (ea:Nat.beq (a &&& 8) 0=true)(eb:Nat.beq (b &&& 8) 0=true)(ec:Nat.beq (c &&& 8) 0=true)(ed:Nat.beq (d &&& 8) 0=true)
  (oa:Nat.beq (a &&& 1) 0=false)(ob:Nat.beq (b &&& 1) 0=false)(o3:Nat.beq (c &&& 1) 0=false)(od:Nat.beq (d &&& 1) 0=false)
  (ex:FO 2 16 [a,b,c,d] L 0=some ([x0,x1,x2,x3],L'))(ey:FO 4 32 [a,b,c,d] L' 0=some ([y0,y1,y2,y3],L'')):
  ∃i',(A.den (n+5)).fn 41 [.ref k,.int 1] (put h k (oc W i))=some (A7 [[(x0,y0),(x1,y1),(x2,y2),(x3,y3)]] [],put h k (oc W i')):=by
 have q1:=q.skip2
 have q2:=q1.skip2
 have hall:∀f∈[a,b,c,d],f<256:=fa ha (fa hb (fa hc (fa hd fo)))
 have r1:=Yo (n:=n+1) hk q
 have r2:=Et (n:=n+2) hk q1 (by decide) (by decide)
 have r3:=IL (n:=n+2) (m:=0) (p:=[]) hk q2 rfl
 rw[show i+2+2+0=i+2+2 from Int.add_zero _] at r3
 have r4:(A.den (n+4)).fn 38 [.ref k,.int (3+1)] (put h k (oc W (i+2+2)))=some (_,_):=VZ (n:=n+1) hk q2 ha hb hc hd ea eb ec ed
 refine Ac (PO (n:=n) (sh:=2) (sa:=16) hk (by decide) (by decide) hall (lb lr) ex q2.step.step.step.step) λi2 q3 r5=>?_
 refine Ac (PO (n:=n) (sh:=4) (sa:=32) hk (by decide) (by decide) hall (lb lr) ey q3) λi3 q4 r6=>?_
 refine⟨i3,?_⟩
 have it4:Be .range [.int (3+1)]=some (.rng 0 4 1):=by kernel_rfl
 exact fC 28063725383804 λK=>K r1 (Bj hk rfl) (Bj hk rfl) r2 r3 r4 r5 r6 it4 XO (NZ ha) (HY oa) (NZ hb) (HY ob) (NZ hc) (HY o3) (NZ hd) (HY od) fk KZ
end
end Mine.Internal.Q
end
section
set_option maxRecDepth 10000
namespace Mine.Internal.Q
inductive AD|asis|left|low|about|quarter|back
noncomputable def AD.str:AD->List Nat
 |.asis=>[97,115,32,105,116,32,105,115]
 |.left=>[108,101,102,116]
 |.low=>[108,111,119]
 |.about=>[97,98,111,117,116]
 |.quarter=>[113,117,97,114,116,101,114]
 |.back=>[98,97,99,107]
noncomputable def AD.one:AD->Sc
 |.asis=>⟨1,0,0,1⟩
 |.left=>⟨-1,0,0,1⟩
 |.low=>⟨1,0,0, -1⟩
 |.about=>⟨-1,0,0, -1⟩
 |.quarter=>⟨0,1, -1,0⟩
 |.back=>⟨0, -1,1,0⟩
noncomputable def AD.full:AD->Sc
 |.asis=>⟨16384,0,0,16384⟩
 |.left=>⟨-16384,0,0,16384⟩
 |.low=>⟨16384,0,0, -16384⟩
 |.about=>⟨-16384,0,0, -16384⟩
 |.quarter=>⟨0,16384, -16384,0⟩
 |.back=>⟨0, -16384,16384,0⟩
noncomputable def AD.half:AD->Sc
 |.asis=>⟨8192,0,0,8192⟩
 |.left=>⟨-8192,0,0,8192⟩
 |.low=>⟨8192,0,0, -8192⟩
 |.about=>⟨-8192,0,0, -8192⟩
 |.quarter=>⟨0,8192, -8192,0⟩
 |.back=>⟨0, -8192,8192,0⟩
noncomputable def AD.sc (w:AD)(hf:Bool):Sc:=match hf with|true=>w.half|false=>w.full
noncomputable def AD.flg (w:AD)(hf:Bool):Int:=match w,hf with
 |.asis,false=>0
 |.asis,true=>8
 |.about,_=>8
 |.left,_=>64
 |.low,_=>64
 |.quarter,_=>128
 |.back,_=>128
noncomputable def AD.oct (w:AD)(hf:Bool):List Nat:=match w,hf with
 |.asis,false=>[]
 |.asis,true=>Aq 8192
 |.about,hf=>Aq (AD.about.sc hf).a
 |.left,hf=>Aq (AD.left.sc hf).a++Aq (AD.left.sc hf).d
 |.low,hf=>Aq (AD.low.sc hf).a++Aq (AD.low.sc hf).d
 |.quarter,hf=>Aq 0++(Aq (AD.quarter.sc hf).b++(Aq (AD.quarter.sc hf).c++Aq 0))
 |.back,hf=>Aq 0++(Aq (AD.back.sc hf).b++(Aq (AD.back.sc hf).c++Aq 0))
theorem Ds {C:AD->Bool->Bool}(h:(λc=>((((c .asis&&c .left)&&c .low)&&c .about)&&c .quarter)&&c .back) (λw=>C w false&&C w true)=true)(w:AD)(hf:Bool):C w hf=true:=by
 obtain⟨h,h6⟩:=Bool.and_eq_true_iff.1 h
 obtain⟨h,h5⟩:=Bool.and_eq_true_iff.1 h
 obtain⟨h,h4⟩:=Bool.and_eq_true_iff.1 h
 obtain⟨h,h3⟩:=Bool.and_eq_true_iff.1 h
 have q9_:=Bool.and_eq_true_iff.1 h
 have h:(C w false&&C w true)=true:=by cases w;exact q9_.1;exact q9_.2;exact h3;exact h4;exact h5;exact h6
 cases hf
 ·exact(Bool.and_eq_true_iff.1 h).1
 ·exact(Bool.and_eq_true_iff.1 h).2
theorem AD.ok (w:AD)(hf:Bool):(w.sc hf).ok:=Sc.ok_of (Ds (C:=λw hf=>(w.sc hf).okB) (by kernel_rfl) w hf)
theorem Io {n:Nat}{w:AD}{hf:Bool}{h:Hp}:(A.den (n+3)).fn 86 [(w.sc hf).v] h=some (.tup [.int (w.flg hf),.bytes (w.oct hf)],h):=by
 cases w<;>cases hf<;>kernel_rfl
noncomputable def DM (a b:Int):Bool:=decide (-128<=a)&&decide (a<128)&&decide (-128<=b)&&decide (b<128)
noncomputable def B8 (mv:Bool)(a b:Int):Int:=match mv,DM a b with
 |true,true=>2
 |true,false=>3
 |false,_=>0
noncomputable def Gr (mv:Bool)(a b:Int):List Nat:=match mv,DM a b with
 |true,true=>[(a%256).toNat,(b%256).toNat]
 |true,false=>Aq a++Aq b
 |false,_=>[a.toNat,b.toNat]
structure Cg (fl:Int)(mv wd s8 s64 s128 mo:Bool):Prop where
 mv:∃x,AY .band (.int fl) (.int 2)=some (.int x)/\Av .ne (.int x) (.int 0)=some mv
 wd:∃x,AY .band (.int fl) (.int 1)=some (.int x)/\Av .ne (.int x) (.int 0)=some wd
 s8:∃x,AY .band (.int fl) (.int 8)=some (.int x)/\Av .ne (.int x) (.int 0)=some s8
 s64:∃x,AY .band (.int fl) (.int 64)=some (.int x)/\Av .ne (.int x) (.int 0)=some s64
 s128:∃x,AY .band (.int fl) (.int 128)=some (.int x)/\Av .ne (.int x) (.int 0)=some s128
 mo:∃x,AY .band (.int fl) (.int 32)=some (.int x)/\Av .ne (.int x) (.int 0)=some mo
 ins:∃x,AY .band (.int fl) (.int 256)=some (.int x)/\Av .ne (.int x) (.int 0)=some false
section
variable {h:Hp}{k:Nat}{W L:List Nat}{n:Nat}{i a b c d fl:Int}{mv wd s8 s64 s128 mo:Bool}
theorem iF {x:Int}(h0:0<=x)(h1:x<256):(A.den (n+1)).fn 44 [.int x] h=some (.int (if 128<=x then x - 256 else x),h):=by
 by_cases q:128<=x
 ·rw[if_pos q]
  exact fC 2 λK=>K (Lg q)
 ·rw[if_neg q]
  exact fC 2 λK=>K (DC ((Aj 0x1288200112882006) (Int.not_le.mp q)))
theorem XA (hk:k<h.length)(q:At W i (Aq a++(Aq b++L)))(f:Cg fl true true s8 s64 s128 mo)(h1: -32768<=a)(h2:a<=32767)(h3: -32768<=b)(h4:b<=32767):
  (A.den (n+4)).fn 45 [.ref k,.int fl] (put h k (oc W i))=some (.tup [.int a,.int b],put h k (oc W (i+2+2))):=by
 refine Ac f.mv λx1 u1 v1=>?_
 refine Ac f.wd λx2 u2 v2=>?_
 have r1:=BB (n:=n) hk q h1 h2
 have r2:=BB (n:=n) hk q.skip2 h3 h4
 exact fC 255 λK=>K u1 v1 u2 v2 (Bj hk rfl) r1 (Bj hk rfl) r2
theorem Z5 {a:Int}(h1: -128<=a)(h2:a<128):(A.den (n+1)).fn 44 [.int ((a%256).toNat:Int)] h=some (.int a,h):=by
 rw[Int.toNat_of_nonneg (Int.emod_nonneg a (by decide))]
 have r:=iF (n:=n) (h:=h) (Int.emod_nonneg a (b:=256) (by decide)) (Int.emod_lt_of_pos a (by decide))
 rw[r]
 congr 3
 split<;>lia
theorem YD (hk:k<h.length)(q:At W i ((a%256).toNat::(b%256).toNat::L))(f:Cg fl true false s8 s64 s128 mo)(h1: -128<=a)(h2:a<128)(h3: -128<=b)(h4:b<128):
  (A.den (n+4)).fn 45 [.ref k,.int fl] (put h k (oc W i))=some (.tup [.int a,.int b],put h k (oc W (i+1+1))):=by
 refine Ac f.mv λx1 u1 v1=>?_
 refine Ac f.wd λx2 u2 v2=>?_
 have r1:=CZ (n:=n+1) hk q
 have r2:=CZ (n:=n+1) hk q.step
 have r3:=Z5 (n:=n+2) (h:=put h k (oc W (i+1+1))) h1 h2
 have r4:=Z5 (n:=n+2) (h:=put h k (oc W (i+1+1))) h3 h4
 exact fC 1023 λK=>K u1 v1 u2 v2 (Bj hk rfl) r1 (Bj hk rfl) r2 r3 r4
theorem X7 (hk:k<h.length)(q:At W i (a.toNat::b.toNat::L))(f:Cg fl false false s8 s64 s128 mo)(h1:0<=a)(h3:0<=b):
  (A.den (n+4)).fn 45 [.ref k,.int fl] (put h k (oc W i))=some (.tup [.int a,.int b],put h k (oc W (i+1+1))):=by
 refine Ac f.mv λx1 u1 v1=>?_
 refine Ac f.wd λx2 u2 v2=>?_
 have r1:=CZ (n:=n+1) hk q
 have r2:=CZ (n:=n+1) hk q.step
 rw[Int.toNat_of_nonneg h1] at r1
 rw[Int.toNat_of_nonneg h3] at r2
 exact fC 255 λK=>K u1 v1 u2 v2 (Bj hk rfl) r1 (Bj hk rfl) r2
theorem er (f:Cg fl mv wd false false false mo):(A.den (n+4)).fn 43 [.ref k,.int fl] h=some (.tup [.int 16384,.int 0,.int 0,.int 16384],h):=by
 refine Ac f.s8 λx1 u1 v1=>?_
 refine Ac f.s64 λx2 u2 v2=>?_
 refine Ac f.s128 λx3 u3 v3=>?_
 exact fC 63 λK=>K u1 v1 u2 v2 u3 v3
theorem S7 (hk:k<h.length)(q:At W i (Aq a++L))(f:Cg fl mv wd true s64 s128 mo)(h1: -32768<=a)(h2:a<=32767):(A.den (n+4)).fn 43 [.ref k,.int fl] (put h k (oc W i))=some (.tup [.int a,.int 0,.int 0,.int a],put h k (oc W (i+2))):=by
 refine Ac f.s8 λx1 u1 v1=>?_
 have r1:=BB (n:=n) hk q h1 h2
 exact fC 15 λK=>K u1 v1 (Bj hk rfl) r1
theorem NV (hk:k<h.length)(q:At W i (Aq a++(Aq d++L)))(f:Cg fl mv wd false true s128 mo)(h1: -32768<=a)(h2:a<=32767)(h3: -32768<=d)(h4:d<=32767):(A.den (n+4)).fn 43 [.ref k,.int fl] (put h k (oc W i))=some (.tup [.int a,.int 0,.int 0,.int d],put h k (oc W (i+2+2))):=by
 refine Ac f.s8 λx1 u1 v1=>?_
 refine Ac f.s64 λx2 u2 v2=>?_
 have r1:=BB (n:=n) hk q h1 h2
 have r2:=BB (n:=n) hk q.skip2 h3 h4
 exact fC 255 λK=>K u1 v1 u2 v2 (Bj hk rfl) r1 (Bj hk rfl) r2
theorem NS (hk:k<h.length)(q:At W i (Aq a++(Aq b++(Aq c++(Aq d++L)))))(f:Cg fl mv wd false false true mo)(h1: -32768<=a)(h2:a<=32767)(h3: -32768<=b)(h4:b<=32767)(h5: -32768<=c)(h6:c<=32767)(h7: -32768<=d)(h8:d<=32767):
  (A.den (n+4)).fn 43 [.ref k,.int fl] (put h k (oc W i))=some (.tup [.int a,.int b,.int c,.int d],put h k (oc W (i+2+2+2+2))):=by
 refine Ac f.s8 λx1 u1 v1=>?_
 refine Ac f.s64 λx2 u2 v2=>?_
 refine Ac f.s128 λx3 u3 v3=>?_
 have r1:=BB (n:=n) hk q h1 h2
 have r2:=BB (n:=n) hk q.skip2 h3 h4
 have r3:=BB (n:=n) hk q.skip2.skip2 h5 h6
 have r4:=BB (n:=n) hk q.skip2.skip2.skip2 h7 h8
 exact fC 16383 λK=>K u1 v1 u2 v2 u3 v3 (Bj hk rfl) r1 (Bj hk rfl) r2 (Bj hk rfl) r3 (Bj hk rfl) r4
theorem JL {g:Int}{s:V}:(A.den (n+1)).ini 4 [.int g,.int a,.int b,.bool mv,s] h=some ([(9,.int g),(10,.int a),(11,.int b),(12,.bool mv),(13,s)],h):=by kernel_rfl
theorem Vy {a1 b1 a2 b2 g1 g2 f1 f2 i1 i2 i3 i4:Int}{m1 m2 w1 w2 t1 t2 t3 t4 t5 t6:Bool}{s1 s2:Sc}{R1 R2:List Nat}(hk:k<h.length)(q:At W i (Aq f1++(Aq g1++R1)))(q2:At W i2 (Aq f2++(Aq g2++R2)))
  (o1:Cg f1 m1 w1 t1 t2 t3 true)(o2:Cg f2 m2 w2 t4 t5 t6 false)
  (ra1:(A.den (n+4)).fn 45 [.ref k,.int f1] (put h k (oc W (i+2+2)))=some (.tup [.int a1,.int b1],put h k (oc W i1)))
  (rs1:(A.den (n+4)).fn 43 [.ref k,.int f1] (put h k (oc W i1))=some (s1.v,put h k (oc W i2)))
  (ra2:(A.den (n+4)).fn 45 [.ref k,.int f2] (put h k (oc W (i2+2+2)))=some (.tup [.int a2,.int b2],put h k (oc W i3)))
  (rs2:(A.den (n+4)).fn 43 [.ref k,.int f2] (put h k (oc W i3))=some (s2.v,put h k (oc W i4)))
  (Fw:0<=f1)(hf1':f1<65536)(hf2:0<=f2)(hf2':f2<65536)(hg1:0<=g1)(hg1':g1<65536)(hg2:0<=g2)(hg2':g2<65536):
  (A.den (n+5)).fn 46 [.ref k] (put h k (oc W i))=some (.tup [.lst [CN g1 a1 b1 m1 s1,CN g2 a2 b2 m2 s2],.bytes []],put h k (oc W i4)):=by
 have c1:=Et (n:=n+2) hk q Fw hf1'
 have c2:=Et (n:=n+2) hk q.skip2 hg1 hg1'
 have c3:=Et (n:=n+2) hk q2 hf2 hf2'
 have c4:=Et (n:=n+2) hk q2.skip2 hg2 hg2'
 refine Ac o1.mv λx1 u1 v1=>?_
 refine Ac o2.mv λx2 u2 v2=>?_
 refine Ac o1.mo λx3 u3 v3=>?_
 refine Ac o2.mo λx4 u4 v4=>?_
 refine Ac o2.ins λx5 u5 v5=>?_
 exact fC 8183062264 λK=>K (Bj hk rfl) c1 (Bj hk rfl) c2 ra1 u1 v1 rs1 JL u3 v3 (Bj hk rfl) c3 (Bj hk rfl) c4 ra2 u2 v2 rs2 JL u4 v4 u5 v5
end
end Mine.Internal.Q
end
section
set_option maxRecDepth 10000
namespace Mine.Internal.Q
theorem Q7 {α:Type}{d:α}:∀{h:List α}{k:Nat},k<h.length->nth (h++[d]) k=nth h k
 |[],_,q=>absurd q (Nat.not_lt_zero _)
 |_::_,0,_=>rfl
 |_::h,k+1,q=>Q7 (h:=h) (Nat.lt_of_succ_lt_succ q)
theorem HW {α:Type}{c d:α}:∀{h:List α},put (h++[c]) h.length d=h++[d]
 |[]=>rfl
 |a::h=>congrArg (a::·) (HW (h:=h))
theorem HN {α:Type}{c d x:α}{h:List α}{k:Nat}(e:nth h k=some x):nth (put (h++[c]) h.length d) k=some x:=by
 rw[HW,Q7 (Bh e),e]
theorem Ra {α:Type}{d:α}:∀{h:List α}{k:Nat},(put h k d).length=h.length
 |[],_=>rfl
 |_::_,0=>rfl
 |_::h,k+1=>congrArg (·+1) (Ra (h:=h) (k:=k))
theorem Kf {α:Type}{c:α}{h:List α}:h.length<(h++[c]).length:=by rw[List.length_append];exact Nat.lt_succ_self _
section
variable {h:Hp}{k n:Nat}{G:List Nat}{P:V}{a b:Int}
noncomputable def AL (G:List Nat)(P:V)(a b:Int):Cell:=.ins 5 [(7,.bytes G),(14,P),(15,.lst [.int a,.int b])]
theorem Z2 {x y:Int}(hk:nth h k=some (.ins 5 [(7,.bytes G),(14,P),(15,.lst [.int a,.int b])]))(h1:a+x<=4096)(h2:b+y<=1048576):(A.den (n+1)).fn 51 [.ref k,.int x,.int y] h=some (.none,put h k (.ins 5 [(7,.bytes G),(14,P),(15,.lst [.int (a+x),.int (b+y)])])):=by
 have hl:=Bh hk
 exact fC 23177 λK=>K (CD hk (by decide) rfl) (CD hk (by decide) rfl) hk (CD (AP hl) (by decide) rfl) (Fo h1) (CD (AP hl) (by decide) rfl) (Fo h2)
theorem S_ {x y:Int}(hk:nth h k=some (AL G P a b))(h1:a+x<=4096)(h2:b+y<=1048576):(A.den (n+1)).fn 51 [.ref k,.int x,.int y] h=some (.none,put h k (AL G P (a+x) (b+y))):=Z2 hk h1 h2
theorem EA {m f:Nat}(hk:nth h k=some (AL G P a b))(q:A.tb.mth 5 m=some f):CX A.tb (.ref k) m h=some f:=by
 show(match nth h k with|some (.ins c _)=>A.tb.mth c m|_=>none)=_
 rw[hk];exact q
theorem Ja {B:List Nat}:(A.den (n+1)).ini 3 [.bytes B] h=some ([(7,.bytes B),(8,.int 0)],h):=by kernel_rfl
theorem N3 {B:List Nat}:h++[.ins 3 [(7,.bytes B),(8,.int 0)]]=put (h++[oc B 0]) h.length (oc B 0):=HW.symm
noncomputable def HX:List S:=A.f_GlyphTable_outline_b.drop 1
theorem ZW {p q r s:Pt}{ins:List Nat}:(A.den (n+1)).fn 1 [A7 [[p,q,r,s]] ins] h=some (.lst [Bm p,Bm q,Bm r,Bm s],h):=by kernel_rfl
theorem bj {p q r s:V}:Be .len [.lst [p,q,r,s]]=some (.int 4):=rfl
theorem bO {g m:Int}{ab:List V}{B bx L L' L'':List Nat}{f0 f1 f2 f3:Nat}{x0 x1 x2 x3 y0 y1 y2 y3:Int}(hk:nth h k=some (AL G P a b))(hgl:(A.den (n+5)).fn 49 [.ref k,.int g] h=some (.bytes B,h))
  (q:At B 0 (Aq 1++(bx++(Aq 3++(Aq 0++(f0::f1::f2::f3::L))))))(hbx:bx.length=8)(hne:Av .eq (.bytes B) (.bytes [])=some false)(hin:Av .isIn (.int g) (.tup ab)=some false)(hlen:Be .len [.tup ab]=some (.int m))(hm:m<8)
  (ha:f0<256)(hb:f1<256)(hc:f2<256)(hd:f3<256)
  (ea:Nat.beq (f0 &&& 8) 0=true)(eb:Nat.beq (f1 &&& 8) 0=true)(ec:Nat.beq (f2 &&& 8) 0=true)(ed:Nat.beq (f3 &&& 8) 0=true)
  (oa:Nat.beq (f0 &&& 1) 0=false)(ob:Nat.beq (f1 &&& 1) 0=false)(o3:Nat.beq (f2 &&& 1) 0=false)(od:Nat.beq (f3 &&& 1) 0=false)
  (ex:FO 2 16 [f0,f1,f2,f3] L 0=some ([x0,x1,x2,x3],L'))(ey:FO 4 32 [f0,f1,f2,f3] L' 0=some ([y0,y1,y2,y3],L''))(h2:a+0<=4096)(h3:b+4<=1048576):
  ∃h' r',Bd A.tb (A.den (n+5)) HX ⟨[.val (.ref k),.val (.int g),.val (.tup ab),.un,.un,.un,.un,.un,.un,.un,.un],h⟩=some (.ret (A7 [[(x0,y0),(x1,y1),(x2,y2),(x3,y3)]] []),⟨r',h'⟩)/\nth h' k=some (AL G P (a+0) (b+4)):=by
 have hK:h.length<(h++[oc B 0]).length:=Kf
 have r1:=BB (n:=n+2) hK q (by decide) (by decide)
 have r2:=IL (n:=n+3) (m:=8) hK q.skip2 (by rw[hbx];rfl)
 have q2:=q.skip2.skip
 rw[hbx] at q2
 refine AA (Ul (n:=n) hK q2 ha hb hc hd ea eb ec ed oa ob o3 od ex ey) λi' r3=>?_
 have r4:=S_ (n:=n+4) (x:=0) (y:=4) (HN (c:=oc B 0) (d:=oc B i') hk) h2 h3
 have hl:k<(put (h++[oc B 0]) h.length (oc B i')).length:=by rw[Ra];exact Nat.lt_trans (Bh hk) hK
 refine⟨put (put (h++[oc B 0]) h.length (oc B i')) k (AL G P (a+0) (b+4)),[.val (.ref k),.val (.int g),.val (.tup ab),.val (.ref h.length),.val (.int 1),.val (A7 [[(x0,y0),(x1,y1),(x2,y2),(x3,y3)]] []),.un,.un,.un,.un,.un],?_,AP hl⟩
 clear q q2 ex ey
 exact xC 1040383 λK=>K (EA hk rfl) hgl Ja N3 (DU hK) hne hin hlen (DC hm) (Bj hK rfl) r1 (Bj hK rfl) r2 r3 (EA (HN hk) rfl) (E5 rfl) ZW bj r4
end
end Mine.Internal.Q
end
section
set_option maxRecDepth 10000
namespace Mine.Internal.Q
section
variable {h:Hp}{k n:Nat}{G:List Nat}{P:V}{a b:Int}
theorem OV {F X:List (List Pt)}(h:F.length+X.length<=1000):AY .add (Aw F) (Aw X)=some (Aw (F++X)):=by
 have:=OZ (a:=F.map AF) (b:=X.map AF) (by rw[List.length_append,List.length_map,List.length_map];exact((AR 0x1188888888211013211fd82110139) h))
 rw[<-List.map_append] at this
 exact this
theorem YA {X:List (List Pt)}(h:X.length<=1000):AY .add (.lst []) (Aw X)=some (Aw X):=OV (F:=[]) (by rw[List.length_nil];exact((Ao 0x11fd8201023211fd82019) h))
noncomputable def RO (nn:Nat)(k:Nat)(G:List Nat)(P:V)(g:Int)(ab:List V)(cs:List (List Pt))(u v:Int):Prop:=
 ∀h a b,nth h k=some (AL G P a b)->a+u<=4096->b+v<=1048576->∃h' a' b',(A.den nn).fn 50 [.ref k,.int g,.tup ab] h=some (A7 cs [],h')/\nth h' k=some (AL G P a' b')/\a'<=a+u/\b'<=b+v
theorem TX {g m u v u2 v2:Int}{ab ab2:List V}{B bx L:List Nat}{g1 g2 a1 b1 a2 b2:Int}{m1 m2:Bool}{s1 s2:Sc}{cs1 cs2 X1 X2:List (List Pt)}(hk:nth h k=some (AL G P a b))(hgl:(A.den (n+6)).fn 49 [.ref k,.int g] h=some (.bytes B,h))
  (q:At B 0 (Aq (-1)++(bx++L)))(hbx:bx.length=8)(hne:Av .eq (.bytes B) (.bytes [])=some false)(hin:Av .isIn (.int g) (.tup ab)=some false)(hlen:Be .len [.tup ab]=some (.int m))(hm:m<8)
  (hadd:AY .add (.tup ab) (.tup [.int g])=some (.tup ab2))
  (rp:∀h k,k<h.length->∃i4,(A.den (n+6)).fn 46 [.ref k] (put h k (oc B 10))=some (.tup [.lst [CN g1 a1 b1 m1 s1,CN g2 a2 b2 m2 s2],.bytes []],put h k (oc B i4)))
  (I1:RO (n+6) k G P g1 ab2 cs1 u v)(I2:RO (n+6) k G P g2 ab2 cs2 u2 v2)
  (P1:∀h,(A.den (n+6)).fn 52 [CN g1 a1 b1 m1 s1,Aw cs1,.lst []] h=some (Aw X1,h))(P2:∀h,(A.den (n+6)).fn 52 [CN g2 a2 b2 m2 s2,Aw cs2,Aw X1] h=some (Aw X2,h))
  (hX:X1.length+X2.length<=1000)
  (hu:0<=u)(hu2:0<=u2)(hv:0<=v)(hv2:0<=v2)(h2:a+(2+u+u2)<=4096)(h3:b+(v+v2)<=1048576):
  ∃h' r' a' b',Bd A.tb (A.den (n+6)) HX ⟨[.val (.ref k),.val (.int g),.val (.tup ab),.un,.un,.un,.un,.un,.un,.un,.un],h⟩=some (.ret (A7 (X1++X2) []),⟨r',h'⟩)/\nth h' k=some (AL G P a' b')/\a'<=a+(2+u+u2)/\b'<=b+(v+v2):=by
 have hK:h.length<(h++[oc B 0]).length:=Kf
 have r1:=BB (n:=n+3) hK q (by decide) (by decide)
 have r2:=IL (n:=n+4) (m:=8) hK q.skip2 (by rw[hbx];rfl)
 obtain⟨i4,r3⟩:=rp _ _ hK
 have k1:nth (put (h++[oc B 0]) h.length (oc B i4)) k=some (AL G P a b):=HN hk
 have r4:=S_ (n:=n+5) (x:=1) (y:=0) k1 (by exact((FI 0x11888821220301188882100022332035110025100025) hu hu2 h2)) (by exact((FI 0x148888882022030148888882100032035110025100025) hv hv2 h3))
 have k2:=AP (c:=AL G P (a+1) (b+0)) (Bh k1)
 refine MC (I1 _ _ _ k2 (by exact((FI 0x11888822012103301188882002022331035100025) hu2 h2)) (by exact((FI 0x148888882200210330148888882002031035100025) hv2 h3))) λh5 a5 b5 r5 k5 l1 l2=>?_
 have r6:=P1 h5
 have r7:=S_ (n:=n+5) (x:=1) (y:=0) k5 (by exact((Ht 0x11888821230301201210333051188882002022331035100025) hu2 h2 l1)) (by exact((Ht 0x148888882023030120021033305148888882002031035100025) hv2 h3 l2))
 have k7:=AP (c:=AL G P (a5+1) (b5+0)) (Bh k5)
 refine MC (I2 _ _ _ k7 (by exact((Ht 0x11888822012303301101200333051188882201022330035) h2 l1)) (by exact((Ht 0x148888882200230330110020033305148888882201030035) h3 l2))) λh8 a8 b8 r8 k8 l3 l4=>?_
 have r9:=P2 h8
 refine⟨h8,[.val (.ref k),.val (.int g),.val (.tup ab),.val (.ref h.length),.val (.int (-1)),.un,.val (.lst [CN g1 a1 b1 m1 s1,CN g2 a2 b2 m2 s2]),.val (.bytes []),.val (Aw (X1++X2)),.val (CN g2 a2 b2 m2 s2),.val (A7 cs2 [])],a8,b8,?_,k8,by exact((Xb 0x140202233103300140120033305120121033005) l1 l3),by exact((Xb 0x140203103300140020033305120021033005) l2 l4)⟩
 clear rp I1 I2 P1 P2
 exact xC 1017827057663 λK=>K (EA hk rfl) hgl Ja N3 (DU hK) hne hin hlen (DC hm) (Bj hK rfl) r1 (Bj hK rfl) r2 r3 (EA k1 rfl) r4 (EA k2 rfl) hadd r5 r6 (YA ((AR 0x11fd8201210211411fd82110139) hX)) (EA k5 rfl) r7 (EA k7 rfl) hadd r8 r9 (OV hX) KZ
theorem QL {D:Den}{g:Int}{ab:List V}{x:Fl×St}(hne:Av .eq (.tup ab) (.tup [])=some false)(e:Bd A.tb D HX ⟨[.val (.ref k),.val (.int g),.val (.tup ab),.un,.un,.un,.un,.un,.un,.un,.un],h⟩=some x):
  Bd A.tb D A.f_GlyphTable_outline_b ⟨[.val (.ref k),.val (.int g),.val (.tup ab),.un,.un,.un,.un,.un,.un,.un,.un],h⟩=some x:=by
 refine WE (jC:=⟨[.val (.ref k),.val (.int g),.val (.tup ab),.un,.un,.un,.un,.un,.un,.un,.un],h⟩) ?_ e
 exact xC 2 λK=>K hne
theorem IT {D:Den}{g:Int}{x:Fl×St}(hk:nth h k=some (.ins 5 [(7,.bytes G),(14,P),(15,.lst [.int a,.int b])]))(e:Bd A.tb D HX ⟨[.val (.ref k),.val (.int g),.val (.tup []),.un,.un,.un,.un,.un,.un,.un,.un],put h k (.ins 5 [(7,.bytes G),(14,P),(15,.lst [.int 0,.int 0])])⟩=some x):
  Bd A.tb D A.f_GlyphTable_outline_b ⟨[.val (.ref k),.val (.int g),.val (.tup []),.un,.un,.un,.un,.un,.un,.un,.un],h⟩=some x:=by
 refine WE (jC:=⟨[.val (.ref k),.val (.int g),.val (.tup []),.un,.un,.un,.un,.un,.un,.un,.un],put h k (.ins 5 [(7,.bytes G),(14,P),(15,.lst [.int 0,.int 0])])⟩) ?_ e
 exact xC 8 λK=>K hk
theorem ZH {g:Int}{ab:List V}{v:V}{r':Bf}{h':Hp}(e:Bd A.tb (A.den n) A.f_GlyphTable_outline_b ⟨[.val (.ref k),.val (.int g),.val (.tup ab),.un,.un,.un,.un,.un,.un,.un,.un],h⟩=some (.ret v,⟨r',h'⟩)):(A.den (n+1)).fn 50 [.ref k,.int g,.tup ab] h=some (v,h'):=
 W_ (f:=A.f_GlyphTable_outline) rfl rfl e rfl rfl
theorem RT {g:Int}{v:V}{r':Bf}{h':Hp}(e:Bd A.tb (A.den n) A.f_GlyphTable_outline_b ⟨[.val (.ref k),.val (.int g),.val (.tup []),.un,.un,.un,.un,.un,.un,.un,.un],h⟩=some (.ret v,⟨r',h'⟩)):(A.den (n+1)).fn 50 [.ref k,.int g] h=some (v,h'):=
 W_ (f:=A.f_GlyphTable_outline) rfl rfl e rfl rfl
end
end Mine.Internal.Q
end
section
set_option maxRecDepth 10000
namespace Mine.Internal.Q
noncomputable def Bu (x y w t:Int)(rev:Bool):List Pt:=match rev with
 |false=>[(x,y),(x+w,y),(x+w,y+t),(x,y+t)]
 |true=>[(x,y+t),(x+w,y+t),(x+w,y),(x,y)]
noncomputable def gD (st:Int)(sh sa:Nat):Nat:=if st=0 then sa else if 0<st then sh|||sa else sh
noncomputable def MG (st:Int):List Nat:=if st=0 then[] else[st.natAbs]
noncomputable def Xj (dx dy:Int):Nat:=gD dx 2 16|||gD dy 4 32|||1
noncomputable def Zx (p q r s:Pt)(bx:List Nat):List Nat:=Aq 1++(bx++(Aq 3++(Aq 0++(Xj p.1 p.2::Xj (q.1 - p.1) (q.2 - p.2)::Xj (r.1 - q.1) (r.2 - q.2)::Xj (s.1 - r.1) (s.2 - r.2)::
 (MG p.1++(MG (q.1 - p.1)++(MG (r.1 - q.1)++(MG (s.1 - r.1)++(MG p.2++(MG (q.2 - p.2)++(MG (r.2 - q.2)++MG (s.2 - r.2))))))))))))
noncomputable def C8 (x y w t:Int)(rev:Bool):List Nat:=match rev with
 |false=>Zx (x,y) (x+w,y) (x+w,y+t) (x,y+t) (Aq x++Aq y++Aq (x+w)++Aq (y+t))
 |true=>Zx (x,y+t) (x+w,y+t) (x+w,y) (x,y) (Aq x++Aq y++Aq (x+w)++Aq (y+t))
theorem Sb {a b c:Int}(h:a=b\/a=c):a∈[b,c]:=List.mem_cons.mpr (h.imp id List.mem_singleton.mpr)
noncomputable def WZ:List (Int×Int×Int×Int):=[0,8].flatMap λx=>[-8,0,8].flatMap λy=>[8,16].flatMap λw=>[8,16].map λt=>(x,y,w,t)
noncomputable def BZ (x y w t:Int):Prop:=(x,y,w,t)∈WZ
section
variable {x y w t:Int}
theorem BZ.of (hx:x=0\/x=8)(hy:y= -8\/y=0\/y=8)(hw:w=8\/w=16)(ht:t=8\/t=16):BZ x y w t:=
 List.mem_flatMap.mpr ⟨x,Sb hx,List.mem_flatMap.mpr ⟨y,List.mem_cons.mpr (hy.imp id Sb),List.mem_flatMap.mpr ⟨w,Sb hw,List.mem_map.mpr ⟨t,Sb ht,rfl⟩⟩⟩⟩
theorem Gj {P:Int×Int×Int×Int->Bool}(e:WZ.all P=true)(q:BZ x y w t):P (x,y,w,t)=true:=List.all_eq_true.mp e _ q
theorem NQ {α:Type}{f g:Int×Int×Int×Int->α}(e:WZ.map f=WZ.map g)(q:BZ x y w t):f (x,y,w,t)=g (x,y,w,t):=List.map_inj_left.mp e _ q
theorem Uy {n:Nat}{h:Hp}{rev:Bool}(q:BZ x y w t):(A.den (n+4)).fn 85 [A7 [Bu x y w t rev] []] h=some (.bytes (C8 x y w t rev),h):=by
 cases rev
 ·exact NQ (f:=λr=>(A.den (n+4)).fn 85 [A7 [Bu r.1 r.2.1 r.2.2.1 r.2.2.2 false] []] h) (g:=λr=>some (.bytes (C8 r.1 r.2.1 r.2.2.1 r.2.2.2 false),h)) (by kernel_rfl) q
 ·exact NQ (f:=λr=>(A.den (n+4)).fn 85 [A7 [Bu r.1 r.2.1 r.2.2.1 r.2.2.2 true] []] h) (g:=λr=>some (.bytes (C8 r.1 r.2.1 r.2.2.1 r.2.2.2 true),h)) (by kernel_rfl) q
theorem Tw {n:Nat}{h:Hp}{rev:Bool}(q:BZ x y w t):(A.den (n+2)).fn 3 [A7 [Bu x y w t rev] []] h=some (.tup [.int x,.int y,.int (x+w),.int (y+t)],h):=by
 cases rev
 ·exact NQ (f:=λr=>(A.den (n+2)).fn 3 [A7 [Bu r.1 r.2.1 r.2.2.1 r.2.2.2 false] []] h) (g:=λr=>some (.tup [.int r.1,.int r.2.1,.int (r.1+r.2.2.1),.int (r.2.1+r.2.2.2)],h)) (by kernel_rfl) q
 ·exact NQ (f:=λr=>(A.den (n+2)).fn 3 [A7 [Bu r.1 r.2.1 r.2.2.1 r.2.2.2 true] []] h) (g:=λr=>some (.tup [.int r.1,.int r.2.1,.int (r.1+r.2.2.1),.int (r.2.1+r.2.2.2)],h)) (by kernel_rfl) q
end
theorem YK {sh sa f:Nat}{Z L:List Nat}{a:Int}{p:Int×List Nat}(h:Rq sh sa f L a=some p):Rq sh sa f (L++Z) a=some (p.1,p.2++Z):=by
 unfold Rq at h ⊢
 cases q:Nat.beq (f &&& sh) 0<;>rw[q] at h
 ·cases L with
  |nil=>exact(ns h).elim
  |cons b L=>cases q:Nat.beq (f &&& sa) 0<;>rw[q] at h<;>rw[<-s1 h]<;>rfl
 ·cases q:Nat.beq (f &&& sa) 0<;>rw[q] at h
  ·rw[<-s1 h]
  ·exact(ns h).elim
theorem Lz {sh sa:Nat}{Z:List Nat}:∀{fs L:List Nat}{a:Int}{r:List Int×List Nat},FO sh sa fs L a=some r->FO sh sa fs (L++Z) a=some (r.1,r.2++Z)
 |[],L,a,r,h=>by rw[<-s1 h];rfl
 |f::fs,L,a,r,h=>Ai h λp e1 h=>CG h λr e2=>Am (YK e1) (mp (Lz (r:=r) e2))
noncomputable def F3 (f:Nat):Bool:=Nat.blt f 256&&(Nat.beq (f &&& 8) 0&&!Nat.beq (f &&& 1) 0)
noncomputable def cP (F L:List Nat):Option (List Int×List Int):=(FO 2 16 F L 0).bind λx=>(FO 4 32 F x.2 0).map λy=>(x.1,y.1)
noncomputable def bZ (B bx:List Nat)(p q r s:Pt):List Nat->Bool
 |f0::f1::f2::f3::L=>decide (B=Aq 1++(bx++(Aq 3++(Aq 0++(f0::f1::f2::f3::L)))))&&(Nat.beq bx.length 8&&(Nat.ble B.length 100&&((F3 f0&&F3 f1)&&((F3 f2&&F3 f3)&&decide (cP [f0,f1,f2,f3] L=some ([p.1,q.1,r.1,s.1],[p.2,q.2,r.2,s.2]))))))
 |_=>false
noncomputable def Fb (B:List Nat)(p q r s:Pt):Bool:=bZ B ((B.drop 2).take 8) p q r s (B.drop 14)
theorem iD {P X R Z:List Nat}:(P++(X++R))++Z=P++(X++(R++Z)):=by rw[List.append_assoc,List.append_assoc]
theorem JE {f:Nat}{M:Prop}(h:F3 f=true)(k:f<256->Nat.beq (f &&& 8) 0=true->Nat.beq (f &&& 1) 0=false->M):M:=
 Ab h λh1 h=>Ab h λh2 h3=>k (Nat.le_of_ble_eq_true h1) h2 (B_ h3)
theorem eU {B bx:List Nat}{p q r s:Pt}{M:Prop}(k:∀f0 f1 f2 f3 L,B=Aq 1++(bx++(Aq 3++(Aq 0++(f0::f1::f2::f3::L))))->bx.length=8->B.length<=100->F3 f0=true->F3 f1=true->F3 f2=true->F3 f3=true->cP [f0,f1,f2,f3] L=some ([p.1,q.1,r.1,s.1],[p.2,q.2,r.2,s.2])->M):∀{F:List Nat},bZ B bx p q r s F=true->M
 |f0::f1::f2::f3::L,h=>Ab h λh1 h=>Ab h λh2 h=>Ab h λh3 h=>Ab h λh4 h=>Ab h λh5 h6=>Ab h4 λg0 g1=>Ab h5 λg2 g3=>
  k f0 f1 f2 f3 L (of_decide_eq_true h1) (Nat.eq_of_beq_eq_true h2) (Nat.le_of_ble_eq_true h3) g0 g1 g2 g3 (of_decide_eq_true h6)
 |[],h=>(ft h).elim
 |[_],h=>(ft h).elim
 |[_,_],h=>(ft h).elim
 |[_,_,_],h=>(ft h).elim
theorem dK {F L Z:List Nat}{x y:List Int}{M:Prop}(h:cP F L=some (x,y))(k:∀L' L'',FO 2 16 F (L++Z) 0=some (x,L')->FO 4 32 F L' 0=some (y,L'')->M):M:=
 Ai h λp e1 h=>by
  refine Ac (Option.map_eq_some_iff.1 h) λq e2 e3=>?_
  have e:=Prod.mk.inj e3
  exact k _ _ (e.1▸Lz e1) (e.2▸Lz e2)
theorem iz {x y w t:Int}(q:BZ x y w t):Fb (C8 x y w t false) (x,y) (x+w,y) (x+w,y+t) (x,y+t)=true:=
 Gj (P:=λr=>Fb (C8 r.1 r.2.1 r.2.2.1 r.2.2.2 false) (r.1,r.2.1) (r.1+r.2.2.1,r.2.1) (r.1+r.2.2.1,r.2.1+r.2.2.2) (r.1,r.2.1+r.2.2.2)) (by kernel_rfl) q
theorem ib {x y w t:Int}(q:BZ x y w t):Fb (C8 x y w t true) (x,y+t) (x+w,y+t) (x+w,y) (x,y)=true:=
 Gj (P:=λr=>Fb (C8 r.1 r.2.1 r.2.2.1 r.2.2.2 true) (r.1,r.2.1+r.2.2.2) (r.1+r.2.2.1,r.2.1+r.2.2.2) (r.1+r.2.2.1,r.2.1) (r.1,r.2.1)) (by kernel_rfl) q
section
variable {k n:Nat}{G:List Nat}{P:V}
theorem Oi {g m a b:Int}{h:Hp}{ab:List V}{B Z:List Nat}{p q r s:Pt}(S:Fb B p q r s=true)(hZ:Z.length<=100)(hk:nth h k=some (AL G P a b))(hgl:(A.den (n+5)).fn 49 [.ref k,.int g] h=some (.bytes (B++Z),h))
  (hin:Av .isIn (.int g) (.tup ab)=some false)(hlen:Be .len [.tup ab]=some (.int m))(hm:m<8)(h1:a+0<=4096)(h2:b+4<=1048576):
  ∃h' r',Bd A.tb (A.den (n+5)) HX ⟨[.val (.ref k),.val (.int g),.val (.tup ab),.un,.un,.un,.un,.un,.un,.un,.un],h⟩=some (.ret (A7 [[p,q,r,s]] []),⟨r',h'⟩)/\nth h' k=some (AL G P (a+0) (b+4)):=
 eU (λf0 f1 f2 f3 L hB hbx hl g0 g1 g2 g3 hr=>JE g0 λl0 e0 o0=>JE g1 λl1 e1 o1=>JE g2 λl2 e2 o2=>JE g3 λl3 e3 o3=>dK (Z:=Z) hr λL' L'' d1 d2=>by
  have hE:B++Z=Aq 1++(((B.drop 2).take 8)++(Aq 3++(Aq 0++(f0::f1::f2::f3::(L++Z))))):=(congrArg (·++Z) hB).trans iD
  exact bO (n:=n) (ab:=ab) hk hgl (At.all hE (lb (la hl hZ))) hbx (by rw[hE];rfl) hin hlen hm l0 l1 l2 l3 e0 e1 e2 e3 o0 o1 o2 o3 d1 d2 h1 h2) S
theorem Lx {g:Int}{ab:List V}{m:Int}{B Z:List Nat}{p q r s:Pt}(S:Fb B p q r s=true)(hZ:Z.length<=100)(hgl:∀h a b,nth h k=some (AL G P a b)->(A.den (n+5)).fn 49 [.ref k,.int g] h=some (.bytes (B++Z),h))
  (hne:Av .eq (.tup ab) (.tup [])=some false)(hin:Av .isIn (.int g) (.tup ab)=some false)(hlen:Be .len [.tup ab]=some (.int m))(hm:m<8):RO (n+6) k G P g ab [[p,q,r,s]] 0 4:=by
 intro h a b hk h1 h2
 refine Hl (Oi S hZ hk (hgl h a b hk) hin hlen hm h1 h2) λh' r' e k'=>?_
 exact⟨h',a+0,b+4,ZH (QL hne e),k',Int.le_refl _,Int.le_refl _⟩
theorem Vr {g:Int}{B Z:List Nat}{p q r s:Pt}(S:Fb B p q r s=true)(hZ:Z.length<=100)(hgl:∀h a b,nth h k=some (AL G P a b)->(A.den (n+5)).fn 49 [.ref k,.int g] h=some (.bytes (B++Z),h))
  {h:Hp}{a b:Int}(hk:nth h k=some (AL G P a b)):∃h' a' b',(A.den (n+6)).fn 50 [.ref k,.int g] h=some (A7 [[p,q,r,s]] [],h')/\nth h' k=some (AL G P a' b'):=by
 have hk0:nth (put h k (AL G P 0 0)) k=some (AL G P 0 0):=AP (Bh hk)
 refine Hl (Oi (n:=n) (ab:=[]) (m:=0) S hZ hk0 (hgl _ 0 0 hk0) rfl rfl (by decide) (by decide) (by decide)) λh' r' e k'=>?_
 exact⟨h',0+0,0+4,RT (IT hk e),k'⟩
end
end Mine.Internal.Q
end
section
set_option maxRecDepth 10000
namespace Mine.Internal.Q
structure PR where
 g:Int
 w:AD
 hf:Bool
 mv:Bool
 a:Int
 b:Int
structure PR.ok (p:PR):Prop where
 g0:0<=p.g
 g1:p.g<65536
 m:p.mv=true-> -32768<=p.a/\p.a<=32767/\ -32768<=p.b/\p.b<=32767
 f:p.mv=false->0<=p.a/\p.a<256/\0<=p.b/\p.b<256
noncomputable def PR.v (p:PR):V:=CN p.g p.a p.b p.mv (p.w.sc p.hf)
noncomputable def GX (mo:Bool):Int:=match mo with|true=>32|false=>0
noncomputable def PR.fl (p:PR)(mo:Bool):Int:=B8 p.mv p.a p.b+p.w.flg p.hf+GX mo
theorem Tv {a b:Int}(h:DM a b=true): -128<=a/\a<128/\ -128<=b/\b<128:=by
 simp only[DM,Bool.and_eq_true,decide_eq_true_eq] at h;exact⟨((Aj 0x100288270100288275) h.1.1.1),⟨((Aj 0x1288200112882006) h.1.1.2),⟨((Aj 0x100288270100288275) h.1.2),((Aj 0x1288200112882006) h.2)⟩⟩⟩
theorem ai {a b:Int}(h:DM a b=false):a< -128\/128<=a\/(-128<=a/\a<128/\b< -128)\/(-128<=a/\a<128/\128<=b):=by
 by_cases q1: -128<=a
 ·by_cases q2:a<128
  ·by_cases q3: -128<=b
   ·by_cases q4:b<128
    ·unfold DM at h;rw[decide_eq_true q1,decide_eq_true q2,decide_eq_true q3,decide_eq_true q4] at h;exact(tf h).elim
    ·exact .inr (.inr (.inr ⟨q1,q2,Int.not_lt.1 q4⟩))
   ·exact .inr (.inr (.inl ⟨q1,q2,Int.not_le.1 q3⟩))
  ·exact .inr (.inl (Int.not_lt.1 q2))
 ·exact .inl (Int.not_le.1 q1)
theorem dW {C:Int->Prop}(h0:C 0)(h2:C 2)(h3:C 3){mv:Bool}{a b:Int}:C (B8 mv a b):=by
 unfold B8;cases mv
 ·exact h0
 ·cases DM a b
  ·exact h3
  ·exact h2
theorem hJ (mv:Bool)(a b:Int):(B8 mv a b=0/\mv=false)\/(B8 mv a b=2/\mv=true/\DM a b=true)\/(B8 mv a b=3/\mv=true/\DM a b=false):=by
 unfold B8;cases mv
 ·exact .inl ⟨rfl,rfl⟩
 ·cases h:DM a b
  ·exact .inr (.inr ⟨rfl,rfl,rfl⟩)
  ·exact .inr (.inl ⟨rfl,rfl,rfl⟩)
noncomputable def AD.s8 (w:AD)(hf:Bool):Bool:=match w,hf with
 |.asis,true=>true
 |.about,_=>true
 |_,_=>false
noncomputable def AD.s64 (w:AD):Bool:=match w with
 |.left=>true
 |.low=>true
 |_=>false
noncomputable def AD.s128 (w:AD):Bool:=match w with
 |.quarter=>true
 |.back=>true
 |_=>false
noncomputable def Wq (o:Option V)(y:Int):Bool:=match o with
 |some (.int x)=>decide (x=y)
 |_=>false
theorem Th {o:Option V}{y:Int}(h:Wq o y=true):o=some (.int y):=by
 cases o with
 |none=>exact(nomatch (show false=true from h))
 |some v=>cases v<;>first|exact congrArg (λz=>some (V.int z)) (of_decide_eq_true h)|exact(nomatch (show false=true from h))
noncomputable def gd (F m:Int):Int:=(Nat.land F.toNat m.toNat:Nat)
noncomputable def gM (F m:Int)(b:Bool):Bool:=Wq (AY .band (.int F) (.int m)) (gd F m)&&(Av .ne (.int (gd F m)) (.int 0)==some b)
theorem cW {F m:Int}{b:Bool}(h:gM F m b=true):∃x,AY .band (.int F) (.int m)=some (.int x)/\Av .ne (.int x) (.int 0)=some b:=
 ⟨_,Th (Bool.and_eq_true_iff.1 h).1,eq_of_beq (Bool.and_eq_true_iff.1 h).2⟩
noncomputable def IG (F:Int)(mv wd s8 s64 s128 mo:Bool):Bool:=[(2,mv),(1,wd),(8,s8),(64,s64),(128,s128),(32,mo),(256,false)].all λp=>gM F p.1 p.2
theorem Cg.of {F:Int}{mv wd s8 s64 s128 mo:Bool}(h:IG F mv wd s8 s64 s128 mo=true):Cg F mv wd s8 s64 s128 mo:=by
 have h:=λp hp=>cW (List.all_eq_true.1 h p hp)
 exact⟨h (2,mv) (.head _),h (1,wd) (.tail _ (.head _)),h (8,s8) (.tail _ (.tail _ (.head _))),h (64,s64) (.tail _ (.tail _ (.tail _ (.head _)))),h (128,s128) (.tail _ (.tail _ (.tail _ (.tail _ (.head _))))),
  h (32,mo) (.tail _ (.tail _ (.tail _ (.tail _ (.tail _ (.head _)))))),h (256,false) (.tail _ (.tail _ (.tail _ (.tail _ (.tail _ (.tail _ (.head _)))))))⟩
noncomputable def Rh (A S:Int):Bool:=(Wq (AY .bor (.int A) (.int S)) (A+S)&&Wq (AY .bor (.int (A+S)) (.int 32)) (A+S+32))&&(decide (0<=A+S)&&decide (A+S<60000))
theorem jy {A S:Int}(h:Rh A S=true):(AY .bor (.int A) (.int S)=some (.int (A+S))/\AY .bor (.int (A+S)) (.int 32)=some (.int (A+S+32)))/\0<=A+S/\A+S<60000:=
 have⟨h,g⟩:=Bool.and_eq_true_iff.1 h
 have⟨h1,h2⟩:=Bool.and_eq_true_iff.1 h
 have⟨g1,g2⟩:=Bool.and_eq_true_iff.1 g
 ⟨⟨Th h1,Th h2⟩,of_decide_eq_true g1,of_decide_eq_true g2⟩
theorem PA (w:AD)(hf:Bool)(mo:Bool){A:Int}{mv wd:Bool}(hA:(A=0/\mv=false/\wd=false)\/(A=2/\mv=true/\wd=false)\/(A=3/\mv=true/\wd=true)):Cg (A+w.flg hf+GX mo) mv wd (w.s8 hf) w.s64 w.s128 mo:=by
 have h:((IG (0+w.flg hf+GX mo) false false (w.s8 hf) w.s64 w.s128 mo&&IG (2+w.flg hf+GX mo) true false (w.s8 hf) w.s64 w.s128 mo)&&IG (3+w.flg hf+GX mo) true true (w.s8 hf) w.s64 w.s128 mo)=true:=by
  cases mo
  ·exact Ds (C:=λw hf=>((IG (0+w.flg hf+GX false) false false (w.s8 hf) w.s64 w.s128 false&&IG (2+w.flg hf+GX false) true false (w.s8 hf) w.s64 w.s128 false)&&IG (3+w.flg hf+GX false) true true (w.s8 hf) w.s64 w.s128 false)) (by kernel_rfl) w hf
  ·exact Ds (C:=λw hf=>((IG (0+w.flg hf+GX true) false false (w.s8 hf) w.s64 w.s128 true&&IG (2+w.flg hf+GX true) true false (w.s8 hf) w.s64 w.s128 true)&&IG (3+w.flg hf+GX true) true true (w.s8 hf) w.s64 w.s128 true)) (by kernel_rfl) w hf
 rw[Bool.and_eq_true,Bool.and_eq_true] at h
 rcases hA with⟨rfl,rfl,rfl⟩|⟨rfl,rfl,rfl⟩|⟨rfl,rfl,rfl⟩
 ·exact .of h.1.1
 ·exact .of h.1.2
 ·exact .of h.2
theorem PR.bor (p:PR):AY .bor (.int (B8 p.mv p.a p.b)) (.int (p.w.flg p.hf))=some (.int (p.fl false))/\AY .bor (.int (p.fl false)) (.int 32)=some (.int (p.fl true))/\0<=p.fl false/\p.fl false<65536/\0<=p.fl true/\p.fl true<65536:=by
 have h:Rh (B8 p.mv p.a p.b) (p.w.flg p.hf)=true:=dW (C:=λA=>Rh A (p.w.flg p.hf)=true) (Ds (C:=λw hf=>Rh 0 (w.flg hf)) (by kernel_rfl) _ _) (Ds (C:=λw hf=>Rh 2 (w.flg hf)) (by kernel_rfl) _ _) (Ds (C:=λw hf=>Rh 3 (w.flg hf)) (by kernel_rfl) _ _)
 obtain⟨⟨e1,e2⟩,h1,h2⟩:=jy h
 have z:p.fl false=B8 p.mv p.a p.b+p.w.flg p.hf:=Int.add_zero _
 have z2:p.fl true=p.fl false+32:=congrArg (·+(32:Int)) z.symm
 rw[<-z] at e1 e2 h1 h2
 rw[z2]
 exact⟨e1,e2,h1,Int.lt_trans h2 (by decide),Int.add_nonneg h1 (by decide),Int.lt_trans (Int.add_lt_add_right h2 32) (by decide)⟩
section
variable {h:Hp}{k n:Nat}{W L:List Nat}{i:Int}
theorem MR {p:PR}(o:p.ok):(A.den (n+3)).fn 87 [p.v] h=some (.tup [.int (B8 p.mv p.a p.b),.bytes (Gr p.mv p.a p.b)],h):=by
 obtain⟨g,w,hf,mv,a,b⟩:=p
 obtain⟨g0,g1,om,of⟩:=o
 dsimp only[PR.v] at*
 cases mv
 ·refine Cz (of rfl) λh1 h2 h3 h4=>?_
  exact fC 752 λK=>K (Hx h1) (IY h2) (Hx h3) (IY h4) (LN h1 h2 h3 h4)
 ·refine Cz (om rfl) λh1 h2 h3 h4=>?_
  cases hs:DM a b
  ·have e1:=B5 (n:=n) (h:=h) h1 h2
   have e2:=B5 (n:=n) (h:=h) h3 h4
   have eb:AY .bor (.int 2) (.int 1)=some (.int 3):=rfl
   simp only[B8,Gr,hs]
   rcases ai hs with q|q|⟨q1,q2,q⟩|⟨q1,q2,q⟩
   ·
    exact fC 464 λK=>K (bA q) e1 e2 (Al (lb (la lr lr)))
   ·
    exact fC 944 λK=>K (Hx ((Aj 0x10028827010028825) q)) (Cn q) e1 e2 (Al (lb (la lr lr)))
   ·
    exact fC 1904 λK=>K (Hx q1) (IY q2) (bA q) e1 e2 (Al (lb (la lr lr)))
   ·
    exact fC 3824 λK=>K (Hx q1) (IY q2) (Hx ((Aj 0x10028827010028825) q)) (Cn q) e1 e2 (Al (lb (la lr lr)))
  ·refine Cz (Tv hs) λq1 q2 q3 q4=>?_
   have e1:Be .bytes [.lst [.int (a%256),.int (b%256)]]=some (.bytes [(a%256).toNat,(b%256).toNat]):=LN (by exact((Aj 0x100020100025) (m0 255))) (by exact((Aj 0x1488200114882006) (mo 255))) (by exact((Aj 0x100020100025) (m0 255))) (by exact((Aj 0x1488200114882006) (mo 255)))
   simp only[B8,Gr,hs]
   exact fC 2288 λK=>K (Hx q1) (IY q2) (Hx q3) (IY q4) e1
end
end Mine.Internal.Q
end
section
set_option maxRecDepth 10000
namespace Mine.Internal.Q
section
variable {h:Hp}{k n:Nat}{W L:List Nat}{i:Int}
theorem T_ {p:PR}{s8 s64 s128 mo:Bool}{fl:Int}(o:p.ok)(hk:k<h.length)(q:At W i (Gr p.mv p.a p.b++L))(f0:B8 p.mv p.a p.b=0->Cg fl false false s8 s64 s128 mo)(f2:B8 p.mv p.a p.b=2->Cg fl true false s8 s64 s128 mo)(f3:B8 p.mv p.a p.b=3->Cg fl true true s8 s64 s128 mo):
  ∃i1,(A.den (n+4)).fn 45 [.ref k,.int fl] (put h k (oc W i))=some (.tup [.int p.a,.int p.b],put h k (oc W i1))/\At W i1 L:=by
 obtain⟨g,w,hf,mv,a,b⟩:=p
 obtain⟨g0,g1,om,of⟩:=o
 dsimp only at*
 cases mv
 ·have q80_:=of rfl
  exact⟨_,X7 hk q (f0 rfl) q80_.1 q80_.2.2.1,At.step (a:=b.toNat) (At.step (a:=a.toNat) q)⟩
 ·refine Cz (om rfl) λh1 h2 h3 h4=>?_
  cases hs:DM a b
  ·simp only[B8,Gr,hs] at q f3
   rw[List.append_assoc] at q
   exact⟨_,XA hk q (f3 trivial) h1 h2 h3 h4,q.skip2.skip2⟩
  ·refine Cz (Tv hs) λq1 q2 q3 q4=>?_
   simp only[B8,Gr,hs] at q f2
   exact⟨_,YD hk q (f2 trivial) q1 q2 q3 q4,At.step (a:=(b%256).toNat) (At.step (a:=(a%256).toNat) q)⟩
theorem W6 {w:AD}{hf:Bool}{mv wd mo:Bool}{fl:Int}(hk:k<h.length)(q:At W i (w.oct hf++L))(f:Cg fl mv wd (w.s8 hf) w.s64 w.s128 mo):
  ∃i1,(A.den (n+4)).fn 43 [.ref k,.int fl] (put h k (oc W i))=some ((w.sc hf).v,put h k (oc W i1))/\At W i1 L:=by
 cases w<;>cases hf
 ·exact⟨i,er f,q⟩
 ·exact⟨_,S7 hk q f (by decide) (by decide),q.skip2⟩
 ·have q':=q;simp only[AD.oct,List.append_assoc] at q'
  exact⟨_,NV hk q' f (by decide) (by decide) (by decide) (by decide),q'.skip2.skip2⟩
 ·have q':=q;simp only[AD.oct,List.append_assoc] at q'
  exact⟨_,NV hk q' f (by decide) (by decide) (by decide) (by decide),q'.skip2.skip2⟩
 ·have q':=q;simp only[AD.oct,List.append_assoc] at q'
  exact⟨_,NV hk q' f (by decide) (by decide) (by decide) (by decide),q'.skip2.skip2⟩
 ·have q':=q;simp only[AD.oct,List.append_assoc] at q'
  exact⟨_,NV hk q' f (by decide) (by decide) (by decide) (by decide),q'.skip2.skip2⟩
 ·exact⟨_,S7 hk q f (by decide) (by decide),q.skip2⟩
 ·exact⟨_,S7 hk q f (by decide) (by decide),q.skip2⟩
 ·have q':=q;simp only[AD.oct,List.append_assoc] at q'
  exact⟨_,NS hk q' f (by decide) (by decide) (by decide) (by decide) (by decide) (by decide) (by decide) (by decide),q'.skip2.skip2.skip2.skip2⟩
 ·have q':=q;simp only[AD.oct,List.append_assoc] at q'
  exact⟨_,NS hk q' f (by decide) (by decide) (by decide) (by decide) (by decide) (by decide) (by decide) (by decide),q'.skip2.skip2.skip2.skip2⟩
 ·have q':=q;simp only[AD.oct,List.append_assoc] at q'
  exact⟨_,NS hk q' f (by decide) (by decide) (by decide) (by decide) (by decide) (by decide) (by decide) (by decide),q'.skip2.skip2.skip2.skip2⟩
 ·have q':=q;simp only[AD.oct,List.append_assoc] at q'
  exact⟨_,NS hk q' f (by decide) (by decide) (by decide) (by decide) (by decide) (by decide) (by decide) (by decide),q'.skip2.skip2.skip2.skip2⟩
theorem PR.flok (p:PR)(mo:Bool):∃wd,Cg (p.fl mo) p.mv wd (p.w.s8 p.hf) p.w.s64 p.w.s128 mo/\(B8 p.mv p.a p.b=0->Cg (p.fl mo) false false (p.w.s8 p.hf) p.w.s64 p.w.s128 mo)/\(B8 p.mv p.a p.b=2->Cg (p.fl mo) true false (p.w.s8 p.hf) p.w.s64 p.w.s128 mo)/\(B8 p.mv p.a p.b=3->Cg (p.fl mo) true true (p.w.s8 p.hf) p.w.s64 p.w.s128 mo):=by
 unfold PR.fl
 rcases hJ p.mv p.a p.b with⟨e,m⟩|⟨e,m,_⟩|⟨e,m,_⟩
 ·rw[e,m];have o:=PA p.w p.hf mo (.inl ⟨rfl,rfl,rfl⟩);exact⟨false,o,λ_=>o,λh=>absurd h (by decide),λh=>absurd h (by decide)⟩
 ·rw[e,m];have o:=PA p.w p.hf mo (.inr (.inl ⟨rfl,rfl,rfl⟩));exact⟨false,o,λh=>absurd h (by decide),λ_=>o,λh=>absurd h (by decide)⟩
 ·rw[e,m];have o:=PA p.w p.hf mo (.inr (.inr ⟨rfl,rfl,rfl⟩));exact⟨true,o,λh=>absurd h (by decide),λh=>absurd h (by decide),λ_=>o⟩
noncomputable def PR.tail (p:PR):List Nat:=Aq p.g++(Gr p.mv p.a p.b++p.w.oct p.hf)
noncomputable def BS (p q:PR):List Nat:=Aq (-1)++(List.replicate 8 0++(Aq (p.fl true)++(p.tail++(Aq (q.fl false)++q.tail))))
theorem cj:(A.den (n+4)).fn 84 [.tup [.int 0,.int 0,.int 0,.int 0]] h=some (.bytes (List.replicate 8 0),h):=by kernel_rfl
theorem Gf {p:PR}:(Gr p.mv p.a p.b).length<=4:=by
 obtain⟨g,w,hf,mv,a,b⟩:=p
 cases mv
 ·exact(by decide:(2:Nat)<=4)
 ·cases hs:DM a b<;>simp[Gr,hs,Aq]
theorem H0 {w:AD}{hf:Bool}:(w.oct hf).length<=8:=by cases w<;>cases hf<;>decide
theorem GW {p q:PR}:(BS p q).length<=100:=by
 have:=Gf (p:=p);have:=Gf (p:=q);have:=H0 (w:=p.w) (hf:=p.hf);have:=H0 (w:=q.w) (hf:=q.hf)
 simp only[BS,PR.tail,List.length_append,List.length_replicate,Le];lia
theorem QJ:A4 (.rng 0 2 1)=some [.int 0,.int 1]:=by kernel_rfl
theorem JZ {p q:V}:Be .len [.lst [p,q]]=some (.int 2):=rfl
theorem Qy {p q:PR}(o:p.ok)(o2:q.ok):(A.den (n+5)).fn 88 [.lst [p.v,q.v],.tup [.int 0,.int 0,.int 0,.int 0]] h=some (.bytes (BS p q),h):=by
 have e1:=MR (n:=n+1) (h:=h) o
 have e2:=MR (n:=n+1) (h:=h) o2
 have c1:=Cq (n:=n+2) (h:=h) o.g0 (by have:=o.g1;exact((Aj 0x11fffff200012888882006) this))
 have c2:=Cq (n:=n+2) (h:=h) o2.g0 (by have:=o2.g1;exact((Aj 0x11fffff200012888882006) this))
 have l1:=Gf (p:=p)
 have l2:=Gf (p:=q)
 have l3:=H0 (w:=p.w) (hf:=p.hf)
 have l4:=H0 (w:=q.w) (hf:=q.hf)
 refine WV p.bor λb1 b2 b3 b4 b5 b6=>?_
 refine WV q.bor λb7 b8 b9 b10 b11 b12=>?_
 exact fC 534725013095661 λK=>fE (K JZ AV cj JZ (Ox (by decide) (by decide)) QJ e1 Io b1 JZ b2 AV (Al (lb (la (la lr lr) lr))) c1 (Al (lb (la (la (la lr lr) lr) lr))) (Al (lb (la (la (la (la lr lr) lr) lr) l1))) (Al (lb (la (la (la (la (la lr lr) lr) lr) l1) l3))) e2 Io b7 JZ AV (Al (lb (la (la (la (la (la (la lr lr) lr) lr) l1) l3) lr))) c2 (Al (lb (la (la (la (la (la (la (la lr lr) lr) lr) l1) l3) lr) lr))) (Al (lb (la (la (la (la (la (la (la (la lr lr) lr) lr) l1) l3) lr) lr) l2))) (Al (lb (la (la (la (la (la (la (la (la (la lr lr) lr) lr) l1) l3) lr) lr) l2) l4)))) (by simp only[BS,PR.tail,List.append_assoc])
end
end Mine.Internal.Q
end
section
set_option maxRecDepth 10000
namespace Mine.Internal.Q
section
variable {h:Hp}{k n:Nat}{W L:List Nat}{i:Int}{G:List Nat}{P:V}
theorem X_ {p q:PR}(o:p.ok)(o2:q.ok)(hk:k<h.length)(at':At W i (Aq (p.fl true)++(p.tail++(Aq (q.fl false)++(q.tail++L))))):
  ∃i4,(A.den (n+5)).fn 46 [.ref k] (put h k (oc W i))=some (.tup [.lst [p.v,q.v],.bytes []],put h k (oc W i4)):=by
 refine Q2 (p.flok true) λwd f f0 f2 f3=>?_
 refine Q2 (q.flok false) λwd' f' f0' f2' f3'=>?_
 refine WV p.bor λb1 b2 b3 b4 b5 b6=>?_
 refine WV q.bor λb7 b8 b9 b10 b11 b12=>?_
 simp only[PR.tail,List.append_assoc] at at'
 refine Ac (T_ (n:=n) o hk at'.skip2.skip2 f0 f2 f3) λi1 ra1 t1=>?_
 refine Ac (W6 (n:=n) hk t1 f) λi2 rs1 t2=>?_
 refine Ac (T_ (n:=n) o2 hk t2.skip2.skip2 f0' f2' f3') λi3 ra2 t3=>?_
 refine Ac (W6 (n:=n) hk t3 f') λi4 rs2 t4=>?_
 exact⟨i4,Vy hk at' t2 f f' ra1 rs1 ra2 rs2 b5 b6 b9 b10 o.g0 o.g1 o2.g0 o2.g1⟩
theorem LU {p q:PR}{Z:List Nat}(hZ:Z.length<=100):At (BS p q++Z) 0 (Aq (-1)++(List.replicate 8 0++(Aq (p.fl true)++(p.tail++(Aq (q.fl false)++(q.tail++Z)))))):=
 ⟨by decide,by exact(Ao 0x1018020102014),by simp only[BS,Int.toNat_zero,List.drop_zero,List.append_assoc],by rw[List.length_append];have:=GW (p:=p) (q:=q);exact((AR 0x13ec9988201113211cc211911cc2019) hZ this)⟩
theorem Rb {p q:PR}{Z:List Nat}:Av .eq (.bytes (BS p q++Z)) (.bytes [])=some false:=congrArg some (decide_eq_false (λh=>by
 have:=congrArg List.length h
 simp only[BS,List.length_append,Le,List.length_nil] at this;exact((BM 0x00202d102214102114102014102211122301322318232233b) this)))
theorem Rk {p q:PR}{Z:List Nat}(hZ:Z.length<=100)(o:p.ok)(o2:q.ok)(h:Hp)(k:Nat)(hk:k<h.length):∃i4,(A.den (n+5)).fn 46 [.ref k] (put h k (oc (BS p q++Z) 10))=some (.tup [.lst [CN p.g p.a p.b p.mv (p.w.sc p.hf),CN q.g q.a q.b q.mv (q.w.sc q.hf)],.bytes []],put h k (oc (BS p q++Z) i4)):=
 X_ o o2 hk ((LU hZ).skip2.skip)
theorem YT {g m u v u2 v2:Int}{ab ab2:List V}{p q:PR}{Z:List Nat}{cs1 cs2 X1 X2:List (List Pt)}(hZ:Z.length<=100)(o:p.ok)(o2:q.ok)(hgl:∀h a b,nth h k=some (AL G P a b)->(A.den (n+6)).fn 49 [.ref k,.int g] h=some (.bytes (BS p q++Z),h))
  (hne:Av .eq (.tup ab) (.tup [])=some false)(hin:Av .isIn (.int g) (.tup ab)=some false)(hlen:Be .len [.tup ab]=some (.int m))(hm:m<8)(hadd:AY .add (.tup ab) (.tup [.int g])=some (.tup ab2))
  (I1:RO (n+6) k G P p.g ab2 cs1 u v)(I2:RO (n+6) k G P q.g ab2 cs2 u2 v2)
  (P1:∀h,(A.den (n+6)).fn 52 [p.v,Aw cs1,.lst []] h=some (Aw X1,h))(P2:∀h,(A.den (n+6)).fn 52 [q.v,Aw cs2,Aw X1] h=some (Aw X2,h))
  (hX:X1.length+X2.length<=1000)(hu:0<=u)(hu2:0<=u2)(hv:0<=v)(hv2:0<=v2):RO (n+7) k G P g ab (X1++X2) (2+u+u2) (v+v2):=by
 intro h a b hk h1 h2
 refine Xe (TX (n:=n) (ab:=ab) hk (hgl h a b hk) (LU hZ) rfl Rb hin hlen hm hadd (Rk (n:=n+1) hZ o o2) I1 I2 P1 P2 hX hu hu2 hv hv2 h1 h2) λh' r' a' b' e k' l1 l2=>?_
 exact⟨h',a',b',ZH (QL hne e),k',l1,l2⟩
theorem Pr {g u v u2 v2:Int}{p q:PR}{Z:List Nat}{cs1 cs2 X1 X2:List (List Pt)}(hZ:Z.length<=100)(o:p.ok)(o2:q.ok)(hgl:∀h a b,nth h k=some (AL G P a b)->(A.den (n+6)).fn 49 [.ref k,.int g] h=some (.bytes (BS p q++Z),h))
  (I1:RO (n+6) k G P p.g [.int g] cs1 u v)(I2:RO (n+6) k G P q.g [.int g] cs2 u2 v2)
  (P1:∀h,(A.den (n+6)).fn 52 [p.v,Aw cs1,.lst []] h=some (Aw X1,h))(P2:∀h,(A.den (n+6)).fn 52 [q.v,Aw cs2,Aw X1] h=some (Aw X2,h))
  (hX:X1.length+X2.length<=1000)(hu:0<=u)(hu2:0<=u2)(hv:0<=v)(hv2:0<=v2)(hu3:u+u2<=4000)(hv3:v+v2<=4000)
  {h:Hp}{a b:Int}(hk:nth h k=some (AL G P a b)):∃h' a' b',(A.den (n+7)).fn 50 [.ref k,.int g] h=some (A7 (X1++X2) [],h')/\nth h' k=some (AL G P a' b'):=by
 have hk0:nth (put h k (AL G P 0 0)) k=some (AL G P 0 0):=AP (Bh hk)
 refine Xe (TX (n:=n) (ab:=[]) (m:=0) (ab2:=[.int g]) hk0 (hgl _ 0 0 hk0) (LU hZ) rfl Rb rfl rfl (by decide) rfl (Rk (n:=n+1) hZ o o2) I1 I2 P1 P2 hX hu hu2 hv hv2 (by exact((Fx 0x118888210002233023017ec82100035) hu3)) (by exact((Fx 0x14888888210003023017ec82100035) hv3))) λh' r' a' b' e k' l1 l2=>?_
 exact⟨h',a',b',RT (IT hk e),k'⟩
end
end Mine.Internal.Q
end
section
set_option maxRecDepth 10000
namespace Mine.Internal.Q
noncomputable def CB (p:Pt):V:=.tup [.int p.1,.int p.2]
noncomputable def AH (c:List Pt):V:=.lst (c.map CB)
noncomputable def A0 (cs:List (List Pt)):V:=.lst (cs.map AH)
noncomputable def Bq (s:Sc)(m:Int)(p:Pt):Pt:=((s.a*p.1+s.c*p.2)/m,(s.b*p.1+s.d*p.2)/m)
theorem De {cs:List (List Pt)}:A4 (A0 cs)=some (cs.map AH):=rfl
theorem Mk {c:List Pt}:A4 (AH c)=some (c.map CB):=rfl
theorem RA:∀{cs:List (List Pt)},E_ (cs.map AH)=some (cs.flatten.map CB)
 |[]=>rfl
 |c::cs=>by
  show(E_ (cs.map AH)).map _=_
  rw[RA,List.flatten_cons,List.map_append];rfl
noncomputable def Ki:List S:=[.unp [7,8,9,10] (.sub (.call 97 []) (.var 4)),.ass 11 (.ite (.tst (.var 5)) (.cst (.int 2)) (.cst (.int 1))),.assU 12 [],.forr (.one 13) (.call 104 [(.var 0),(.var 3)]) [.app 12 (.comp (.tup [(.bin .fdiv (.bin .add (.bin .mul (.var 7) (.var 18)) (.bin .mul (.var 9) (.var 19))) (.var 11)),(.bin .fdiv (.bin .add (.bin .mul (.var 8) (.var 18)) (.bin .mul (.var 10) (.var 19))) (.var 11))]) (.many [18,19]) (.var 13) none)],.swp false [14,15] [.val (.sub (.var 6) (.cst (.int 1))),.val (.sub (.var 6) (.cst (.int 2)))],.iff (.tst (.cmp .eq (.sub (.var 6) (.cst (.int 0))) (.cst (.str [97,116])))) [.ass 16 (.sub (.flat (.var 2)) (.sub (.var 6) (.cst (.int 1)))),.ass 17 (.sub (.flat (.fz 12)) (.sub (.var 6) (.cst (.int 2)))),.swp false [14,15] [.val (.bin .sub (.sub (.var 16) (.cst (.int 0))) (.sub (.var 17) (.cst (.int 0)))),.val (.bin .sub (.sub (.var 16) (.cst (.int 1))) (.sub (.var 17) (.cst (.int 1))))]] [],.ass 2 (.bin .add (.var 2) (.comp (.comp (.tup [(.bin .add (.var 25) (.var 14)),(.bin .add (.var 26) (.var 15))]) (.many [25,26]) (.var 24) none) (.one 24) (.fz 12) none))]
section
variable {h:Hp}{n:Nat}{v0 v1 v2:Slot}
noncomputable def Cr (z:Slot×Slot×Slot)(c:List Pt):Slot×Slot×Slot:=(.val (AH c),c.foldl Og z.2)
theorem Pp {D:Den}{m:Int}{s:Sc}{t3 t4 t5 t6 t14 t15 t16 t17 t20 t21 t22 t23 t24 t25 t26:Slot}{z:Slot×Slot×Slot}{cs:List (List Pt)}(k:s.ok)(hm:0<m)(hm2:m<1000)(hl:cs.length<=1000)(hc:∀c∈cs,c.length<=1000):
  Ct (B7 A.tb D (.one 13) [.app 12 (.comp (.tup [(.bin .fdiv (.bin .add (.bin .mul (.var 7) (.var 18)) (.bin .mul (.var 9) (.var 19))) (.var 11)),(.bin .fdiv (.bin .add (.bin .mul (.var 8) (.var 18)) (.bin .mul (.var 10) (.var 19))) (.var 11))]) (.many [18,19]) (.var 13) none)]) (cs.map AH) ⟨[v0,v1,v2,t3,t4,t5,t6,.val (.int s.a),.val (.int s.b),.val (.int s.c),.val (.int s.d),.val (.int m),.ul ([]),z.1,t14,t15,t16,t17,z.2.1,z.2.2,t20,t21,t22,t23,t24,t25,t26],h⟩=some (.nxt,⟨[v0,v1,v2,t3,t4,t5,t6,.val (.int s.a),.val (.int s.b),.val (.int s.c),.val (.int s.d),.val (.int m),.ul ((cs.map λc=>c.map (Bq s m)).map AH),(cs.foldl Cr z).1,t14,t15,t16,t17,(cs.foldl Cr z).2.1,(cs.foldl Cr z).2.2,t20,t21,t22,t23,t24,t25,t26],h⟩):=
 Si (N:=1000) (P:=λc=>c.length<=1000) (g:=AH) (out:=λc=>c.map (Bq s m)) (nx:=Cr) (fr:=λacc z=>[v0,v1,v2,t3,t4,t5,t6,.val (.int s.a),.val (.int s.b),.val (.int s.c),.val (.int s.d),.val (.int m),.ul (acc.map AH),z.1,t14,t15,t16,t17,z.2.1,z.2.2,t20,t21,t22,t23,t24,t25,t26]) (λc acc z hcl hal=>by
  obtain⟨a1,a2,b1,b2,c1,c2,d1,d2⟩:=k
  have e1:=F4 (f:=Bi A.tb D (.tup [(.bin .fdiv (.bin .add (.bin .mul (.var 7) (.var 18)) (.bin .mul (.var 9) (.var 19))) (.var 11)),(.bin .fdiv (.bin .add (.bin .mul (.var 8) (.var 18)) (.bin .mul (.var 10) (.var 19))) (.var 11))]) (.many [18,19]) none) (h:=h) (P:=λ_=>True) (g:=CB) (out:=λp=>CB (Bq s m p)) (nx:=Og) (fr:=λz=>[v0,v1,v2,t3,t4,t5,t6,.val (.int s.a),.val (.int s.b),.val (.int s.c),.val (.int s.d),.val (.int m),.ul (acc.map AH),.val (AH c),t14,t15,t16,t17,z.1,z.2,t20,t21,t22,t23,t24,t25,t26]) (λp z _=>by
   show _=some (some (V.tup [.int ((s.a*p.1+s.c*p.2)/m),.int ((s.b*p.1+s.d*p.2)/m)]),(⟨[v0,v1,v2,t3,t4,t5,t6,.val (.int s.a),.val (.int s.b),.val (.int s.c),.val (.int s.d),.val (.int m),.ul (acc.map AH),.val (AH c),t14,t15,t16,t17,.val (.int p.1),.val (.int p.2),t20,t21,t22,t23,t24,t25,t26],h⟩:St))
   exact cC 187 λK=>K (BP ((Aj 0x1004888888888927110038bac8276) a1) ((Aj 0x1488888888892001138bac82006) a2)) (BP ((Aj 0x1004888888888927110038bac8276) c1) ((Aj 0x1488888888892001138bac82006) c2)) (Mn hm ((Aj 0x11888888888888888888888200111fd82006) hm2)) (BP ((Aj 0x1004888888888927110038bac8276) b1) ((Aj 0x1488888888892001138bac82006) b2)) (BP ((Aj 0x1004888888888927110038bac8276) d1) ((Aj 0x1488888888892001138bac82006) d2)) (Mn hm ((Aj 0x11888888888888888888888200111fd82006) hm2))) (l:=c) (s:=z.2) (λ_ _=>trivial)
  have hb:AO (c.map λp=>CB (Bq s m p)).length=true:=Bt (Nat.le_trans hcl (by decide))
  have hb2:AO ((acc.map AH).length+1)=true:=Ci (by rw[List.length_map];exact((Ao 0x1188888888212013211fd8201a) hal))
  have hq:(acc.map AH)++[V.lst (c.map λp=>CB (Bq s m p))]=(acc++[c.map (Bq s m)]).map AH:=by rw[List.map_append];show _=_++[AH _];unfold AH;rw[List.map_map];rfl
  show _=some (Fl.nxt,(⟨[v0,v1,v2,t3,t4,t5,t6,.val (.int s.a),.val (.int s.b),.val (.int s.c),.val (.int s.d),.val (.int m),.ul ((acc++[c.map (Bq s m)]).map AH),.val (AH c),t14,t15,t16,t17,(c.foldl Og z.2).1,(c.foldl Og z.2).2,t20,t21,t22,t23,t24,t25,t26],h⟩:St))
  exact oC 31 λK=>K Mk e1 (CK hb) hb2 hq) (l:=cs) (acc:=[]) (s:=z) hc (by rw[List.length_nil,Nat.zero_add];exact hl)
end
end Mine.Internal.Q
end
section
set_option maxRecDepth 10000
namespace Mine.Internal.Q
noncomputable def RZ:V:=match (A.den 1).fn 97 [] [] with|some (v,_)=>v|none=>.none
theorem EH {n:Nat}{h:Hp}:(A.den (n+1)).fn 97 [] h=some (RZ,h):=by kernel_rfl
theorem NR {w:AD}{s:Hp}:BF RZ (.str w.str) s=some (w.one.v):=by cases w<;>kernel_rfl
theorem AD.one_ok (w:AD):w.one.ok:=Sc.ok_of (Ds (C:=λw _=>w.one.okB) (by kernel_rfl) w true)
theorem Ui {c:List Pt}{j:Int}{p:Pt}{s:Hp}(h:0<=j)(e:nth c j.toNat=some p):BF (.lst (c.map CB)) (.int j) s=some (CB p):=by
 show(place j (c.map CB).length).bind (nth (c.map CB))=_
 rw[IZ h (by rw[List.length_map];exact(Int.toNat_lt h).mp (Bh e)),Option.bind_some,DY e]
theorem bK {F X:List (List Pt)}(h:F.length+X.length<=1000):AY .add (A0 F) (.lst (X.map AH))=some (A0 (F++X)):=by
 have:=OZ (a:=F.map AH) (b:=X.map AH) (by rw[List.length_append,List.length_map,List.length_map];exact((AR 0x1188888888211013211fd82110139) h))
 rw[<-List.map_append] at this
 exact this
noncomputable def DB (at':Bool)(a b:Int):V:=match at' with
 |true=>.tup [.str [97,116],.int a,.int b]
 |false=>.tup [.str [98,121],.int a,.int b]
noncomputable def DK (g:Int)(w:AD)(hf at':Bool)(a b:Int):V:=.tup [.int g,.str w.str,.bool hf,DB at' a b]
theorem JQ {at':Bool}{a b:Int}{s:Hp}:BF (DB at' a b) (.int 1) s=some (.int a):=by cases at'<;>rfl
theorem KH {at':Bool}{a b:Int}{s:Hp}:BF (DB at' a b) (.int 2) s=some (.int b):=by cases at'<;>rfl
noncomputable def AM (hf:Bool):Int:=match hf with|true=>2|false=>1
section
variable {h:Hp}{n:Nat}{v0 v1 v2:Slot}
theorem gz {D:Den}{x y:Int} {t3 t4 t5 t6 t7 t8 t9 t10 t11 t12 t13 t16 t17 t18 t19 t20 t21 t22 t23 t24 t25 t26:Slot}{cs:List (List Pt)}(hc:∀c∈cs,c.length<=1000):BW (Bi A.tb D (.comp (.tup [(.bin .add (.var 25) (.var 14)),(.bin .add (.var 26) (.var 15))]) (.many [25,26]) (.var 24) none) (.one 24) none) (cs.map AH) ⟨[v0,v1,v2,t3,t4,t5,t6,t7,t8,t9,t10,t11,t12,t13,.val (.int x),.val (.int y),t16,t17,t18,t19,t20,t21,t22,t23,t24,t25,t26],h⟩=some ((cs.map λc=>c.map (CJ x y)).map AH,⟨[v0,v1,v2,t3,t4,t5,t6,t7,t8,t9,t10,t11,t12,t13,.val (.int x),.val (.int y),t16,t17,t18,t19,t20,t21,t22,t23,(cs.foldl Cr (t24,t25,t26)).1,(cs.foldl Cr (t24,t25,t26)).2.1,(cs.foldl Cr (t24,t25,t26)).2.2],h⟩):=by
 rw[List.map_map]
 exact F4 (f:=Bi A.tb D (.comp (.tup [(.bin .add (.var 25) (.var 14)),(.bin .add (.var 26) (.var 15))]) (.many [25,26]) (.var 24) none) (.one 24) none) (h:=h) (P:=λc=>c.length<=1000) (g:=AH) (out:=λc=>AH (c.map (CJ x y))) (nx:=Cr) (fr:=λz=>[v0,v1,v2,t3,t4,t5,t6,t7,t8,t9,t10,t11,t12,t13,.val (.int x),.val (.int y),t16,t17,t18,t19,t20,t21,t22,t23,z.1,z.2.1,z.2.2]) (λc z hcl=>by
  have e1:=F4 (f:=Bi A.tb D (.tup [(.bin .add (.var 25) (.var 14)),(.bin .add (.var 26) (.var 15))]) (.many [25,26]) none) (h:=h) (P:=λ_=>True) (g:=CB) (out:=λp=>CB (CJ x y p)) (nx:=Og) (fr:=λz=>[v0,v1,v2,t3,t4,t5,t6,t7,t8,t9,t10,t11,t12,t13,.val (.int x),.val (.int y),t16,t17,t18,t19,t20,t21,t22,t23,.val (AH c),z.1,z.2]) (λp z _=>by
   show _=some (some (V.tup [.int (p.1+x),.int (p.2+y)]),(⟨[v0,v1,v2,t3,t4,t5,t6,t7,t8,t9,t10,t11,t12,t13,.val (.int x),.val (.int y),t16,t17,t18,t19,t20,t21,t22,t23,.val (AH c),.val (.int p.1),.val (.int p.2)],h⟩:St))
   exact cC 0 λK=>K) (l:=c) (s:=z.2) (λ_ _=>trivial)
  have hb:AO (c.map λp=>CB (CJ x y p)).length=true:=Bt (Nat.le_trans hcl (by decide))
  show _=some (some (V.lst _),(⟨[v0,v1,v2,t3,t4,t5,t6,t7,t8,t9,t10,t11,t12,t13,.val (.int x),.val (.int y),t16,t17,t18,t19,t20,t21,t22,t23,.val (AH c),(c.foldl Og z.2).1,(c.foldl Og z.2).2],h⟩:St))
  rw[List.map_map]
  show _=some (some (V.lst (c.map λp=>CB (CJ x y p))),_)
  exact cC 7 λK=>K Mk e1 (CK hb)) (l:=cs) (s:=(t24,t25,t26)) hc
variable {ls:List V}
noncomputable def gU (g:Int)(w:AD)(hf at':Bool)(a b x y:Int)(t16 t17:Slot)(cs:List (List Pt))(t13 t18 t19 t20 t21 t22 t23 t24 t25 t26:Slot):List Slot:=
 [.val (.int g),.val (.str w.str),.val (.bool hf),.val (DB at' a b),.val (.int w.one.a),.val (.int w.one.b),.val (.int w.one.c),.val (.int w.one.d),.val (.int (AM hf)),.val (.lst ((cs.map λc=>c.map (Bq w.one (AM hf))).map AH)),(cs.foldl Cr (t13,t18,t19)).1,.val (.int x),.val (.int y),t16,t17,(cs.foldl Cr (t13,t18,t19)).2.1,(cs.foldl Cr (t13,t18,t19)).2.2,t20,t21,t22,t23,((cs.map λc=>c.map (Bq w.one (AM hf))).foldl Cr (t24,t25,t26)).1,((cs.map λc=>c.map (Bq w.one (AM hf))).foldl Cr (t24,t25,t26)).2.1,((cs.map λc=>c.map (Bq w.one (AM hf))).foldl Cr (t24,t25,t26)).2.2]
theorem cH {g a b:Int}{w:AD}{hf:Bool}{F cs:List (List Pt)} {t3 t4 t5 t6 t7 t8 t9 t10 t11 t12 t13 t14 t15 t16 t17 t18 t19 t20 t21 t22 t23 t24 t25 t26:Slot}(rec:(A.den (n+1)).fn 104 [V.lst ls,.int g] h=some (A0 cs,h))(hl:F.length+cs.length<=1000)(hc:∀c∈cs,c.length<=1000):
  B7 A.tb (A.den (n+1)) (.many [3,4,5,6]) Ki (DK g w hf false a b) ⟨[.val (.lst ls),v1,.val (A0 F),t3,t4,t5,t6,t7,t8,t9,t10,t11,t12,t13,t14,t15,t16,t17,t18,t19,t20,t21,t22,t23,t24,t25,t26],h⟩=some (.nxt,⟨.val (.lst ls)::v1::.val (A0 (F++(cs.map λc=>c.map (Bq w.one (AM hf))).map λc=>c.map (CJ a b)))::gU g w hf false a b a b t16 t17 cs t13 t18 t19 t20 t21 t22 t23 t24 t25 t26,h⟩):=by
 have hcl:cs.length<=1000:=Nat.le_trans (Nat.le_add_left _ _) hl
 have e1:=Pp (h:=h) (D:=A.den (n+1)) (v0:=.val (.lst ls)) (v1:=v1) (v2:=.val (A0 F)) (m:=AM hf) (s:=w.one) (t3:=.val (.int g)) (t4:=.val (.str w.str)) (t5:=.val (.bool hf)) (t6:=.val (DB false a b)) (t14:=t14) (t15:=t15) (t16:=t16) (t17:=t17) (t20:=t20) (t21:=t21) (t22:=t22) (t23:=t23) (t24:=t24) (t25:=t25) (t26:=t26) (z:=(t13,t18,t19)) w.one_ok (by cases hf<;>decide) (by cases hf<;>decide) hcl hc
 have e2:=@gz h (.val (.lst ls)) v1 (.val (A0 F)) (A.den (n+1)) a b
 have hcm:∀c∈(cs.map λc=>c.map (Bq w.one (AM hf))),c.length<=1000:=λc hcm=>by obtain⟨d,hd,rfl⟩:=List.mem_map.1 hcm;rw[List.length_map];exact hc d hd
 have hpt:ev A.tb (A.den (n+1)) (.ite (.tst (.var 5)) (.cst (.int 2)) (.cst (.int 1))) ⟨[.val (.lst ls),v1,.val (A0 F),.val (.int g),.val (.str w.str),.val (.bool hf),.val (DB false a b),.val (.int w.one.a),.val (.int w.one.b),.val (.int w.one.c),.val (.int w.one.d),t11,t12,t13,t14,t15,t16,t17,t18,t19,t20,t21,t22,t23,t24,t25,t26],h⟩=some (.int (AM hf),⟨[.val (.lst ls),v1,.val (A0 F),.val (.int g),.val (.str w.str),.val (.bool hf),.val (DB false a b),.val (.int w.one.a),.val (.int w.one.b),.val (.int w.one.c),.val (.int w.one.d),t11,t12,t13,t14,t15,t16,t17,t18,t19,t20,t21,t22,t23,t24,t25,t26],h⟩):=by cases hf<;>rfl
 have hk0:∀s,BF (DB false a b) (.int 0) s=some (.str [98,121]):=λs=>rfl
 have hq:Av .eq (.str [98,121]) (.str [97,116])=some false:=rfl
 have hfl:F.length+((cs.map λc=>c.map (Bq w.one (AM hf))).map λc=>c.map (CJ a b)).length<=1000:=by rw[List.length_map,List.length_map];exact hl
 have hb1:AO (((cs.map λc=>c.map (Bq w.one (AM hf))).map λc=>c.map (CJ a b)).map AH).length=true:=Bt (Nat.le_trans (Nat.le_trans (Nat.le_add_left _ _) hfl) (by decide))
 show _=some (Fl.nxt,(⟨[.val (.lst ls),v1,.val (A0 (F++(cs.map λc=>c.map (Bq w.one (AM hf))).map λc=>c.map (CJ a b))),.val (.int g),.val (.str w.str),.val (.bool hf),.val (DB false a b),.val (.int w.one.a),.val (.int w.one.b),.val (.int w.one.c),.val (.int w.one.d),.val (.int (AM hf)),.val (.lst ((cs.map λc=>c.map (Bq w.one (AM hf))).map AH)),(cs.foldl Cr (t13,t18,t19)).1,.val (.int a),.val (.int b),t16,t17,(cs.foldl Cr (t13,t18,t19)).2.1,(cs.foldl Cr (t13,t18,t19)).2.2,t20,t21,t22,t23,((cs.map λc=>c.map (Bq w.one (AM hf))).foldl Cr (t24,t25,t26)).1,((cs.map λc=>c.map (Bq w.one (AM hf))).foldl Cr (t24,t25,t26)).2.1,((cs.map λc=>c.map (Bq w.one (AM hf))).foldl Cr (t24,t25,t26)).2.2],h⟩:St))
 exact oC 62443 λK=>K EH NR hpt rec De e1 JQ KH De (e2 hcm) (CK hb1) (bK hfl)
theorem OT {g a b:Int}{w:AD}{hf:Bool}{F cs:List (List Pt)} {t3 t4 t5 t6 t7 t8 t9 t10 t11 t12 t13 t14 t15 t16 t17 t18 t19 t20 t21 t22 t23 t24 t25 t26:Slot}(rec:(A.den (n+1)).fn 104 [V.lst ls,.int g] h=some (A0 cs,h))(hl:F.length+cs.length<=1000)(hc:∀c∈cs,c.length<=1000){p q:Pt}(ha:0<=a)(hb:0<=b)(ep:nth F.flatten a.toNat=some p)(eq:nth (cs.map λc=>c.map (Bq w.one (AM hf))).flatten b.toNat=some q)(ho:F.flatten.length<=1000000)(hf2:(cs.map λc=>c.map (Bq w.one (AM hf))).flatten.length<=1000000):
  B7 A.tb (A.den (n+1)) (.many [3,4,5,6]) Ki (DK g w hf true a b) ⟨[.val (.lst ls),v1,.val (A0 F),t3,t4,t5,t6,t7,t8,t9,t10,t11,t12,t13,t14,t15,t16,t17,t18,t19,t20,t21,t22,t23,t24,t25,t26],h⟩=some (.nxt,⟨.val (.lst ls)::v1::.val (A0 (F++(cs.map λc=>c.map (Bq w.one (AM hf))).map λc=>c.map (CJ (p.1 - q.1) (p.2 - q.2))))::gU g w hf true a b (p.1 - q.1) (p.2 - q.2) (.val (CB p)) (.val (CB q)) cs t13 t18 t19 t20 t21 t22 t23 t24 t25 t26,h⟩):=by
 have hcl:cs.length<=1000:=Nat.le_trans (Nat.le_add_left _ _) hl
 have e1:=Pp (h:=h) (D:=A.den (n+1)) (v0:=.val (.lst ls)) (v1:=v1) (v2:=.val (A0 F)) (m:=AM hf) (s:=w.one) (t3:=.val (.int g)) (t4:=.val (.str w.str)) (t5:=.val (.bool hf)) (t6:=.val (DB true a b)) (t14:=t14) (t15:=t15) (t16:=t16) (t17:=t17) (t20:=t20) (t21:=t21) (t22:=t22) (t23:=t23) (t24:=t24) (t25:=t25) (t26:=t26) (z:=(t13,t18,t19)) w.one_ok (by cases hf<;>decide) (by cases hf<;>decide) hcl hc
 have e2:=@gz h (.val (.lst ls)) v1 (.val (A0 F)) (A.den (n+1)) (p.1 - q.1) (p.2 - q.2)
 have hcm:∀c∈(cs.map λc=>c.map (Bq w.one (AM hf))),c.length<=1000:=λc hcm=>by obtain⟨d,hd,rfl⟩:=List.mem_map.1 hcm;rw[List.length_map];exact hc d hd
 have hpt:ev A.tb (A.den (n+1)) (.ite (.tst (.var 5)) (.cst (.int 2)) (.cst (.int 1))) ⟨[.val (.lst ls),v1,.val (A0 F),.val (.int g),.val (.str w.str),.val (.bool hf),.val (DB true a b),.val (.int w.one.a),.val (.int w.one.b),.val (.int w.one.c),.val (.int w.one.d),t11,t12,t13,t14,t15,t16,t17,t18,t19,t20,t21,t22,t23,t24,t25,t26],h⟩=some (.int (AM hf),⟨[.val (.lst ls),v1,.val (A0 F),.val (.int g),.val (.str w.str),.val (.bool hf),.val (DB true a b),.val (.int w.one.a),.val (.int w.one.b),.val (.int w.one.c),.val (.int w.one.d),t11,t12,t13,t14,t15,t16,t17,t18,t19,t20,t21,t22,t23,t24,t25,t26],h⟩):=by cases hf<;>rfl
 have hk0:∀s,BF (DB true a b) (.int 0) s=some (.str [97,116]):=λs=>rfl
 have hq:Av .eq (.str [97,116]) (.str [97,116])=some true:=rfl
 have hfl:F.length+((cs.map λc=>c.map (Bq w.one (AM hf))).map λc=>c.map (CJ (p.1 - q.1) (p.2 - q.2))).length<=1000:=by rw[List.length_map,List.length_map];exact hl
 have hb1:AO (((cs.map λc=>c.map (Bq w.one (AM hf))).map λc=>c.map (CJ (p.1 - q.1) (p.2 - q.2))).map AH).length=true:=Bt (Nat.le_trans (Nat.le_trans (Nat.le_add_left _ _) hfl) (by decide))
 have hb2:AO (F.flatten.map CB).length=true:=Bt (Nat.le_trans ho (by decide))
 have hb3:AO ((cs.map λc=>c.map (Bq w.one (AM hf))).flatten.map CB).length=true:=Bt (Nat.le_trans hf2 (by decide))
 show _=some (Fl.nxt,(⟨[.val (.lst ls),v1,.val (A0 (F++(cs.map λc=>c.map (Bq w.one (AM hf))).map λc=>c.map (CJ (p.1 - q.1) (p.2 - q.2)))),.val (.int g),.val (.str w.str),.val (.bool hf),.val (DB true a b),.val (.int w.one.a),.val (.int w.one.b),.val (.int w.one.c),.val (.int w.one.d),.val (.int (AM hf)),.val (.lst ((cs.map λc=>c.map (Bq w.one (AM hf))).map AH)),(cs.foldl Cr (t13,t18,t19)).1,.val (.int (p.1 - q.1)),.val (.int (p.2 - q.2)),(.val (CB p)),(.val (CB q)),(cs.foldl Cr (t13,t18,t19)).2.1,(cs.foldl Cr (t13,t18,t19)).2.2,t20,t21,t22,t23,((cs.map λc=>c.map (Bq w.one (AM hf))).foldl Cr (t24,t25,t26)).1,((cs.map λc=>c.map (Bq w.one (AM hf))).foldl Cr (t24,t25,t26)).2.1,((cs.map λc=>c.map (Bq w.one (AM hf))).foldl Cr (t24,t25,t26)).2.2],h⟩:St))
 exact oC 4030723051 λK=>K EH NR hpt rec De e1 JQ KH De RA (CK hb2) JQ (Ui ha ep) De RA (CK hb3) KH (Ui hb eq) De (e2 hcm) (CK hb1) (bK hfl)
end
end Mine.Internal.Q
end
section
set_option maxRecDepth 10000
namespace Mine.Internal.Q
noncomputable def fr (ls:List V)(v1:Slot)(F:List (List Pt))(t:List Slot)(h:Hp):St:=⟨.val (.lst ls)::v1::.val (A0 F)::t,h⟩
noncomputable def NG (n:Nat)(h:Hp)(ls:List V)(v1:Slot)(T:V)(F X:List (List Pt)):Prop:=
 ∀t:List Slot,t.length=24->∃t':List Slot,t'.length=24/\B7 A.tb (A.den (n+1)) (.many [3,4,5,6]) Ki T (fr ls v1 F t h)=some (.nxt,fr ls v1 (F++X) t' h)
theorem CO {α:Type}{n:Nat}{M:List α->Prop}(k:∀a (t:List α),t.length=n->M (a::t)):∀t:List α,t.length=n+1->M t
 |[],h=>nomatch h
 |a::t,h=>k a t (Nat.succ.inj h)
theorem i_ {α:Type}{M:List α->Prop}(k:M []):∀t:List α,t.length=0->M t
 |[],_=>k
 |_::_,h=>nomatch h
theorem UG {M:List Slot->Prop}(k:∀t3 t4 t5 t6 t7 t8 t9 t10 t11 t12 t13 t14 t15 t16 t17 t18 t19 t20 t21 t22 t23 t24 t25 t26,M [t3,t4,t5,t6,t7,t8,t9,t10,t11,t12,t13,t14,t15,t16,t17,t18,t19,t20,t21,t22,t23,t24,t25,t26]):∀t:List Slot,t.length=24->M t:=CO λt3=>CO λt4=>CO λt5=>CO λt6=>CO λt7=>CO λt8=>CO λt9=>CO λt10=>CO λt11=>CO λt12=>CO λt13=>CO λt14=>CO λt15=>CO λt16=>CO λt17=>CO λt18=>CO λt19=>CO λt20=>CO λt21=>CO λt22=>CO λt23=>CO λt24=>CO λt25=>CO λt26=>i_ (k t3 t4 t5 t6 t7 t8 t9 t10 t11 t12 t13 t14 t15 t16 t17 t18 t19 t20 t21 t22 t23 t24 t25 t26)
section
variable {h:Hp}{n:Nat}{ls:List V}
theorem dU {g:Int}{c:List Pt}(hs:∀s,BF (.lst ls) (.int g) s=some (AH c))(hg:Av .isIn (.int g) (.lst [.int 1,.int 2])=some true):(A.den (n+1)).fn 104 [.lst ls,.int g] h=some (A0 [c],h):=by
 have hs':=hs h
 exact fC 12 λK=>K hg hs'
theorem W4 {g:Int}{T1 T2:V}{X1 X2:List (List Pt)}(hs:∀s,BF (.lst ls) (.int g) s=some (.lst [T1,T2]))(hg:Av .isIn (.int g) (.lst [.int 1,.int 2])=some false)(S1:NG n h ls (.val (.int g)) T1 [] X1)(S2:NG n h ls (.val (.int g)) T2 X1 X2):
  (A.den (n+2)).fn 104 [.lst ls,.int g] h=some (A0 (X1++X2),h):=by
 have hs':=hs h
 refine Ac (S1 (List.replicate 24 .un) rfl) λa ha e1=>?_
 refine Ac (S2 a ha) λb hb e2=>?_
 have e:Ct (B7 A.tb (A.den (n+1)) (.many [3,4,5,6]) Ki) [T1,T2] ⟨[.val (.lst ls),.val (.int g),.val (.lst []),.un,.un,.un,.un,.un,.un,.un,.un,.un,.un,.un,.un,.un,.un,.un,.un,.un,.un,.un,.un,.un,.un,.un,.un],h⟩=some (.nxt,⟨.val (.lst ls)::.val (.int g)::.val (A0 (X1++X2))::b,h⟩):=BN e1 (BN e2 Sa)
 clear e1 e2 S1 S2 hs
 unfold Ki at e
 exact fC 44 λK=>K hg hs' e
end
noncomputable def Xo (w:AD)(hf:Bool):Bool:=match w,hf with
 |.asis,false=>false
 |_,_=>true
theorem Xs (w:AD)(hf:Bool):Av .ne (w.sc hf).v Tc=some (Xo w hf):=by cases w<;>cases hf<;>rfl
noncomputable def HV (cs:List (List Pt)):Prop:=∀c∈cs,∀p∈c,p.1%2=0/\p.2%2=0
theorem iB (w:AD)(hf:Bool):(w.sc hf).a=16384/AM hf*w.one.a/\(w.sc hf).b=16384/AM hf*w.one.b/\(w.sc hf).c=16384/AM hf*w.one.c/\(w.sc hf).d=16384/AM hf*w.one.d:=
 of_decide_eq_true (Ds (C:=λw hf=>decide ((w.sc hf).a=16384/AM hf*w.one.a/\(w.sc hf).b=16384/AM hf*w.one.b/\(w.sc hf).c=16384/AM hf*w.one.c/\(w.sc hf).d=16384/AM hf*w.one.d)) (by kernel_rfl) w hf)
theorem f6 {hf:Bool}{x y a c:Int}(he:hf=true->x%2=0/\y%2=0):(16384/AM hf*a*x+16384/AM hf*c*y+8192)/16384=(a*x+c*y)/AM hf:=by
 rw[Int.mul_assoc,Int.mul_assoc,<-Int.mul_add]
 cases hf
 ·show(16384*_+8192)/16384=_/1;exact(Int.le_antisymm ((Ws 0x488885010048888302034050153848888124061288882302034888853001048888537100025) (m0 16383) (mq 16383) (mo 0) (mq 0)) ((Ws 0x4888850100128888230203488885340504888853814888824064888830203001015374888800025) (m0 0) (mq 0) (mo 16383) (mq 16383)))
 ·have h:(a*x+c*y)%2=0:=Int.emod_eq_zero_of_dvd (Int.dvd_add (Int.dvd_mul_of_dvd_right (Int.dvd_of_emod_eq_zero (he rfl).1)) (Int.dvd_mul_of_dvd_right (Int.dvd_of_emod_eq_zero (he rfl).2)))
  show(8192*_+8192)/16384=_/2;exact(Int.le_antisymm ((Ws 0x488885020028888403030050253812888824030328888531020488885371100252888802007) h (m0 16383) (mq 16383) (mq 1)) ((Ws 0x4888850100128888230203288885340504888853814888824062888830203001025372888802008) h (mq 1) (mo 16383) (mq 16383)))
theorem fm {w:AD}{hf:Bool}{p:Pt}(hu:Xo w hf=true)(he:hf=true->p.1%2=0/\p.2%2=0):Ir (w.sc hf) p=Bq w.one (AM hf) p:=by
 refine Cz (iB w hf) λh1 h2 h3 h4=>?_
 show(_,_)=(_,_)
 rw[h1,h2,h3,h4,f6 he,f6 he]
theorem fU {p:Pt}:Bq AD.asis.one (AM false) p=p:=by
 have q68_:=p
 show(_,_)=(_,_);simp only[AD.one,AM,Prod.mk.injEq];exact⟨(Int.le_antisymm ((Ht 0x120100130052015300101537100025) (m0 0) (mq 0)) ((Ht 0x110200130052015300101538112006) (mo 0) (mq 0))),(Int.le_antisymm ((Ht 0x130100130152005300101537100025) (m0 0) (mq 0)) ((Ht 0x110300130152005300101538112006) (mo 0) (mq 0)))⟩
noncomputable def Od (w:AD)(hf:Bool)(cs:List (List Pt)):List (List Pt):=cs.map λc=>c.map (Bq w.one (AM hf))
theorem bS {w:AD}{hf:Bool}{cs:List (List Pt)}(he:hf=true->HV cs):GH (Xo w hf) (w.sc hf) cs=Od w hf cs:=by
 unfold Od
 cases hu:Xo w hf
 ·cases w<;>cases hf<;>first|(exact(tf hu).elim;done)|skip
  show cs=_
  have:(λc:List Pt=>c.map (Bq AD.asis.one (AM false)))=id:=by
   funext c
   have:Bq AD.asis.one (AM false)=id:=by funext p;exact fU
   rw[this,List.map_id];rfl
  rw[this,List.map_id]
 ·show cs.map _=_
  exact List.map_congr_left λc hc=>List.map_congr_left λp hp=>fm hu λz=>he z c hc p hp
theorem KY {α:Type}:∀{l:List α}{i:Nat},i<l.length->∃x,nth l i=some x
 |[],_,q=>absurd q (Nat.not_lt_zero _)
 |a::_,0,_=>⟨a,rfl⟩
 |_::l,i+1,q=>KY (l:=l) (Nat.lt_of_succ_lt_succ q)
noncomputable def DA (cs:List (List Pt)):List Nat:=cs.map List.length
theorem ER {f:Pt->Pt}{cs:List (List Pt)}:DA (cs.map λc=>c.map f)=DA cs:=by
 unfold DA;rw[List.map_map];exact List.map_congr_left λc _=>List.length_map _
theorem HR {cs:List (List Pt)}:cs.flatten.length=(DA cs).sum:=by unfold DA;rw[List.length_flatten]
theorem Oa {cs:List (List Pt)}:(DA cs).length=cs.length:=by unfold DA;rw[List.length_map]
theorem Wj {cs:List (List Pt)}{m:Nat}(h:∀x∈DA cs,x<=m):∀c∈cs,c.length<=m:=λc hc=>h _ (List.mem_map_of_mem hc)
theorem UM {p:PR}{cs F:List (List Pt)}(he:p.hf=true->HV cs)(hl:F.length+cs.length<=1000)(hc:∀c∈cs,c.length<=1000)(hF:F.flatten.length<=1000)
  (hcs:cs.flatten.length<=1000)(ha:p.mv=false->0<=p.a/\p.a.toNat<F.flatten.length/\0<=p.b/\p.b.toNat<cs.flatten.length):
  ∃X,DA X=DA cs/\(∀n h,(A.den (n+3)).fn 52 [p.v,Aw cs,Aw F] h=some (Aw X,h))/\(∀n h ls v1,(A.den (n+1)).fn 104 [.lst ls,.int p.g] h=some (A0 cs,h)->NG n h ls v1 (DK p.g p.w p.hf (!p.mv) p.a p.b) F X)/\
   ∃dx dy,X=(Od p.w p.hf cs).map λc=>c.map (CJ dx dy):=by
 obtain⟨g,w,hf,mv,a,b⟩:=p
 dsimp only at*
 have hfe:=bS (w:=w) he
 have hlc:(Od w hf cs).flatten.length=cs.flatten.length:=by rw[HR,HR];exact congrArg List.sum ER
 cases mv
 ·refine Cz (ha rfl) λh1 h2 h3 h4=>?_
  obtain⟨q1,e1⟩:=KY h2
  rw[<-hlc] at h4
  obtain⟨q2,e2⟩:=KY h4
  refine⟨(Od w hf cs).map λc=>c.map (CJ (q1.1 - q2.1) (q1.2 - q2.2)),ER.trans ER,λn h=>?_,λn h ls v1 rec=>?_,_,_,rfl⟩
  ·have:=VR (n:=n) (g:=g) (h:=h) (out:=F) (w.ok hf) (Xs w hf) (by exact((AR 0x11fd8211210201411fd82110139) hl)) hc h1 h3 e1 (by rw[hfe];exact e2) (by exact((Ao 0x13ec9988201211fd82019) hF)) (by rw[hfe,hlc];exact((Ao 0x13ec9988201211fd82019) hcs))
   rw[hfe] at this
   exact this
  ·exact UG λt3 t4 t5 t6 t7 t8 t9 t10 t11 t12 t13 t14 t15 t16 t17 t18 t19 t20 t21 t22 t23 t24 t25 t26=>⟨_,rfl,OT (by exact rec) hl hc h1 h3 e1 e2 (by exact((Ao 0x13ec9988201211fd82019) hF)) (by show(Od w hf cs).flatten.length<=_;rw[hlc];exact((Ao 0x13ec9988201211fd82019) hcs))⟩
 ·refine⟨(Od w hf cs).map λc=>c.map (CJ a b),ER.trans ER,λn h=>?_,λn h ls v1 rec=>?_,_,_,rfl⟩
  ·have:=Vv (n:=n) (g:=g) (a:=a) (b:=b) (out:=F) (h:=h) (w.ok hf) (Xs w hf) (by exact((AR 0x11fd8211210201411fd82110139) hl)) hc
   rw[hfe] at this
   exact this
  ·exact UG λt3 t4 t5 t6 t7 t8 t9 t10 t11 t12 t13 t14 t15 t16 t17 t18 t19 t20 t21 t22 t23 t24 t25 t26=>⟨_,rfl,cH (by exact rec) hl hc⟩
end Mine.Internal.Q
end
section
set_option maxRecDepth 10000
namespace Mine.Internal.Q
noncomputable def EC (h:Hp):Prop:=∃a b,h=[.lst [.int a,.int b]]/\0<=b/\b<2000000
section
variable {h:Hp}{n:Nat}
theorem HK:AY .pow (.int 10) (.int 15)=some (.int 1000000000000000):=by kernel_rfl
theorem UY {is:List Int}:∃h',(A.den (n+1)).fn 98 [.lst (is.map V.int)] []=some (.ref 0,h')/\EC h':=by
 obtain⟨d,e1,e2⟩:∃d,Av .ne (.lst (is.map V.int)) (.lst [])=some (!is.isEmpty)/\∀s:Hp,(!is.isEmpty)=true->BF (.lst (is.map V.int)) (.int 0) s=some (.int d):=by
  cases is with
  |nil=>exact⟨0,rfl,λs h=>nomatch h⟩
  |cons i is=>exact⟨i,rfl,λs _=>rfl⟩
 have e3:ev A.tb (A.den n) (.ite (.tst (.cmp .ne (.var 0) (.lst []))) (.sub (.var 0) (.cst (.int 0))) (.cst (.int 0))) ⟨[.val (.lst (is.map V.int)),.un,.un],[]⟩=some (.int (if is.isEmpty then 0 else d),⟨[.val (.lst (is.map V.int)),.un,.un],[]⟩):=by
  cases hb:is.isEmpty
  ·have e2':=e2 [] (by rw[hb];rfl)
   rw[hb] at e1
   simp only[Bool.not_false,Bool.false_eq_true,if_false] at e1 ⊢
   exact eC 12 λK=>K e1 e2'
  ·rw[hb] at e1
   simp only[Bool.not_true,if_true] at e1 ⊢
   exact eC 4 λK=>K e1
 generalize (if is.isEmpty then 0 else d)=z at e3
 clear e1 e2
 by_cases hz:0<=z
 ·by_cases hq:1000000000000000<=z
  ·refine⟨[.lst [.int z,.int (z%999961*523%1000003+11)]],?_,_,_,rfl,by exact((Aj 0x11b2003020100025) (m0 1000002)),by exact((Aj 0x17d8aa8821b2003113ec998b2006) (mo 1000002))⟩
   exact fC 181 λK=>K e3 (Lg hz) HK (Lg hq) (BP ((Aj 0x10048888888889271100025) (m0 999960)) ((Aj 0x148888888889200113ec98b92006) (mo 999960)))
  ·refine⟨[.lst [.int 0,.int (z%999961*523%1000003+11)]],?_,_,_,rfl,by exact((Aj 0x11b2003020100025) (m0 1000002)),by exact((Aj 0x17d8aa8821b2003113ec998b2006) (mo 1000002))⟩
   exact fC 181 λK=>K e3 (Lg hz) HK (DC ((Aj 0x13cbaffacce9d88888200113cbaffacce9d888882006) (Int.not_le.mp hq))) (BP ((Aj 0x10048888888889271100025) (m0 999960)) ((Aj 0x148888888889200113ec98b92006) (mo 999960)))
 ·by_cases hq:1000000000000000<=7 - 4*z
  ·refine⟨[.lst [.int (7 - 4*z),.int ((7 - 4*z)%999961*523%1000003+11)]],?_,_,_,rfl,by exact((Aj 0x11b2003020100025) (m0 1000002)),by exact((Aj 0x17d8aa8821b2003113ec998b2006) (mo 1000002))⟩
   exact fC 709 λK=>K e3 (DC ((Aj 0x402001100457243cbaffacce9d8888825) hq)) HK (Lg hq) (BP ((Aj 0x10048888888889271100025) (m0 999960)) ((Aj 0x148888888889200113ec98b92006) (mo 999960)))
  ·refine⟨[.lst [.int 0,.int ((7 - 4*z)%999961*523%1000003+11)]],?_,_,_,rfl,by exact((Aj 0x11b2003020100025) (m0 1000002)),by exact((Aj 0x17d8aa8821b2003113ec998b2006) (mo 1000002))⟩
   exact fC 709 λK=>K e3 (DC ((Aj 0x102001102006) (Int.not_le.mp hz))) HK (DC ((Aj 0x13cbaffacce9d8888820045724113cbaffacce9d88888200457246) (Int.not_le.mp hq))) (BP ((Aj 0x10048888888889271100025) (m0 999960)) ((Aj 0x148888888889200113ec98b92006) (mo 999960)))
theorem BQ {m:Int}(l:EC h)(h0:0<m)(h1:m<1000):∃v h',(A.den (n+1)).fn 99 [.ref 0,.int m] h=some (.int v,h')/\0<=v/\v<m/\EC h':=by
 obtain⟨a,b,rfl,hb,hb2⟩:=l
 by_cases ha:0<a
 ·refine⟨a%m,[.lst [.int (a/m),.int b]],?_,Int.emod_nonneg _ (by exact(Int.ne_of_gt ((Aj 0x100021100026) h0))),Int.emod_lt_of_pos _ h0,_,_,rfl,hb,hb2⟩
  exact fC 42 λK=>K (Wi ha) (UC h0) (Mn h0 ((Aj 0x11888888888888888888888200111fd82006) h1))
 ·refine⟨(b*1009+611953)%1000003/13%m,[.lst [.int a,.int ((b*1009+611953)%1000003)]],?_,Int.emod_nonneg _ (by exact(Int.ne_of_gt ((Aj 0x100021100026) h0))),Int.emod_lt_of_pos _ h0,_,_,rfl,by exact((Aj 0x100020100025) (m0 1000002)),by exact((Aj 0x17d8aa88200113ec998b2006) (mo 1000002))⟩
  exact fC 522 λK=>K (Fo ((Aj 0x102000102005) (Int.not_lt.mp ha))) (BP ((Aj 0x10048888888889271100025) hb) ((Aj 0x148888888889200117d8aa882006) hb2)) (UC h0)
theorem H3 {l:List V}(q:EC h)(h0:0<l.length)(h1:l.length<1000):∃v h',(A.den (n+2)).fn 100 [.ref 0,.lst l] h=some (v,h')/\v∈l/\EC h':=by
 refine D8 (BQ (n:=n) (m:=l.length) q (by exact((Ao 0x101802110102a) h0)) (by exact((Ao 0x11fd82018111fd8201a) h1))) λi h' e e0 e1 q'=>?_
 obtain⟨v,ev⟩:=KY (l:=l) (i:=i.toNat) (by exact((E9 0x10111310011871018006) e1 (Int.toNat_of_nonneg e0)))
 have hm:∀{l:List V}{i:Nat}{v:V},nth l i=some v->v∈l:=λ{l}=>by
  induction l with
  |nil=>intro i v h;exact(ns h).elim
  |cons x l ih=>intro i v h;cases i with
   |zero=>refine AZ h ?_;exact List.mem_cons_self
   |succ i=>exact List.mem_cons_of_mem _ (ih h)
 refine⟨v,h',?_,hm ev,q'⟩
 have hlen:Be .len [.lst l]=some (.int l.length):=rfl
 have hs:BF (.lst l) (.int i) h'=some v:=by
  show(place i l.length).bind (nth l)=_
  rw[IZ e0 e1,Option.bind_some,ev]
 exact fC 7 λK=>K hlen e hs
theorem cT {v:Int}(a:0<=v)(b:v<2):v=0\/v=1:=(Int.lt_or_le v 1).imp (λh=>Int.le_antisymm (by exact((Aj 0x102000112006) h)) a) λh=>Int.le_antisymm (by exact((Aj 0x112000122006) b)) h
theorem jk {v:Int}(a:0<=v)(b:v<3):v=0\/v=1\/v=2:=(Int.lt_or_le v 1).imp (λh=>Int.le_antisymm (by exact((Aj 0x102000112006) h)) a) λh=>(Int.lt_or_le v 2).imp (λg=>Int.le_antisymm (by exact((Aj 0x112000122006) g)) h) λg=>Int.le_antisymm (by exact((Aj 0x122000132006) b)) g
theorem Ru (q:EC h):∃x y w t rev h',(A.den (n+3)).fn 101 [.ref 0] h=some (AH (Bu x y w t rev),h')/\BZ x y w t/\EC h':=by
 refine D8 (BQ (n:=n+1) (m:=2) q (by decide) (by decide)) λv1 h1 e1 a1 b1 q1=>?_
 refine D8 (BQ (n:=n+1) (m:=3) q1 (by decide) (by decide)) λv2 h2 e2 a2 b2 q2=>?_
 refine D8 (BQ (n:=n+1) (m:=2) q2 (by decide) (by decide)) λv3 h3 e3 a3 b3 q3=>?_
 refine D8 (BQ (n:=n+1) (m:=2) q3 (by decide) (by decide)) λv4 h4 e4 a4 b4 q4=>?_
 refine Co (H3 (n:=n) (l:=[.int 1,.int 1,.int (-1)]) q4 (by decide) (by decide)) λv5 h5 e5 m5 q5=>?_
 have hI:BZ (8*v1) (8*v2 - 8) (8*(1+v3)) (8*(1+v4)):=.of ((cT a1 b1).imp (λh=>by rw[h];rfl) λh=>by rw[h];rfl) ((jk a2 b2).imp (λh=>by rw[h];rfl) λh=>h.imp (λh=>by rw[h];rfl) λh=>by rw[h];rfl) ((cT a3 b3).imp (λh=>by rw[h];rfl) λh=>by rw[h];rfl) ((cT a4 b4).imp (λh=>by rw[h];rfl) λh=>by rw[h];rfl)
 have hv:v5=.int 1\/v5=.int (-1):=by
  simp only[List.mem_cons,List.not_mem_nil,or_false] at m5
  rcases m5 with h|h|h
  ·exact .inl h
  ·exact .inl h
  ·exact .inr h
 rcases hv with rfl|rfl
 ·refine⟨8*v1,8*v2 - 8,8*(1+v3),8*(1+v4),false,h5,?_,hI,q5⟩
  exact fC 524837 λK=>K e1 e2 e3 e4 e5
 ·refine⟨8*v1,8*v2 - 8,8*(1+v3),8*(1+v4),true,h5,?_,hI,q5⟩
  exact fC 524837 λK=>K e1 e2 e3 e4 e5
end
end Mine.Internal.Q
end
section
set_option maxRecDepth 10000
namespace Mine.Internal.Q
noncomputable def HL:V:=.str [97,115,32,105,116,32,105,115]
noncomputable def I9:List V:=[.str [97,98,111,117,116],.str [97,115,32,105,116,32,105,115],.str [98,97,99,107],.str [108,101,102,116],.str [108,111,119],.str [113,117,97,114,116,101,114]]
theorem LH:Be .sorted [RZ]=some (.lst I9):=by kernel_rfl
theorem OG {v:V}(h:v∈I9):∃w:AD,v=.str w.str:=by
 simp only[I9,List.mem_cons,List.not_mem_nil,or_false] at h
 rcases h with rfl|rfl|rfl|rfl|rfl|rfl
 ·exact⟨.about,rfl⟩
 ·exact⟨.asis,rfl⟩
 ·exact⟨.back,rfl⟩
 ·exact⟨.left,rfl⟩
 ·exact⟨.low,rfl⟩
 ·exact⟨.quarter,rfl⟩
theorem cJ {v:V}(h:v∈HL::HL::HL::I9):∃w:AD,v=.str w.str:=by
 rcases List.mem_cons.1 h with rfl|h
 ·exact⟨.asis,rfl⟩
 rcases List.mem_cons.1 h with rfl|h
 ·exact⟨.asis,rfl⟩
 rcases List.mem_cons.1 h with rfl|h
 ·exact⟨.asis,rfl⟩
 exact OG h
structure DrawOk (g ahead own:Int)(hf at':Bool)(a b:Int):Prop where
 half:hf=true->g<3
 place:at'=true->0<=a/\a<ahead/\0<=b/\b<own
 by_:at'=false-> -100<=a/\a<=1000/\ -100<=b/\b<=1000
section
variable {h:Hp}{n:Nat}
theorem YS (q:EC h){g:Int}{x2 x3 x4 x5 x6 x7 x8 x9:Slot}:∃hf h',ev A.tb (A.den (n+1)) (.and [(.cmp .lt (.var 1) (.cst (.int 3))),(.cmp .eq (.call 99 [(.var 0),(.cst (.int 4))]) (.cst (.int 0)))]) ⟨[.val (.ref 0),.val (.int g),x2,x3,x4,x5,x6,x7,x8,x9],h⟩=some (.bool hf,⟨[.val (.ref 0),.val (.int g),x2,x3,x4,x5,x6,x7,x8,x9],h'⟩)/\(hf=true->g<3)/\EC h':=by
 by_cases hg:g<3
 ·refine D8 (BQ (n:=n) (m:=4) q (by decide) (by decide)) λv h' e e0 e1 q'=>?_
  have hc:Av .eq (.int v) (.int 0)=some (decide (v=0)):=rfl
  refine⟨decide (v=0),h',?_,λ_=>hg,q'⟩
  exact eC 14 λK=>K (IY hg) e hc
 ·refine⟨false,h,?_,λz=>(nomatch z),q⟩
  exact eC 2 λK=>K (Cn ((Aj 0x100320100325) (Int.not_lt.mp hg)))
theorem eY (q:EC h){ahead:Int}{x1 x3 x4 x5 x6 x7 x8 x9:Slot}:∃at' h',Cd A.tb (A.den (n+1)) (.and [(.tst (.cmp .gt (.var 2) (.cst (.int 0)))),(.tst (.cmp .eq (.call 99 [(.var 0),(.cst (.int 2))]) (.cst (.int 0))))]) ⟨[.val (.ref 0),x1,.val (.int ahead),x3,x4,x5,x6,x7,x8,x9],h⟩=some (at',⟨[.val (.ref 0),x1,.val (.int ahead),x3,x4,x5,x6,x7,x8,x9],h'⟩)/\(at'=true->0<ahead)/\EC h':=by
 by_cases hg:0<ahead
 ·refine D8 (BQ (n:=n) (m:=2) q (by decide) (by decide)) λv h' e e0 e1 q'=>?_
  by_cases hv:v=0
  ·refine⟨true,h',?_,λ_=>hg,q'⟩
   exact tC 14 λK=>K (Wi hg) e (iM hv)
  ·refine⟨false,h',?_,λ_=>hg,q'⟩
   exact tC 14 λK=>K (Wi hg) e (iL (by lia))
 ·refine⟨false,h,?_,λz=>(nomatch z),q⟩
  exact tC 2 λK=>K (Fo ((Aj 0x102000102005) (Int.not_lt.mp hg)))
theorem T3 (q:EC h){g ahead own:Int}(ho:0<own)(ho2:own<1000)(ha:ahead<1000):∃w hf at' a b h',(A.den (n+4)).fn 102 [.ref 0,.int g,.int ahead,.int own] h=some (DK g w hf at' a b,h')/\DrawOk g ahead own hf at' a b/\EC h':=by
 refine Co (H3 (n:=n+1) (l:=HL::HL::HL::I9) q (by decide) (by decide)) λv1 h1 e1 m1 q1=>?_
 obtain⟨w,rfl⟩:=cJ m1
 refine Co (YS (n:=n+2) q1 (g:=g) (x2:=.val (.int ahead)) (x3:=.val (.int own)) (x4:=.un) (x5:=.un) (x6:=.un) (x7:=.un) (x8:=.un) (x9:=.un)) λhf h2 e2 c2 q2=>?_
 refine Co (eY (n:=n+2) q2 (ahead:=ahead) (x1:=.val (.int g)) (x3:=.val (.int own)) (x4:=.val (.str w.str)) (x5:=.val (.bool hf)) (x6:=.un) (x7:=.un) (x8:=.un) (x9:=.un)) λat' h3 e3 c3 q3=>?_
 cases at'
 ·refine D8 (BQ (n:=n+2) (m:=7) q3 (by decide) (by decide)) λv4 h4 e4 a4 b4 q4=>?_
  refine D8 (BQ (n:=n+2) (m:=7) q4 (by decide) (by decide)) λv5 h5 e5 a5 b5 q5=>?_
  refine Co (H3 (n:=n+1) (l:=[.int 0,.int 0,.int 0,.int 0,.int 0,.int 160]) q5 (by decide) (by decide)) λv6 h6 e6 m6 q6=>?_
  have hv:∃f,v6=.int f/\0<=f/\f<=160:=by
   simp only[List.mem_cons,List.not_mem_nil,or_false] at m6
   rcases m6 with h|h|h|h|h|h<;>exact⟨_,h,by decide,by decide⟩
  obtain⟨f,rfl,f0,f1⟩:=hv
  refine⟨w,hf,false,4*(v4 - 2)+f,4*(v5 - 2),h6,?_,⟨c2,λz=>(nomatch z),λ_=>⟨by exact((Fx 0x110220044531cc270110025400025) a4 f0),by exact((Fx 0x11fd821022004453012c82105472006) b4 f1),by exact((Aj 0x122004451cc270400025) a5),by exact((Aj 0x11fd8222004450472006) b5)⟩⟩,q6⟩
  exact fC 1068028 λK=>K EH LH (OZ (lb (la lr lr))) e1 e2 e3 (Ox (by decide) (by decide)) QJ e4 e5 e6
 ·refine D8 (BQ (n:=n+2) (m:=ahead) q3 (c3 rfl) ha) λv4 h4 e4 a4 b4 q4=>?_
  refine D8 (BQ (n:=n+2) (m:=own) q4 ho ho2) λv5 h5 e5 a5 b5 q5=>?_
  refine⟨w,hf,true,v4,v5,h5,?_,⟨c2,λ_=>⟨a4,b4,a5,b5⟩,λz=>(nomatch z)⟩,q5⟩
  exact fC 1020 λK=>K EH LH (OZ (lb (la lr lr))) e1 e2 e3 e4 e5
theorem Yk (q:EC h){g1 g2 o1 o2:Int}{P:V}(s1:∀s:Hp,BF P (.int g1) s=some (.int o1))(s2:∀s:Hp,BF P (.int g2) s=some (.int o2))(h1:0<o1)(h2:o1<100)(h3:0<o2)(h4:o2<100):
  ∃w hf at' a b w' hf' at2 a' b' h',(A.den (n+5)).fn 103 [.ref 0,.lst [.int g1,.int g2],P] h=some (.lst [DK g1 w hf at' a b,DK g2 w' hf' at2 a' b'],h')/\DrawOk g1 0 o1 hf at' a b/\DrawOk g2 o1 o2 hf' at2 a' b'/\EC h':=by
 obtain⟨w,hf,at',a,b,k1,e1,c1,q1⟩:=T3 (n:=n) q (g:=g1) (ahead:=0) (own:=o1) h1 (by exact((Aj 0x11fd8200111cc2006) h2)) (by decide)
 obtain⟨w',hf',at2,a',b',k2,e2,c2,q2⟩:=T3 (n:=n) q1 (g:=g2) (ahead:=0+o1) (own:=o2) h3 (by exact((Aj 0x11fd8200111cc2006) h4)) (by exact((Aj 0x11fd8200023111cc2006) h2))
 rw[Int.zero_add] at c2
 refine⟨w,hf,at',a,b,w',hf',at2,a',b',k2,?_,c1,c2,q2⟩
 have t1:=s1 h
 have t2:=s1 k1
 have t3:=s2 k1
 have t4:=s2 k2
 have ap:[DK g1 w hf at' a b]++[DK g2 w' hf' at2 a' b']=[DK g1 w hf at' a b,DK g2 w' hf' at2 a' b']:=rfl
 have ap0:([]:List V)++[DK g1 w hf at' a b]=[DK g1 w hf at' a b]:=rfl
 exact fC 7020 λK=>K t1 e1 ap0 t2 t3 e2 ap t4
end
end Mine.Internal.Q
end
section
set_option maxRecDepth 10000
namespace Mine.Internal.Q
noncomputable def gv (long:Bool)(p:Int):List Nat:=match long with|true=>Bb p|false=>Aq (p/2)
noncomputable def aE (long:Bool)(F:List Nat)(p:Int):List Nat:=F++gv long p
noncomputable def HQ (long:Bool)(ps:List Int):List Nat:=ps.foldl (aE long) []
noncomputable def Cp (long:Bool):List Int->List Nat
 |[]=>[]
 |p::ps=>gv long p++Cp long ps
theorem LY {long:Bool}:∀(ps:List Int)(F:List Nat),ps.foldl (aE long) F=F++Cp long ps
 |[],F=>(List.append_nil F).symm
 |p::ps,F=>(LY ps (aE long F p)).trans (List.append_assoc _ _ _)
noncomputable def DX (p0 p1 p2 p3 p4 p5:Int):V:=.lst [.int p0,.int p1,.int p2,.int p3,.int p4,.int p5]
section
variable {h:Hp}{n:Nat}
theorem ig {B1 B2 B3 B4 U1 U2 U3 U4:List Nat}{long:Bool}(u0:(A.den (n+2)).fn 16 [.bytes []] h=some (.bytes [],h))(u1:(A.den (n+2)).fn 16 [.bytes B1] h=some (.bytes U1,h))(u2:(A.den (n+2)).fn 16 [.bytes B2] h=some (.bytes U2,h))(u3:(A.den (n+2)).fn 16 [.bytes B3] h=some (.bytes U3,h))(u4:(A.den (n+2)).fn 16 [.bytes B4] h=some (.bytes U4,h))
  (l1:U1.length<=200)(l2:U2.length<=200)(l3:U3.length<=200)(l4:U4.length<=200):
  (A.den (n+3)).fn 89 [.lst [.bytes [],.bytes B1,.bytes B2,.bytes B3,.bytes B4],.bool long] h=some (.tup [.bytes (U1++U2++U3++U4),.bytes (HQ long [0,0,U1.length,(U1++U2).length,(U1++U2++U3).length,(U1++U2++U3++U4).length])],h):=by
 have b1:AY .add (.bytes []) (.bytes U1)=some (.bytes U1):=Al (a:=[]) (Nat.le_trans l1 (by decide))
 cases long
 ·exact fC 115290976457351944 λK=>fE (K u0 u1 (Al (lb (la (la lr lr) l1))) u2 (Al (lb (la (la (la lr lr) l1) l2))) u3 (Al (lb (la (la (la (la lr lr) l1) l2) l3))) u4 (Al (lb (la (la (la (la (la lr lr) l1) l2) l3) l4))) (DC (by simp only[List.length_append,List.length_replicate,List.length_cons,List.length_nil,List.length_take,List.length_drop,List.length_map,Le,Y9];lia)) AV AV AV (Al (lb (la (la (la lr lr) lr) lr))) AV (Al (lb (la (la (la (la lr lr) lr) lr) lr))) AV (Al (lb (la (la (la (la (la lr lr) lr) lr) lr) lr))) AV (Al (lb (la (la (la (la (la (la lr lr) lr) lr) lr) lr) lr)))) (by rfl)
 ·exact fC 482449407369992 λK=>fE (K u0 u1 (Al (lb (la (la lr lr) l1))) u2 (Al (lb (la (la (la lr lr) l1) l2))) u3 (Al (lb (la (la (la (la lr lr) l1) l2) l3))) u4 (Al (lb (la (la (la (la (la lr lr) l1) l2) l3) l4))) Au Au Au (Al (lb (la (la (la lr lr) lr) lr))) Au (Al (lb (la (la (la (la lr lr) lr) lr) lr))) Au (Al (lb (la (la (la (la (la lr lr) lr) lr) lr) lr))) Au (Al (lb (la (la (la (la (la (la lr lr) lr) lr) lr) lr) lr)))) (by rfl)
end
end Mine.Internal.Q
end
section
set_option maxRecDepth 10000
namespace Mine.Internal.Q
section
variable {h:Hp}{n:Nat}
theorem Q6:A4 (.rng 0 6 1)=some [.int 0,.int 1,.int 2,.int 3,.int 4,.int 5]:=by kernel_rfl
theorem Ut:Be .range [.int (5+1)]=some (.rng 0 6 1):=by kernel_rfl
theorem Qw {p:Int}(m:p%2=0)(h0:0<=p)(h1:p<131072):AY .mul (.int 2) (.int (p/2))=some (.int p):=by
 have e:2*(p/2)=p:=by exact(Int.le_antisymm ((FI 0x1201025012000102537102008) m (mq 1)) ((FI 0x1102520012000102538102007) m (mq 1)))
 exact congrArg (λx=>some (V.int x)) e
theorem QR {p:Int}(h0:0<=p):0<=p/2:=Int.ediv_nonneg h0 (by decide)
theorem Fw {p:Int}(h1:p<131072):p/2<65536:=Int.ediv_lt_of_lt_mul (by decide) h1
theorem h_ {p0 p1 p2 p3 p4 p5:Int}{long:Bool}(o0:0<=p0)(o1:p0<=p1)(o2:p1<=p2)(o3:p2<=p3)(o4:p3<=p4)(o5:p4<=p5)(o6:p5<131072)(m0:p0%2=0)(m1:p1%2=0)(m2:p2%2=0)(m3:p3%2=0)(m4:p4%2=0)(m5:p5%2=0):
  (A.den (n+3)).fn 32 [.bytes (HQ long [p0,p1,p2,p3,p4,p5]),.bool long,.int 5] h=some (DX p0 p1 p2 p3 p4 p5,h):=by
 have z1:=Int.le_trans o0 o1;have z2:=Int.le_trans z1 o2;have z3:=Int.le_trans z2 o3;have z4:=Int.le_trans z3 o4;have z5:=Int.le_trans z4 o5
 have y4:=Int.lt_of_le_of_lt o5 o6;have y3:=Int.lt_of_le_of_lt o4 y4;have y2:=Int.lt_of_le_of_lt o3 y3;have y1:=Int.lt_of_le_of_lt o2 y2;have y0:=Int.lt_of_le_of_lt o1 y1
 cases long
 ·have w:HQ false [p0,p1,p2,p3,p4,p5]=Cp false [p0,p1,p2,p3,p4,p5]:=LY _ _
  rw[w]
  have q0:At (Cp false [p0,p1,p2,p3,p4,p5]) (2*0) _:=At.all rfl (Nat.le_of_ble_eq_true rfl)
  have q1:At (Cp false [p0,p1,p2,p3,p4,p5]) (2*1) _:=q0.skip2
  have q2:At (Cp false [p0,p1,p2,p3,p4,p5]) (2*2) _:=q1.skip2
  have q3:At (Cp false [p0,p1,p2,p3,p4,p5]) (2*3) _:=q2.skip2
  have q4:At (Cp false [p0,p1,p2,p3,p4,p5]) (2*4) _:=q3.skip2
  have q5:At (Cp false [p0,p1,p2,p3,p4,p5]) (2*5) _:=q4.skip2
  have e0:=CA (n:=n+1) (h:=h) q0 (QR o0) (Fw y0)
  have e1:=CA (n:=n+1) (h:=h) q1 (QR z1) (Fw y1)
  have e2:=CA (n:=n+1) (h:=h) q2 (QR z2) (Fw y2)
  have e3:=CA (n:=n+1) (h:=h) q3 (QR z3) (Fw y3)
  have e4:=CA (n:=n+1) (h:=h) q4 (QR z4) (Fw y4)
  have e5:=CA (n:=n+1) (h:=h) q5 (QR z5) (Fw o6)
  have t0:=Qw m0 o0 y0;have t1:=Qw m1 z1 y1;have t2:=Qw m2 z2 y2;have t3:=Qw m3 z3 y3;have t4:=Qw m4 z4 y4;have t5:=Qw m5 z5 o6
  have bl:Be .len [.bytes (Cp false [p0,p1,p2,p3,p4,p5])]=some (.int 12):=rfl
  clear q0 q1 q2 q3 q4 q5 w
  generalize Cp false [p0,p1,p2,p3,p4,p5]=W at*
  exact fC 331098299023590168 λK=>K Ut Q6 e0 t0 e1 t1 (Cn o1) e2 t2 (Cn o2) e3 t3 (Cn o3) e4 t4 (Cn o4) e5 t5 (Cn o5) bl
 ·have w:HQ true [p0,p1,p2,p3,p4,p5]=Cp true [p0,p1,p2,p3,p4,p5]:=LY _ _
  rw[w]
  have q0:At (Cp true [p0,p1,p2,p3,p4,p5]) (4*0) _:=At.all rfl (Nat.le_of_ble_eq_true rfl)
  have q1:At (Cp true [p0,p1,p2,p3,p4,p5]) (4*1) _:=q0.skip4
  have q2:At (Cp true [p0,p1,p2,p3,p4,p5]) (4*2) _:=q1.skip4
  have q3:At (Cp true [p0,p1,p2,p3,p4,p5]) (4*3) _:=q2.skip4
  have q4:At (Cp true [p0,p1,p2,p3,p4,p5]) (4*4) _:=q3.skip4
  have q5:At (Cp true [p0,p1,p2,p3,p4,p5]) (4*5) _:=q4.skip4
  have e0:=CR (n:=n) (h:=h) q0 o0 (Int.lt_trans y0 (by decide))
  have e1:=CR (n:=n) (h:=h) q1 z1 (Int.lt_trans y1 (by decide))
  have e2:=CR (n:=n) (h:=h) q2 z2 (Int.lt_trans y2 (by decide))
  have e3:=CR (n:=n) (h:=h) q3 z3 (Int.lt_trans y3 (by decide))
  have e4:=CR (n:=n) (h:=h) q4 z4 (Int.lt_trans y4 (by decide))
  have e5:=CR (n:=n) (h:=h) q5 z5 (Int.lt_trans o6 (by decide))
  have bl:Be .len [.bytes (Cp true [p0,p1,p2,p3,p4,p5])]=some (.int 24):=rfl
  clear q0 q1 q2 q3 q4 q5 w
  generalize Cp true [p0,p1,p2,p3,p4,p5]=W at*
  exact fC 5139401927704856 λK=>K Ut Q6 e0 e1 (Cn o1) e2 (Cn o2) e3 (Cn o3) e4 (Cn o4) e5 (Cn o5) bl
noncomputable def W3 (long:Bool):Int:=match long with|true=>1|false=>0
noncomputable def NN (X:List Nat)(b0 b1 b2 b3:Int)(long:Bool):List Nat:=Bb 65536++(Bb 65536++(X++(Bb 1594834165++(Aq 0++(Aq 16++(List.replicate 16 0++(Aq b0++(Aq b1++(Aq b2++(Aq b3++(Aq 0++(Aq 8++(Aq 2++(Aq (W3 long)++Aq 0))))))))))))))
noncomputable def NP (b0 b1 b2 b3:Int)(long:Bool):V:=.obj 7 [(21,.int 16),(22,.tup [.int b0,.int b1,.int b2,.int b3]),(23,.bool long),(24,.int 0),(25,.int 0)]
section
variable {b0 b1 b2 b3:Int}{long:Bool}
theorem ij (c0: -32768<=b0)(c1:b0<=32767)(c2: -32768<=b1)(c3:b1<=32767)(c4: -32768<=b2)(c5:b2<=32767)(c6: -32768<=b3)(c7:b3<=32767):(A.den (n+3)).fn 67 [NP b0 b1 b2 b3 long] h=some (.bytes (NN (Bb 0) b0 b1 b2 b3 long),h):=by
 cases long
 ·exact fC 8382698394288 λK=>fE (K Au Au Au Au (Cq (by decide) (by decide)) (Cq (by decide) (by decide)) (JF (by decide) (by decide)) (B5 c0 c1) (Al (lb (la (la (la (la (la (la (la lr lr) lr) lr) lr) lr) lr) lr))) (B5 c2 c3) (Al (lb (la (la (la (la (la (la (la (la lr lr) lr) lr) lr) lr) lr) lr) lr))) (B5 c4 c5) (Al (lb (la (la (la (la (la (la (la (la (la lr lr) lr) lr) lr) lr) lr) lr) lr) lr))) (B5 c6 c7) (Al (lb (la (la (la (la (la (la (la (la (la (la lr lr) lr) lr) lr) lr) lr) lr) lr) lr) lr))) (Cq (by decide) (by decide)) (Al (lb (la (la (la (la (la (la (la (la (la (la (la lr lr) lr) lr) lr) lr) lr) lr) lr) lr) lr) lr))) AV (Al (lb (la (la (la (la (la (la (la (la (la (la (la (la lr lr) lr) lr) lr) lr) lr) lr) lr) lr) lr) lr) lr))) AV (Al (lb (la (la (la (la (la (la (la (la (la (la (la (la (la lr lr) lr) lr) lr) lr) lr) lr) lr) lr) lr) lr) lr) lr))) AV (Al (lb (la (la (la (la (la (la (la (la (la (la (la (la (la (la lr lr) lr) lr) lr) lr) lr) lr) lr) lr) lr) lr) lr) lr) lr))) AV (Al (lb (la (la (la (la (la (la (la (la (la (la (la (la (la (la (la lr lr) lr) lr) lr) lr) lr) lr) lr) lr) lr) lr) lr) lr) lr) lr)))) (by rfl)
 ·exact fC 8382698394288 λK=>fE (K Au Au Au Au (Cq (by decide) (by decide)) (Cq (by decide) (by decide)) (JF (by decide) (by decide)) (B5 c0 c1) (Al (lb (la (la (la (la (la (la (la lr lr) lr) lr) lr) lr) lr) lr))) (B5 c2 c3) (Al (lb (la (la (la (la (la (la (la (la lr lr) lr) lr) lr) lr) lr) lr) lr))) (B5 c4 c5) (Al (lb (la (la (la (la (la (la (la (la (la lr lr) lr) lr) lr) lr) lr) lr) lr) lr))) (B5 c6 c7) (Al (lb (la (la (la (la (la (la (la (la (la (la lr lr) lr) lr) lr) lr) lr) lr) lr) lr) lr))) (Cq (by decide) (by decide)) (Al (lb (la (la (la (la (la (la (la (la (la (la (la lr lr) lr) lr) lr) lr) lr) lr) lr) lr) lr) lr))) AV (Al (lb (la (la (la (la (la (la (la (la (la (la (la (la lr lr) lr) lr) lr) lr) lr) lr) lr) lr) lr) lr) lr))) AV (Al (lb (la (la (la (la (la (la (la (la (la (la (la (la (la lr lr) lr) lr) lr) lr) lr) lr) lr) lr) lr) lr) lr) lr))) AV (Al (lb (la (la (la (la (la (la (la (la (la (la (la (la (la (la lr lr) lr) lr) lr) lr) lr) lr) lr) lr) lr) lr) lr) lr) lr))) AV (Al (lb (la (la (la (la (la (la (la (la (la (la (la (la (la (la (la lr lr) lr) lr) lr) lr) lr) lr) lr) lr) lr) lr) lr) lr) lr) lr)))) (by rfl)
theorem Sv {u b c d e:V}:(A.den (n+1)).ini 7 [u,b,c,d,e] h=some ([(21,u),(22,b),(23,c),(24,d),(25,e)],h):=by kernel_rfl
theorem Qb {u b c:V}:(A.den (n+1)).ini 7 [u,b,c] h=some ([(21,u),(22,b),(23,c),(24,.int 0),(25,.int 0)],h):=by kernel_rfl
theorem il {X:List Nat}(hX:X.length=4)(c0: -32768<=b0)(c1:b0<=32767)(c2: -32768<=b1)(c3:b1<=32767)(c4: -32768<=b2)(c5:b2<=32767)(c6: -32768<=b3)(c7:b3<=32767):(A.den (n+3)).fn 66 [.bytes (NN X b0 b1 b2 b3 long)] h=some (NP b0 b1 b2 b3 long,h):=by
 have hl:(NN X b0 b1 b2 b3 long).length=54:=by show(Bb 65536++(Bb 65536++(X++_))).length=54;rw[List.length_append,List.length_append,List.length_append,hX];rfl
 obtain⟨W,hW⟩:∃W,W=NN X b0 b1 b2 b3 long:=⟨_,rfl⟩
 have q0:=At.all hW (by rw[hW,hl];decide)
 rw[<-hW] at hl ⊢
 have q8:=At.skip4 (x:=65536) (i:=4) (At.skip4 (x:=65536) (i:=0) q0)
 have q12:At W 12 _:=q8.sk4 hX
 have q16:At W 16 _:=q12.skip4
 have q18:At W 18 _:=q16.skip2
 have q36:At W 36 _:=At.skip (p:=List.replicate 16 0) q18.skip2
 have q38:At W 38 _:=q36.skip2
 have q40:At W 40 _:=q38.skip2
 have q42:At W 42 _:=q40.skip2
 have q44:At W 44 _:=q42.skip2
 have q50:At W 50 _:=q44.skip2.skip2.skip2
 have Ac:=CR (n:=n) (h:=h) q12 (by decide) (by decide)
 have cM:=CA (n:=n+1) (h:=h) q16 (by decide) (by decide)
 have e18:=CA (n:=n+1) (h:=h) q18 (by decide) (by decide)
 have Q9:=G6 (n:=n) (h:=h) q36 c0 c1
 have e38:=G6 (n:=n) (h:=h) q38 c2 c3
 have e40:=G6 (n:=n) (h:=h) q40 c4 c5
 have Xn:=G6 (n:=n) (h:=h) q42 c6 c7
 have Xe:=CA (n:=n+1) (h:=h) q44 (by decide) (by decide)
 have e50:=CA (n:=n+1) (h:=h) q50 (by cases long<;>decide) (by cases long<;>decide)
 have bl:Be .len [.bytes W]=some (.int 54):=by show some (V.int (W.length:Int))=_;rw[hl];rfl
 have lg:Av .eq (.int (W3 long)) (.int 1)=some long:=by cases long<;>rfl
 have lg2:Av .gt (.int (W3 long)) (.int 1)=some false:=by cases long<;>rfl
 clear q0 q8 q12 q16 q18 q36 q38 q40 q42 q44 q50 hW hl
 exact fC 259989 λK=>K bl Ac e18 Q9 e38 e40 Xn e50 lg2 lg cM Xe Sv
end
end
end Mine.Internal.Q
end
section
set_option maxRecDepth 10000
namespace Mine.Internal.Q
noncomputable def AG (adv:Int)(o p:V):V:=.obj 12 [(39,.int adv),(40,.int 0),(41,o),(42,p),(22,.tup [.int 0,.int 0,.int 0,.int 0])]
noncomputable def mn (a b:Int):Int:=if b<a then b else a
noncomputable def mx (a b:Int):Int:=if a<b then b else a
theorem RW {a b l:Int}(h1:l<=a)(h2:l<=b):l<=mn a b:=by unfold mn;split<;>assumption
theorem Tn {a b u:Int}(h1:a<=u)(h2:b<=u):mn a b<=u:=by unfold mn;split<;>assumption
theorem SV {a b l:Int}(h1:l<=a)(h2:l<=b):l<=mx a b:=by unfold mx;split<;>assumption
theorem So {a b u:Int}(h1:a<=u)(h2:b<=u):mx a b<=u:=by unfold mx;split<;>assumption
theorem FD {a b:Int}:Be .min [.int a,.int b]=some (.int (mn a b)):=rfl
theorem FF {a b:Int}:Be .max [.int a,.int b]=some (.int (mx a b)):=rfl
section
variable {h:Hp}{n:Nat}{a:Int}{o p:V}{s:St}
theorem Cv {m k:Nat}(q:A.tb.mth 12 m=some k):CX A.tb (AG a o p) m h=some k:=q
theorem Xz:(A.den (n+1)).fn 91 [AG a .none .none] h=some (.bytes [],h):=by
 exact fC 0 λK=>K
theorem QQ {cs:List (List Pt)}{B:List Nat}(e:(A.den n).fn 85 [A7 cs []] h=some (.bytes B,h)):(A.den (n+1)).fn 91 [AG a (A7 cs []) .none] h=some (.bytes B,h):=by
 exact fC 64 λK=>K e
theorem QM {l:List V}{B:List Nat}(e:(A.den n).fn 88 [.lst l,.tup [.int 0,.int 0,.int 0,.int 0]] h=some (.bytes B,h)):(A.den (n+1)).fn 91 [AG a .none (.lst l)] h=some (.bytes B,h):=by
 exact fC 16 λK=>K e
theorem FQ:(A.den (n+1)).fn 92 [AG a .none p] h=some (.tup [.int 0,.int 0],h):=by
 exact fC 0 λK=>K
theorem Km {c:List Pt}(e:c.length=4):(A.den (n+2)).fn 92 [AG a (A7 [c] []) p] h=some (.tup [.int 4,.int 1],h):=by
 have e1:(A.den (n+1)).fn 1 [A7 [c] []] h=some (AF c,h):=by
  have:=FY (n:=n) (cs:=[c]) (ins:=[]) (h:=h) (by simp[e])
  simpa using this
 have e2:Be .len [AF c]=some (.int 4):=by rw[D6,e];rfl
 have e3:Be .len [Aw [c]]=some (.int 1):=rfl
 exact fC 312 λK=>K (E5 rfl) e1 e2 e3
set_option maxHeartbeats 9999999 in
theorem bC {a0 a1 a2 a3 a4:Int}{c1 c2:List Pt}{l3 l4:List V}{x1 y1 z1 w1 x2 y2 z2 w2:Int}(e1:c1.length=4)(e2:c2.length=4)(f1:(A.den (n+2)).fn 3 [A7 [c1] []] h=some (.tup [.int x1,.int y1,.int z1,.int w1],h))(f2:(A.den (n+2)).fn 3 [A7 [c2] []] h=some (.tup [.int x2,.int y2,.int z2,.int w2],h)):
  (A.den (n+3)).fn 94 [.lst [AG a0 .none .none,AG a1 (A7 [c1] []) .none,AG a2 (A7 [c2] []) .none,AG a3 .none (.lst l3),AG a4 .none (.lst l4)]] h=some (.tup [.int (mn (mn (mn x1 x2) 0) 0),.int (mn (mn (mn y1 y2) 0) 0),.int (mx (mx (mx z1 z2) 0) 0),.int (mx (mx (mx w1 w2) 0) 0)],h):=by
 have g1:=Km (n:=n) (h:=h) (a:=a1) (p:=.none) e1
 have g2:=Km (n:=n) (h:=h) (a:=a2) (p:=.none) e2
 exact fC 181049642835551400141289095360 λK=>K (Cv rfl) FQ (E5 rfl) f1 (Cv rfl) g1 (E5 rfl) f2 (Cv rfl) g2 FD FD FF FF (Cv rfl) FQ FD FD FF FF (Cv rfl) FQ FD FD FF FF
end
end Mine.Internal.Q
end
section
set_option maxRecDepth 20000
set_option maxHeartbeats 9999999
namespace Mine.Internal.Q
noncomputable def T4:V:=.dct [(.int 97,.int 1),(.int 98,.int 2),(.int 99,.int 3),(.int 100,.int 4)]
noncomputable def SJ (made:List V)(long:Bool):V:=.obj 13 [(43,.lst made),(44,T4),(45,.lst [.tup [.int 3,.int 1,.int 4]]),(38,.tup []),(21,.int 16),(23,.bool long),(34,.tup [.int 800,.int (-200),.int 90])]
section
variable {n:Nat}{h:Hp}{made:List V}{long:Bool}{s:St}
theorem Um {a b c d e:V}:Be .len [.lst [a,b,c,d,e]]=some (.int 5):=rfl
theorem aQ {a:V}:Be .len [.lst [a]]=some (.int 1):=rfl
theorem Yl:Be .len [.tup []]=some (.int 0):=rfl
theorem PU {a b c d:V}:(A.den (n+1)).ini 8 [a,b,c,d] h=some ([(26,a),(27,b),(28,c),(29,d)],h):=by kernel_rfl
theorem jx:(A.den (n+1)).fn 96 [.lst [.int 0,.int 4,.int 4,.int 0,.int 0]] h=some (.int 4,h):=by kernel_rfl
theorem jl:(A.den (n+1)).fn 96 [.lst [.int 0,.int 1,.int 1,.int 0,.int 0]] h=some (.int 1,h):=by kernel_rfl
theorem iU:(A.den (n+1)).fn 96 [.lst [.int 8,.int 16,.int 16,.int 24,.int 24]] h=some (.int 24,h):=by kernel_rfl
theorem Yu {o1 o2:V}{l3 l4:List V}{B1 B2 B3 B4 Gl Lo HB W:List Nat}{b0 b1 b2 b3:Int}
  (e0:(A.den (n+12)).fn 91 [AG 8 .none .none] h=some (.bytes [],h))(e1:(A.den (n+12)).fn 91 [AG 16 o1 .none] h=some (.bytes B1,h))(e2:(A.den (n+12)).fn 91 [AG 16 o2 .none] h=some (.bytes B2,h))(e3:(A.den (n+12)).fn 91 [AG 24 .none (.lst l3)] h=some (.bytes B3,h))(e4:(A.den (n+12)).fn 91 [AG 24 .none (.lst l4)] h=some (.bytes B4,h))
  (wg:(A.den (n+12)).fn 89 [.lst [.bytes [],.bytes B1,.bytes B2,.bytes B3,.bytes B4],.bool long] h=some (.tup [.bytes Gl,.bytes Lo],h))
  (p0:(A.den (n+12)).fn 92 [AG 8 .none .none] h=some (.tup [.int 0,.int 0],h))(p1:(A.den (n+12)).fn 92 [AG 16 o1 .none] h=some (.tup [.int 4,.int 1],h))(p2:(A.den (n+12)).fn 92 [AG 16 o2 .none] h=some (.tup [.int 4,.int 1],h))(p3:(A.den (n+12)).fn 92 [AG 24 .none (.lst l3)] h=some (.tup [.int 0,.int 0],h))(p4:(A.den (n+12)).fn 92 [AG 24 .none (.lst l4)] h=some (.tup [.int 0,.int 0],h))
  (wb:(A.den (n+12)).fn 94 [.lst [AG 8 .none .none,AG 16 o1 .none,AG 16 o2 .none,AG 24 .none (.lst l3),AG 24 .none (.lst l4)]] h=some (.tup [.int b0,.int b1,.int b2,.int b3],h))
  (wh:(A.den (n+12)).fn 67 [.obj 7 [(21,.int 16),(22,.tup [.int b0,.int b1,.int b2,.int b3]),(23,.bool long),(24,.int 0),(25,.int 0)]] h=some (.bytes HB,h))
  (wt:(A.den (n+12)).fn 31 [.obj 1 [(2,.dct [(.str [103,108,121,102],.bytes Gl),(.str [108,111,99,97],.bytes Lo),(.str [104,109,116,120],.bytes HM),(.str [104,101,97,100],.bytes HB),(.str [109,97,120,112],.bytes MX),(.str [104,104,101,97],.bytes HH),(.str [99,109,97,112],.bytes CM)])]] h=some (.bytes W,h)):
  (A.den (n+13)).fn 95 [SJ [AG 8 .none .none,AG 16 o1 .none,AG 16 o2 .none,AG 24 .none (.lst l3),AG 24 .none (.lst l4)] long] h=some (.bytes W,h):=by
 have wm:=Tr (n:=n) (h:=h)
 have wx:=ZF (n:=n) (h:=h)
 have wl:=Y3 (n:=n) (h:=h)
 have wc:=cE (n:=n) (h:=h)
 have wp:(A.den (n+12)).fn 63 [.int 4,T4] h=some (.bytes (CM.drop 12),h):=eW
 exact fC 8419075522628000885319624817682 λK=>K Um aQ (Cv rfl) e0 (Cv rfl) e1 (Cv rfl) e2 (Cv rfl) e3 (Cv rfl) e4 wg wm (Cv rfl) p0 (Cv rfl) p1 (Cv rfl) p2 (Cv rfl) p3 (Cv rfl) p4 wb Qb wh Um jx jl wx iU PU wl wp wc Yl Hb wt
end
end Mine.Internal.Q
end
section
set_option maxRecDepth 20000
set_option maxHeartbeats 9999999
namespace Mine.Internal.Q
noncomputable def RY:List S:=[.ass 9 (.bin .fdiv (.glb 32) (.ite (.tst (.var 7)) (.cst (.int 2)) (.cst (.int 1)))),.ass 10 (.bi .tuple [(.comp (.bin .mul (.var 9) (.var 13)) (.one 13) (.sub (.call 97 []) (.var 6)) none)]),.app 4 (.new 4 [(.var 5),(.sub (.var 8) (.cst (.int 1))),(.sub (.var 8) (.cst (.int 2))),(.cmp .eq (.sub (.var 8) (.cst (.int 0))) (.cst (.str [98,121]))),(.var 10)])]
section
variable {n:Nat}{h:Hp}
theorem WQ {s:Sc}:A4 s.v=some [.int s.a,.int s.b,.int s.c,.int s.d]:=rfl
theorem UN {a b c d:V}:Be .tuple [.lst [a,b,c,d]]=some (.tup [a,b,c,d]):=rfl
theorem Iv {a b c d e:V}:(A.den (n+1)).ini 4 [a,b,c,d,e] h=some ([(9,a),(10,b),(11,c),(12,d),(13,e)],h):=by kernel_rfl
theorem dz {w:AD}{hf:Bool}:V.tup [.int (16384/AM hf*w.one.a),.int (16384/AM hf*w.one.b),.int (16384/AM hf*w.one.c),.int (16384/AM hf*w.one.d)]=(w.sc hf).v:=by cases w<;>cases hf<;>rfl
noncomputable def gY (a:Bool):List Nat:=match a with|true=>[97,116]|false=>[98,121]
structure Dp where
 w:AD
 hf:Bool
 at':Bool
 a:Int
 b:Int
noncomputable def Dp.v (p:Dp)(g:Int):V:=DK g p.w p.hf p.at' p.a p.b
noncomputable def Dp.r (p:Dp)(g:Int):PR:=⟨g,p.w,p.hf,!p.at',p.a,p.b⟩
noncomputable def gE (g:Int)(p:Dp)(x y:Slot):List Slot:=[.val (.int g),.val (.str p.w.str),.val (.bool p.hf),.val (DB p.at' p.a p.b),.val (.int (16384/AM p.hf)),.val (.tup [.int (16384/AM p.hf*p.w.one.a),.int (16384/AM p.hf*p.w.one.b),.int (16384/AM p.hf*p.w.one.c),.int (16384/AM p.hf*p.w.one.d)]),x,y,.val (.int p.w.one.d)]
theorem Xf {acc:List V}{s0 s1 s2 s3 t5 t6 t7 t8 t9 t10 t11 t12 t13:Slot}{g:Int}{p:Dp}(hl:acc.length<=1000):B7 A.tb (A.den (n+1)) (.many [5,6,7,8]) RY (p.v g) ⟨[s0,s1,s2,s3,.ul acc,t5,t6,t7,t8,t9,t10,t11,t12,t13],h⟩=some (.nxt,⟨s0::s1::s2::s3::.ul (acc++[(p.r g).v])::gE g p t11 t12,h⟩):=by
 obtain⟨w,hf,at',a,b⟩:=p
 have ok:=w.one_ok
 have q22_:=ok
 have hfl:AO (acc.length+1)=true:=Ci (by exact((Ao 0x1188888888212013211fd82019) hl))
 have k0:∀s:Hp,BF (DB at' a b) (.int 0) s=some (.str (gY at')):=λs=>by cases at'<;>rfl
 have hby:Av .eq (.str (gY at')) (.str [98,121])=some (!at'):=by cases at'<;>rfl
 have k0':=k0 h
 show _=some (Fl.nxt,(⟨[s0,s1,s2,s3,.ul (acc++[.obj 4 [(9,.int g),(10,.int a),(11,.int b),(12,.bool (!at')),(13,(w.sc hf).v)]]),.val (.int g),.val (.str w.str),.val (.bool hf),.val (DB at' a b),.val (.int (16384/AM hf)),.val (.tup [.int (16384/AM hf*w.one.a),.int (16384/AM hf*w.one.b),.int (16384/AM hf*w.one.c),.int (16384/AM hf*w.one.d)]),t11,t12,.val (.int w.one.d)],h⟩:St))
 rw[<-dz (w:=w) (hf:=hf)]
 cases hf
 ·show _=some (Fl.nxt,(⟨[s0,s1,s2,s3,.ul (acc++[.obj 4 [(9,.int g),(10,.int a),(11,.int b),(12,.bool (!at')),(13,.tup [.int (16384/1*w.one.a),.int (16384/1*w.one.b),.int (16384/1*w.one.c),.int (16384/1*w.one.d)])]]),.val (.int g),.val (.str w.str),.val (.bool false),.val (DB at' a b),.val (.int (16384/1)),.val (.tup [.int (16384/1*w.one.a),.int (16384/1*w.one.b),.int (16384/1*w.one.c),.int (16384/1*w.one.d)]),t11,t12,.val (.int w.one.d)],h⟩:St))
  exact oC 260124 λK=>K EH NR WQ UN JQ KH k0' hby Iv hfl
 ·show _=some (Fl.nxt,(⟨[s0,s1,s2,s3,.ul (acc++[.obj 4 [(9,.int g),(10,.int a),(11,.int b),(12,.bool (!at')),(13,.tup [.int (16384/2*w.one.a),.int (16384/2*w.one.b),.int (16384/2*w.one.c),.int (16384/2*w.one.d)])]]),.val (.int g),.val (.str w.str),.val (.bool true),.val (DB at' a b),.val (.int (16384/2)),.val (.tup [.int (16384/2*w.one.a),.int (16384/2*w.one.b),.int (16384/2*w.one.c),.int (16384/2*w.one.d)]),t11,t12,.val (.int w.one.d)],h⟩:St))
  exact oC 260124 λK=>K EH NR WQ UN JQ KH k0' hby Iv hfl
theorem b_ {s0 s1 s2 s3 t5 t6 t7 t8 t9 t10 t11 t12 t13:Slot}{g g':Int}{p q:Dp}:Ct (B7 A.tb (A.den (n+1)) (.many [5,6,7,8]) RY) [p.v g,q.v g'] ⟨[s0,s1,s2,s3,.ul [],t5,t6,t7,t8,t9,t10,t11,t12,t13],h⟩=some (.nxt,⟨s0::s1::s2::s3::.ul [(p.r g).v,(q.r g').v]::gE g' q t11 t12,h⟩):=
 BN (Xf (acc:=[]) (Nat.zero_le _)) (BN (Xf (acc:=[_]) (by show 1<=1000;decide)) rfl)
noncomputable def cst:List Pt->Slot->Slot->Slot×Slot
 |[],x,y=>(x,y)
 |p::r,_,_=>cst r (.val (.int p.1)) (.val (.int p.2))
theorem SH {D:Den}{t0 t1 t2 t3 t4 t5 t6 t7 t8 t9 t10 t13:Slot}:∀{c:List Pt}{t11 t12:Slot},BW (Bi A.tb D (.tup [(.var 11),(.var 12),(.cst (.bool true))]) (.many [11,12]) none) (c.map CB) ⟨[t0,t1,t2,t3,t4,t5,t6,t7,t8,t9,t10,t11,t12,t13],h⟩=some (c.map Bm,⟨[t0,t1,t2,t3,t4,t5,t6,t7,t8,t9,t10,(cst c t11 t12).1,(cst c t11 t12).2,t13],h⟩)
 |[],_,_=>rfl
 |p::c,t11,t12=>Mh (jC:=⟨[t0,t1,t2,t3,t4,t5,t6,t7,t8,t9,t10,.val (.int p.1),.val (.int p.2),t13],h⟩) (by
   show _=some (some (V.tup [.int p.1,.int p.2,.bool true]),_)
   exact cC 0 λK=>K) SH
end
end Mine.Internal.Q
end
section
set_option maxRecDepth 20000
set_option maxHeartbeats 9999999
namespace Mine.Internal.Q
section
variable {n:Nat}{h:Hp}
theorem cL {a b:V}:(A.den (n+1)).ini 12 [a,b] h=some ([(39,a),(40,b),(41,.none),(42,.none),(22,.tup [.int 0,.int 0,.int 0,.int 0])],h):=by kernel_rfl
theorem UL {a b c:V}:(A.den (n+1)).ini 12 [a,b,c] h=some ([(39,a),(40,b),(41,c),(42,.none),(22,.tup [.int 0,.int 0,.int 0,.int 0])],h):=by kernel_rfl
theorem UE {a b c d:V}:(A.den (n+1)).ini 12 [a,b,c,d] h=some ([(39,a),(40,b),(41,c),(42,d),(22,.tup [.int 0,.int 0,.int 0,.int 0])],h):=by kernel_rfl
theorem UD {u:V}:(A.den (n+1)).ini 0 [u] h=some ([(0,u),(1,.bytes [])],h):=by kernel_rfl
theorem Zo {a b c d e f:V}:(A.den (n+1)).ini 13 [a,b,c,d,e,f] h=some ([(43,a),(44,b),(45,c),(38,d),(21,e),(23,f),(34,.tup [.int 800,.int (-200),.int 90])],h):=by kernel_rfl
theorem Yb {c1 c2:List Pt}{g1 g2 g3 g4:Int}{p1 p2 p3 p4:Dp}{long:Bool}{fs:List (Nat×V)}{W:List Nat}{h':Hp}(l1:c1.length<=1000)(l2:c2.length<=1000)
  (bt:(A.den (n+1)).fn 95 [SJ [AG 8 .none .none,AG 16 (.obj 0 [(0,.lst [.lst (c1.map Bm)]),(1,.bytes [])]) .none,AG 16 (.obj 0 [(0,.lst [.lst (c2.map Bm)]),(1,.bytes [])]) .none,AG 24 .none (.lst [(p1.r g1).v,(p2.r g2).v]),AG 24 .none (.lst [(p3.r g3).v,(p4.r g4).v])] long] h=some (.bytes W,h))
  (fi:(A.den (n+1)).ini 11 [.bytes W] h=some (fs,h')):(A.den (n+2)).fn 105 [.lst [.none,.lst (c1.map CB),.lst (c2.map CB),.lst [p1.v g1,p2.v g2],.lst [p3.v g3,p4.v g4]],.bool long] h=some (.obj 11 fs,h'):=by
 have fb1:AO (c1.map Bm).length=true:=Bt (by exact((Ao 0x1188888888201211fd82019) l1))
 have fb2:AO (c2.map Bm).length=true:=Bt (by exact((Ao 0x1188888888201211fd82019) l2))
 have f3:=@b_ n h
 unfold RY at f3
 have itq:∀l:List V,A4 (.lst l)=some l:=λ_=>rfl
 exact fC 61780421971329 λK=>K cL SH (CK fb1) UD UL SH (CK fb2) UD UL f3 UE f3 UE Zo bt fi
end
end Mine.Internal.Q
end
section
set_option maxRecDepth 20000
set_option maxHeartbeats 9999999
namespace Mine.Internal.Q
noncomputable def Uq:V:=.obj 8 [(26,.int 800),(27,.int (-200)),(28,.int 90),(29,.int 4)]
noncomputable def Fu (Tb Hd:V)(k:Nat):List (Nat×V):=[(32,Tb),(33,Hd),(34,Uq),(35,.ref k),(36,SM),(37,MT),(38,.obj 10 [(2,.lst [])])]
section
variable {n:Nat}{h:Hp}{p0 p1 p2 p3 p4 p5:Int}{G:List Nat}{a b:Int}{k:Nat}
theorem G0 {a b c d e f g:List Nat}{m k:Nat}(q:A.tb.mth 1 m=some k):CX A.tb (R7 a b c d e f g) m h=some k:=q
theorem V3 {x y:V}:(A.den (n+1)).ini 5 [x,y] h=some ([(7,x),(14,y),(15,.lst [.int 0,.int 0])],h):=by kernel_rfl
theorem SP {x:V}:(A.den (n+1)).ini 10 [x] h=some ([(2,x)],h):=by kernel_rfl
theorem aG {W Gl Lo HB:List Nat}{b0 b1 b2 b3:Int}{long:Bool}{P:V}(rt:(A.den (n+12)).fn 26 [.bytes W] h=some (R7 CM Gl HB HH HM Lo MX,h))(rh:(A.den (n+12)).fn 66 [.bytes HB] h=some (NP b0 b1 b2 b3 long,h))(rl:(A.den (n+12)).fn 32 [.bytes Lo,.bool long,.int 5] h=some (P,h)):
  (A.den (n+13)).ini 11 [.bytes W] h=some (Fu (R7 CM Gl HB HH HM Lo MX) (NP b0 b1 b2 b3 long) h.length,h++[AL Gl P 0 0]):=by
 have r1:(A.den (n+12)).fn 71 [.bytes HH] h=some (Uq,h):=Xy
 have r2:=XR (n:=n) (h:=h)
 have r3:=Zk (n:=n) (h:=h++[AL Gl P 0 0])
 have r4:=Uh (n:=n) (h:=h++[AL Gl P 0 0])
 unfold AL at r3 r4 ⊢
 exact iC 763228159 λK=>K rt (G0 rfl) R6 rh (G0 rfl) RH r1 (G0 rfl) R8 r2 (G0 rfl) RB rl (G0 rfl) SI V3 (G0 rfl) Rz r3 (G0 rfl) Sy r4 (G0 rfl) RE SP
theorem Oo (g:Int){pg pg1:Int}{B:List Nat}(hk:nth h k=some (AL G (DX p0 p1 p2 p3 p4 p5) a b))(h0:0<=g)(h5:g<5)(s1:∀s:Hp,BF (DX p0 p1 p2 p3 p4 p5) (.int g) s=some (.int pg))(s2:∀s:Hp,BF (DX p0 p1 p2 p3 p4 p5) (.int (g+1)) s=some (.int pg1))
  (e:(A.den (n+1)).fn 15 [.bytes G,.int pg,.int (pg1 - pg)] h=some (.bytes B,h)):(A.den (n+2)).fn 49 [.ref k,.int g] h=some (.bytes B,h):=by
 have hk':nth h k=some (.ins 5 [(7,.bytes G),(14,DX p0 p1 p2 p3 p4 p5),(15,.lst [.int a,.int b])]):=hk
 have b6:Be .len [DX p0 p1 p2 p3 p4 p5]=some (.int 6):=rfl
 have cnt:(A.den (n+1)).fn 48 [.ref k] h=some (.int 5,h):=by
  exact fC 3 λK=>K (CD hk' (by decide) rfl) b6
 have t1:=s1 h
 have t2:=s2 h
 have mg:=EA hk (m:=8) (f:=48) rfl
 exact fC 12031 λK=>K (Cn h0) mg cnt (DC h5) (CD hk' (by decide) rfl) (CD hk' (by decide) rfl) t1 (CD hk' (by decide) rfl) t2 (CD hk' (by decide) rfl) t1 e
end
end Mine.Internal.Q
end
section
set_option maxRecDepth 20000
namespace Mine.Internal.Q
section
variable {k:Nat}{G:List Nat}{P:V}{ls:List V}
theorem RO.mono {nn:Nat}{g u v u' v':Int}{ab:List V}{cs:List (List Pt)}(q:RO nn k G P g ab cs u v)(hu:u<=u')(hv:v<=v'):RO nn k G P g ab cs u' v':=λh a b hk h1 h2=>by
 refine MC (q h a b hk (by exact((FI 0x11888820020301188882102035110005) hu h1)) (by exact((FI 0x148888882002030148888882102035110005) hv h2))) λh' a' b' e k' l1 l2=>?_
 exact⟨h',a',b',e,k',by exact((Ht 0x110303200100303205110005) hu l1),by exact((Ht 0x110303200100303205110005) hv l2)⟩
structure EV (k:Nat)(G:List Nat)(P:V)(ls:List V)(g:Int)(c:List Pt):Prop where
 lc:∀n h,(A.den (n+1)).fn 104 [.lst ls,.int g] h=some (A0 [c],h)
 ro:∀n,RO (n+6) k G P g [.int 3] [c] 0 4/\RO (n+6) k G P g [.int 4] [c] 0 4/\RO (n+6) k G P g [.int 4,.int 3] [c] 0 4
 top:∀n h a b,nth h k=some (AL G P a b)->∃h' a' b',(A.den (n+6)).fn 50 [.ref k,.int g] h=some (A7 [c] [],h')/\nth h' k=some (AL G P a' b')
 len:c.length=4
 even:HV [c]
structure AnyL (k:Nat)(G:List Nat)(P:V)(ls:List V)(g:Int)(cs:List (List Pt))(m:Nat):Prop where
 lc:∀n h,(A.den (n+2)).fn 104 [.lst ls,.int g] h=some (A0 cs,h)
 ro:∀n,RO (n+7) k G P g [.int 4] cs 10 100
 len:cs.flatten.length=m
 num:cs.length<=2
 all:∀c∈cs,c.length<=8
 even:g<3->HV cs
theorem EV.any {g:Int}{c:List Pt}(q:EV k G P ls g c):AnyL k G P ls g [c] 4:=
 ⟨λn h=>q.lc (n+1) h,λn=>(q.ro (n+1)).2.1.mono (by decide) (by decide),by simpa using q.len,Nat.le_of_ble_eq_true rfl,λd hd=>by rw[List.mem_singleton.1 hd,q.len];decide,λ_=>q.even⟩
theorem TV {g:Int}{B Z:List Nat}{p q r s:Pt}(hg:g=1\/g=2)(S:Fb B p q r s=true)(hZ:Z.length<=100)(hgl:∀n h a b,nth h k=some (AL G P a b)->(A.den (n+2)).fn 49 [.ref k,.int g] h=some (.bytes (B++Z),h))
  (hs:∀s':Hp,BF (.lst ls) (.int g) s'=some (AH [p,q,r,s]))(he:HV [[p,q,r,s]]):EV k G P ls g [p,q,r,s]:=by
 have hg1:Av .isIn (.int g) (.lst [.int 1,.int 2])=some true:=by rcases hg with rfl|rfl<;>rfl
 refine⟨λn h=>dU hs hg1,λn=>⟨?_,?_,?_⟩,λn h a b hk=>Vr S hZ (λh a b hk=>hgl (n+3) h a b hk) hk,rfl,he⟩
 ·exact Lx (m:=1) S hZ (λh a b hk=>hgl (n+3) h a b hk) rfl (by rcases hg with rfl|rfl<;>rfl) rfl (by decide)
 ·exact Lx (m:=1) S hZ (λh a b hk=>hgl (n+3) h a b hk) rfl (by rcases hg with rfl|rfl<;>rfl) rfl (by decide)
 ·exact Lx (m:=2) S hZ (λh a b hk=>hgl (n+3) h a b hk) rfl (by rcases hg with rfl|rfl<;>rfl) rfl (by decide)
theorem PR.mk_ok {g a b:Int}{w:AD}{hf at':Bool}{ahead own:Int}(h0:0<=g)(h1:g<=10)(d:DrawOk g ahead own hf at' a b)(ha:ahead<=100)(hb:own<=100):(PR.mk g w hf (!at') a b).ok:=by
 refine⟨h0,by show g<_;exact((Aj 0x1288888200111a2005) h1),λh=>?_,λh=>?_⟩
 ·have:at'=false:=by cases at'<;>simp_all
  refine Cz (d.by_ this) λq1 q2 q3 q4=>?_
  exact⟨by show _<=a;exact((Aj 0x1001888882701001cc275) q1),by show a<=_;exact((Aj 0x17ffff200011fd82005) q2),by show _<=b;exact((Aj 0x1001888882701001cc275) q3),by show b<=_;exact((Aj 0x17ffff200011fd82005) q4)⟩
 ·have:at'=true:=by cases at'<;>simp_all
  refine Cz (d.place this) λq1 q2 q3 q4=>?_
  exact⟨q1,by show a<_;exact((Fx 0x1488210110010611cc2005) ha q2),q3,by show b<_;exact((Fx 0x1488210110010611cc2005) hb q4)⟩
theorem F8 {X cs:List (List Pt)}(h:DA X=DA cs):X.flatten.length=cs.flatten.length/\X.length=cs.length/\∀m,(∀c∈cs,c.length<=m)->∀c∈X,c.length<=m:=by
 refine⟨by rw[HR,HR,h],by rw[<-Oa,h,Oa],λm hm=>Wj (λx hx=>?_)⟩
 rw[h] at hx
 obtain⟨c,hc,rfl⟩:=List.mem_map.1 hx
 exact hm c hc
theorem E2 {g:Int}{w:AD}{hf at':Bool}{a b ahead own:Int}{cs F:List (List Pt)}{m:Nat}(L:AnyL k G P ls g cs m)(d:DrawOk g ahead own hf at' a b)(hm:own=m)(hF:ahead=F.flatten.length)(hF2:F.length<=100)(hF3:F.flatten.length<=100)(hm2:m<=100):
  ∃X,DA X=DA cs/\(∀n h,(A.den (n+3)).fn 52 [(PR.mk g w hf (!at') a b).v,Aw cs,Aw F] h=some (Aw X,h))/\(∀n h v1,(A.den (n+1)).fn 104 [.lst ls,.int g] h=some (A0 cs,h)->NG n h ls v1 (DK g w hf at' a b) F X):=by
 have hn:=L.num
 have hl:=L.len
 obtain⟨X,q7_⟩:=UM (p:=PR.mk g w hf (!at') a b) (cs:=cs) (F:=F) (λh=>L.even (d.half h)) (by exact((AR 0x11fd8211013212211911cc2019) hF2 hn)) (λc hc=>by have:=L.all c hc;exact((Ao 0x11fd820121182019) this)) (by exact((Ao 0x11fd8201211cc2019) hF3)) (by exact((AR 0x11fd8211210111b11cc2019) hm2 hl)) (λh=>by
  have:at'=true:=by cases at'<;>simp_all
  refine Cz (d.place this) λq1 q2 q3 q4=>?_
  exact⟨q1,by show a.toNat<_;exact((i9 0x10111311011871001061018007) hF q2 (Int.toNat_of_nonneg q1)),q3,by show b.toNat<_;exact((jo 0x111213110218710010610111c1018007) hm hl q4 (Int.toNat_of_nonneg q3))⟩)
 refine⟨X,q7_.1,q7_.2.1,λn h v1 lc=>?_⟩
 have:=q7_.2.2.1 n h ls v1 lc
 rw[show(!(PR.mk g w hf (!at') a b).mv)=at' from Bool.not_not at'] at this
 exact this
end
end Mine.Internal.Q
end
section
set_option maxRecDepth 20000
namespace Mine.Internal.Q
section
variable {k:Nat}{G:List Nat}{P:V}{ls:List V}
theorem aX {one other a1 b1 a2 b2:Int}{w1 w2:AD}{Fw hf2:Bool}{co cp:List Pt}{Z:List Nat}(ho:one=1\/one=2)(hp:other=1\/other=2)(R1:EV k G P ls one co)(R2:EV k G P ls other cp)(d1:DrawOk one 0 4 Fw false a1 b1)(d2:DrawOk other 4 4 hf2 true a2 b2)
  (hs:∀s:Hp,BF (.lst ls) (.int 3) s=some (.lst [DK one w1 Fw false a1 b1,DK other w2 hf2 true a2 b2]))(hZ:Z.length<=100)
  (hgl:∀n h a b,nth h k=some (AL G P a b)->(A.den (n+2)).fn 49 [.ref k,.int 3] h=some (.bytes (BS (PR.mk one w1 Fw true a1 b1) (PR.mk other w2 hf2 false a2 b2)++Z),h)):
  ∃cs,AnyL k G P ls 3 cs 8/\∀n h a b,nth h k=some (AL G P a b)->∃h' a' b',(A.den (n+7)).fn 50 [.ref k,.int 3] h=some (A7 cs [],h')/\nth h' k=some (AL G P a' b'):=by
 have c1:=R1.len
 have c2:=R2.len
 have o1:(PR.mk one w1 Fw true a1 b1).ok:=PR.mk_ok (at':=false) (by omega) (by omega) d1 (by decide) (by decide)
 have o2:(PR.mk other w2 hf2 false a2 b2).ok:=PR.mk_ok (at':=true) (by omega) (by omega) d2 (by decide) (by decide)
 refine CP (E2 (w:=w1) (F:=[]) (m:=4) R1.any d1 rfl rfl (by decide) (by decide) (by decide)) λX1 h1 e1 s1=>?_
 refine BH (F8 h1) λf1 n1 g1=>?_
 have f1':X1.flatten.length=4:=by rw[f1];simpa using c1
 have n1':X1.length=1:=n1
 obtain⟨X2,q25_⟩:=E2 (w:=w2) (F:=X1) (m:=4) R2.any d2 rfl (by rw[f1'];rfl) (by exact((Ao 0x11cc201211202301b) n1)) (by exact((Ao 0x11cc201214201b) f1')) (by decide)
 refine BH (F8 q25_.1) λf2 n2 g2=>?_
 have f2':X2.flatten.length=4:=by rw[f2];simpa using c2
 have n2':X2.length=1:=n2
 refine⟨X1++X2,⟨λn h=>?_,λn=>?_,by rw[List.flatten_append,List.length_append,f1',f2'],by rw[List.length_append,n1',n2'];decide,λc hc=>?_,λz=>absurd z (by decide)⟩,λn h a b hk=>?_⟩
 ·exact W4 hs rfl (s1 n h _ (R1.lc n h)) (q25_.2.2 n h _ (R2.lc n h))
 ·refine RO.mono (YT (n:=n) (m:=1) (ab2:=[.int 4,.int 3]) hZ o1 o2 (λh a b hk=>hgl (n+4) h a b hk) rfl rfl rfl (by decide) rfl (R1.ro n).2.2 (R2.ro n).2.2 (λh=>e1 (n+3) h) (λh=>q25_.2.1 (n+3) h) (by exact((AR 0x11fd8211013211202311b11202301b) n1 n2)) (by decide) (by decide) (by decide) (by decide)) (by decide) (by decide)
 ·rcases List.mem_append.1 hc with hc|hc
  ·exact g1 8 (λd hd=>by rw[List.mem_singleton.1 hd,c1];decide) c hc
  ·exact g2 8 (λd hd=>by rw[List.mem_singleton.1 hd,c2];decide) c hc
 ·exact Pr (n:=n) hZ o1 o2 (λh a b hk=>hgl (n+4) h a b hk) (R1.ro n).1 (R2.ro n).1 (λh=>e1 (n+3) h) (λh=>q25_.2.1 (n+3) h) (by exact((AR 0x11fd8211013211202311b11202301b) n1 n2)) (by decide) (by decide) (by decide) (by decide) (by decide) (by decide) hk
theorem Z0 {l3 l4 a3 b3 a4 b4:Int}{m3 m4:Nat}{w3 w4:AD}{hf3 hf4 at3 at4:Bool}{cs3 cs4:List (List Pt)}{Z:List Nat}(ho:1<=l3/\l3<=3)(hp:1<=l4/\l4<=3)(R3:AnyL k G P ls l3 cs3 m3)(R4:AnyL k G P ls l4 cs4 m4)(hm3:m3<=8)(hm4:m4<=8)(d3:DrawOk l3 0 m3 hf3 at3 a3 b3)(d4:DrawOk l4 m3 m4 hf4 at4 a4 b4)
  (hs:∀s:Hp,BF (.lst ls) (.int 4) s=some (.lst [DK l3 w3 hf3 at3 a3 b3,DK l4 w4 hf4 at4 a4 b4]))(hZ:Z.length<=100)
  (hgl:∀n h a b,nth h k=some (AL G P a b)->(A.den (n+2)).fn 49 [.ref k,.int 4] h=some (.bytes (BS (PR.mk l3 w3 hf3 (!at3) a3 b3) (PR.mk l4 w4 hf4 (!at4) a4 b4)++Z),h)):
  ∃cs,(∀n h,(A.den (n+3)).fn 104 [.lst ls,.int 4] h=some (A0 cs,h))/\cs.length<=100/\(∀c∈cs,c.length<=100)/\∀n h a b,nth h k=some (AL G P a b)->∃h' a' b',(A.den (n+8)).fn 50 [.ref k,.int 4] h=some (A7 cs [],h')/\nth h' k=some (AL G P a' b'):=by
 have c1:=R3.len
 have c2:=R4.len
 have k1:=R3.num
 have k2:=R4.num
 have o1:(PR.mk l3 w3 hf3 (!at3) a3 b3).ok:=PR.mk_ok (by exact((Aj 0x100020100125) ho.1)) (by exact((Aj 0x11a2000132005) ho.2)) d3 (by decide) (by exact((Ao 0x11cc201801182019) hm3))
 have o2:(PR.mk l4 w4 hf4 (!at4) a4 b4).ok:=PR.mk_ok (by exact((Aj 0x100020100125) hp.1)) (by exact((Aj 0x11a2000132005) hp.2)) d4 (by exact((Ao 0x11cc201801182019) hm3)) (by exact((Ao 0x11cc201801182019) hm4))
 refine CP (E2 (w:=w3) (F:=[]) R3 d3 rfl rfl (by decide) (by decide) (by exact((Ao 0x11cc20121182019) hm3))) λX1 h1 e1 s1=>?_
 refine BH (F8 h1) λf1 n1 g1=>?_
 refine CP (E2 (w:=w4) (F:=X1) R4 d4 rfl (by rw[f1,c1]) (by exact((AR 0x11cc211210111b122019) k1 n1)) (by exact((BM 0x11cc221211121b10111b1182019) hm3 c1 f1)) (by exact((Ao 0x11cc20121182019) hm4))) λX2 h2 e2 s2=>?_
 refine BH (F8 h2) λf2 n2 g2=>?_
 refine⟨X1++X2,λn h=>?_,by rw[List.length_append];exact((Ft 0x11cc231213211131b10121b122119122019) k1 k2 n1 n2),λc hc=>?_,λn h a b hk=>?_⟩
 ·exact W4 (n:=n+1) hs rfl (s1 (n+1) h _ (R3.lc n h)) (s2 (n+1) h _ (R4.lc n h))
 ·rcases List.mem_append.1 hc with hc|hc
  ·exact Nat.le_trans (g1 8 R3.all c hc) (by decide)
  ·exact Nat.le_trans (g2 8 R4.all c hc) (by decide)
 ·exact Pr (n:=n+1) hZ o1 o2 (λh a b hk=>hgl (n+5) h a b hk) (R3.ro n) (R4.ro n) (λh=>e1 (n+4) h) (λh=>e2 (n+4) h) (by exact((Ft 0x11fd8231213211131b10121b122119122019) k1 k2 n1 n2)) (by decide) (by decide) (by decide) (by decide) (by decide) (by decide) hk
end
end Mine.Internal.Q
end
section
set_option maxRecDepth 20000
namespace Mine.Internal.Q
theorem E7 {f:V->V->Option Bool}:∀{l:List V},(∀x∈l,f x x=some true)->CI f l l=some true
 |[],_=>rfl
 |a::l,h=>by
  show(match f a a with|some c=>(match CI f l l with|some d=>some (c&&d)|none=>none)|none=>none)=_
  rw[h a List.mem_cons_self];dsimp only
  rw[E7 (l:=l) λx hx=>h x (List.mem_cons_of_mem _ hx)];rfl
theorem Zy {p:Pt}:V.eqb 6 (Bm p) (Bm p)=some true:=by
 show CI (V.eqb 5) [.int p.1,.int p.2,.bool true] [.int p.1,.int p.2,.bool true]=_
 exact E7 λx hx=>by
  simp only[List.mem_cons,List.not_mem_nil,or_false] at hx
  rcases hx with rfl|rfl|rfl
  ·exact congrArg some (decide_eq_true rfl)
  ·exact congrArg some (decide_eq_true rfl)
  ·rfl
theorem VD {cs:List (List Pt)}:Av .ne (.lst (cs.map AF)) (.lst (cs.map AF))=some false:=by
 have:V.eqb 8 (.lst (cs.map AF)) (.lst (cs.map AF))=some true:=by
  show CI (V.eqb 7) (cs.map AF) (cs.map AF)=_
  refine E7 λx hx=>?_
  obtain⟨c,hc,rfl⟩:=List.mem_map.1 hx
  show CI (V.eqb 6) (c.map Bm) (c.map Bm)=_
  refine E7 λy hy=>?_
  obtain⟨p,hp,rfl⟩:=List.mem_map.1 hy
  exact Zy
 show(V.eqb 8 _ _).map (!·)=_
 rw[this];rfl
noncomputable def Sh:List S:=[.assC 3 (.comp (.comp (.tup [(.var 5),(.var 6),(.cst (.bool true))]) (.many [5,6]) (.var 4) none) (.one 4) (.call 104 [(.var 0),(.var 2)]) none),.iff (.tst (.cmp .ne (.comp (.bi .list [(.var 7)]) (.one 7) (.att (.mth (.var 1) 11 [(.var 2)]) 0) none) (.var 3))) [.ret (.cst (.bool false))] []]
section
variable {n k:Nat}{h h':Hp}{ls:List V}{fs:List (Nat×V)}
theorem jj {D:Den}{v0 v1 v2 v3 t7:Slot}(cs:List (List Pt))(hc:∀c∈cs,c.length<=1000)(t4 t5 t6:Slot):∃t4' t5' t6',BW (Bi A.tb D (.comp (.tup [(.var 5),(.var 6),(.cst (.bool true))]) (.many [5,6]) (.var 4) none) (.one 4) none) (cs.map AH) ⟨[v0,v1,v2,v3,t4,t5,t6,t7],h⟩=some (cs.map AF,⟨[v0,v1,v2,v3,t4',t5',t6',t7],h⟩):=by
 obtain⟨r',e,t4',t5',t6',rfl⟩:=E4 (f:=Bi A.tb D (.comp (.tup [(.var 5),(.var 6),(.cst (.bool true))]) (.many [5,6]) (.var 4) none) (.one 4) none) (h:=h) (g:=AH) (out:=AF)
  (λr=>∃t4 t5 t6,r=[v0,v1,v2,v3,t4,t5,t6,t7]) cs (λc hcm r ⟨t4,t5,t6,hr⟩=>by
   subst hr
   obtain⟨r',e,t5',t6',rfl⟩:=E4 (f:=Bi A.tb D (.tup [(.var 5),(.var 6),(.cst (.bool true))]) (.many [5,6]) none) (h:=h) (g:=CB) (out:=Bm)
    (λr=>∃t5 t6,r=[v0,v1,v2,v3,.val (AH c),t5,t6,t7]) c (λp hp r ⟨t5,t6,hr⟩=>by
     subst hr
     refine⟨[v0,v1,v2,v3,.val (AH c),.val (.int p.1),.val (.int p.2),t7],?_,_,_,rfl⟩
     show _=some (some (V.tup [.int p.1,.int p.2,.bool true]),_)
     exact cC 0 λK=>K) [v0,v1,v2,v3,.val (AH c),t5,t6,t7] ⟨_,_,rfl⟩
   have hb:AO (c.map Bm).length=true:=Bt (by have:=hc c hcm;exact((Ao 0x1188888888201211fd82019) this))
   refine⟨[v0,v1,v2,v3,.val (AH c),t5',t6',t7],?_,_,_,_,rfl⟩
   show _=some (some (V.lst (c.map Bm)),_)
   exact cC 7 λK=>K Mk e (CK hb)) [v0,v1,v2,v3,t4,t5,t6,t7] ⟨_,_,_,rfl⟩
 exact⟨_,_,_,e⟩
theorem got {D:Den}{v0 v1 v2 v3 v4 v5 v6:Slot}(cs:List (List Pt))(t7:Slot):∃t7',BW (Bi A.tb D (.bi .list [(.var 7)]) (.one 7) none) (cs.map AF) ⟨[v0,v1,v2,v3,v4,v5,v6,t7],h⟩=some (cs.map AF,⟨[v0,v1,v2,v3,v4,v5,v6,t7'],h⟩):=by
 obtain⟨r',e,t7',rfl⟩:=E4 (f:=Bi A.tb D (.bi .list [(.var 7)]) (.one 7) none) (h:=h) (g:=AF) (out:=AF)
  (λr=>∃t7,r=[v0,v1,v2,v3,v4,v5,v6,t7]) cs (λc hcm r ⟨t7,hr⟩=>by
   subst hr
   refine⟨[v0,v1,v2,v3,v4,v5,v6,.val (AF c)],?_,_,rfl⟩
   show _=some (some (V.lst (c.map Bm)),_)
   exact cC 1 λK=>K J5) [v0,v1,v2,v3,v4,v5,v6,t7] ⟨_,rfl⟩
 exact⟨_,e⟩
theorem Gg {g:Int}{cs:List (List Pt)}{t2 t3 t4 t5 t6 t7:Slot}(lc:∀h,(A.den n).fn 104 [.lst ls,.int g] h=some (A0 cs,h))(fo:(A.den n).fn 81 [.obj 11 fs,.int g] h=some (A7 cs [],h'))(hl:cs.length<=1000)(hc:∀c∈cs,c.length<=1000):
  ∃t2' t3' t4' t5' t6' t7',B7 A.tb (A.den n) (.one 2) Sh (.int g) ⟨[.val (.lst ls),.val (.obj 11 fs),t2,t3,t4,t5,t6,t7],h⟩=some (.nxt,⟨[.val (.lst ls),.val (.obj 11 fs),t2',t3',t4',t5',t6',t7'],h'⟩):=by
 have lc':=lc h
 refine ju (jj (h:=h) (D:=A.den n) (v0:=.val (.lst ls)) (v1:=.val (.obj 11 fs)) (v2:=.val (.int g)) (v3:=t3) (t7:=t7) cs hc t4 t5 t6) λt4' t5' t6' e1=>?_
 refine AA (got (h:=h') (D:=A.den n) (v0:=.val (.lst ls)) (v1:=.val (.obj 11 fs)) (v2:=.val (.int g)) (v3:=.val (.lst (cs.map AF))) (v4:=t4') (v5:=t5') (v6:=t6') cs t7) λt7' e2=>?_
 have fb:AO (cs.map AF).length=true:=Bt (by exact((Ao 0x1188888888201211fd82019) hl))
 have hne:=VD (cs:=cs)
 have m:CX A.tb (.obj 11 fs) 11 h=some 81:=rfl
 refine⟨.val (.int g),.val (.lst (cs.map AF)),t4',t5',t6',t7',?_⟩
 skip
 exact oC 1983 λK=>K lc' De e1 (CK fb) m fo HI e2 (CK fb) hne
theorem Y4 {cs1 cs2 cs3 cs4:List (List Pt)}{h0 h1 h2 h3 h4:Hp}(l1:∀h,(A.den n).fn 104 [.lst ls,.int 1] h=some (A0 cs1,h))(l2:∀h,(A.den n).fn 104 [.lst ls,.int 2] h=some (A0 cs2,h))(l3:∀h,(A.den n).fn 104 [.lst ls,.int 3] h=some (A0 cs3,h))(l4:∀h,(A.den n).fn 104 [.lst ls,.int 4] h=some (A0 cs4,h))
  (f1:(A.den n).fn 81 [.obj 11 fs,.int 1] h0=some (A7 cs1 [],h1))(f2:(A.den n).fn 81 [.obj 11 fs,.int 2] h1=some (A7 cs2 [],h2))(f3:(A.den n).fn 81 [.obj 11 fs,.int 3] h2=some (A7 cs3 [],h3))(f4:(A.den n).fn 81 [.obj 11 fs,.int 4] h3=some (A7 cs4 [],h4))
  (n1:cs1.length<=1000)(n2:cs2.length<=1000)(n3:cs3.length<=1000)(n4:cs4.length<=1000)(c1:∀c∈cs1,c.length<=1000)(c2:∀c∈cs2,c.length<=1000)(c3:∀c∈cs3,c.length<=1000)(c4:∀c∈cs4,c.length<=1000):
  (A.den (n+1)).fn 106 [.lst ls,.obj 11 fs] h0=some (.bool true,h4):=by
 obtain⟨a2,a3,a4,a5,a6,a7,e1⟩:=Gg (t2:=.un) (t3:=.un) (t4:=.un) (t5:=.un) (t6:=.un) (t7:=.un) l1 f1 n1 c1
 obtain⟨b2,b3,b4,b5,b6,b7,e2⟩:=Gg (t2:=a2) (t3:=a3) (t4:=a4) (t5:=a5) (t6:=a6) (t7:=a7) l2 f2 n2 c2
 obtain⟨d2,d3,d4,d5,d6,d7,e3⟩:=Gg (t2:=b2) (t3:=b3) (t4:=b4) (t5:=b5) (t6:=b6) (t7:=b7) l3 f3 n3 c3
 obtain⟨g2,g3,g4,g5,g6,g7,e4⟩:=Gg (t2:=d2) (t3:=d3) (t4:=d4) (t5:=d5) (t6:=d6) (t7:=d7) l4 f4 n4 c4
 have e:Ct (B7 A.tb (A.den n) (.one 2) Sh) [.int 1,.int 2,.int 3,.int 4] ⟨[.val (.lst ls),.val (.obj 11 fs),.un,.un,.un,.un,.un,.un],h0⟩=some (.nxt,⟨[.val (.lst ls),.val (.obj 11 fs),g2,g3,g4,g5,g6,g7],h4⟩):=BN e1 (BN e2 (BN e3 (BN e4 rfl)))
 clear e1 e2 e3 e4 l1 l2 l3 l4 f1 f2 f3 f4
 unfold Sh at e
 exact fC 4 λK=>K e
end
end Mine.Internal.Q
end
section
set_option maxRecDepth 20000
set_option maxHeartbeats 9999999
namespace Mine.Internal.Q
section
variable {n k:Nat}{h h':Hp}{G:List Nat}{P Tb Hd:V}{a b p0 p1 p2 p3 p4 p5:Int}
theorem eP (hk:nth h k=some (AL G (DX p0 p1 p2 p3 p4 p5) a b)):(A.den (n+1)).fn 48 [.ref k] h=some (.int 5,h):=by
 have hk':nth h k=some (.ins 5 [(7,.bytes G),(14,DX p0 p1 p2 p3 p4 p5),(15,.lst [.int a,.int b])]):=hk
 have b6:Be .len [DX p0 p1 p2 p3 p4 p5]=some (.int 6):=rfl
 exact fC 3 λK=>K (CD hk' (by decide) rfl) b6
theorem PN {fs:List (Nat×V)}{m f:Nat}(q:A.tb.mth 11 m=some f):CX A.tb (.obj 11 fs) m h=some f:=q
theorem iq:CX A.tb SM 12 h=some 55:=by kernel_rfl
theorem HA {g:Int}{v:V}(hk:nth h k=some (AL G P a b))(e:(A.den n).fn 50 [.ref k,.int g] h=some (v,h')):(A.den (n+1)).fn 81 [.obj 11 (Fu Tb Hd k),.int g] h=some (v,h'):=by
 have m:=EA hk (m:=11) (f:=50) rfl
 exact fC 6 λK=>K m e
theorem UI (hk:nth h k=some (AL G (DX p0 p1 p2 p3 p4 p5) a b)):(A.den (n+2)).fn 79 [.obj 11 (Fu Tb Hd k)] h=some (.int 5,h):=by
 have m:=EA hk (m:=8) (f:=48) rfl
 have c:=eP (n:=n) hk
 exact fC 6 λK=>K m c
theorem ay {M N O:V}(ms:CX A.tb M 12 h=some 55)(f:(A.den (n+12)).fn 55 [M,.int 100] h=some (.int 4,h))(c:(A.den (n+12)).fn 79 [.obj 11 [(32,Tb),(33,Hd),(34,O),(35,.ref k),(36,M),(37,N),(38,.obj 10 [(2,.lst [])])]] h=some (.int 5,h)):(A.den (n+13)).fn 80 [.obj 11 [(32,Tb),(33,Hd),(34,O),(35,.ref k),(36,M),(37,N),(38,.obj 10 [(2,.lst [])])],.int 100] h=some (.int 4,h):=by
 exact fC 38 λK=>K ms f c
theorem eR (hk:nth h k=some (AL G (DX p0 p1 p2 p3 p4 p5) a b)):(A.den (n+13)).fn 80 [.obj 11 (Fu Tb Hd k),.int 100] h=some (.int 4,h):=ay iq aM (UI (n:=n+10) (Tb:=Tb) (Hd:=Hd) hk)
theorem bG:(A.den (n+1)).ini 0 [.lst []] h=some ([(0,.lst []),(1,.bytes [])],h):=by kernel_rfl
theorem hV (hk:nth h k=some (AL G P a b))(hgl:∀h a b,nth h k=some (AL G P a b)->(A.den (n+5)).fn 49 [.ref k,.int 0] h=some (.bytes [],h)):∃h',(A.den (n+6)).fn 50 [.ref k,.int 0] h=some (A7 [] [],h')/\nth h' k=some (AL G P 0 0):=by
 have hk0:nth (put h k (AL G P 0 0)) k=some (AL G P 0 0):=AP (Bh hk)
 have g:=hgl _ 0 0 hk0
 have e:Bd A.tb (A.den (n+5)) HX ⟨[.val (.ref k),.val (.int 0),.val (.tup []),.un,.un,.un,.un,.un,.un,.un,.un],put h k (AL G P 0 0)⟩=some (.ret (.obj 0 [(0,.lst []),(1,.bytes [])]),⟨[.val (.ref k),.val (.int 0),.val (.tup []),.val (.ref (put h k (AL G P 0 0)).length),.un,.un,.un,.un,.un,.un,.un],put (put h k (AL G P 0 0)++[oc [] 0]) (put h k (AL G P 0 0)).length (oc [] 0)⟩):=by
  have hK:(put h k (AL G P 0 0)).length<(put h k (AL G P 0 0)++[oc [] 0]).length:=Kf
  have m:=EA hk0 (m:=9) (f:=49) rfl
  have eb:Av .eq (.bytes []) (.bytes [])=some true:=rfl
  clear hgl
  exact xC 159 λK=>K m g Ja N3 (DU hK) bG
 exact⟨_,RT (IT hk e),HN hk0⟩
theorem Ks {U L:List Nat}{p pg:Int}(q:At G p (U++L))(e:pg - p=U.length):(A.den (n+1)).fn 15 [.bytes G,.int p,.int (pg - p)] h=some (.bytes U,h):=by
 rw[e];exact DN q
end
theorem OA {x y u t:Int}{r:Bool}(q:BZ x y u t):(Bu x y u t r).length=4/\(C8 x y u t r).length<=100:=by
 cases r
 ·exact⟨rfl,Nat.le_of_ble_eq_true (Gj (P:=λr=>Nat.ble (C8 r.1 r.2.1 r.2.2.1 r.2.2.2 false).length 100) (by kernel_rfl) q)⟩
 ·exact⟨rfl,Nat.le_of_ble_eq_true (Gj (P:=λr=>Nat.ble (C8 r.1 r.2.1 r.2.2.1 r.2.2.2 true).length 100) (by kernel_rfl) q)⟩
theorem ba (l:List Nat):∃Z,Ag l=l++Z/\Z.length<=3/\(Ag l).length%4=0:=⟨_,rfl,by rw[List.length_replicate];exact Int.toNat_le.mpr (by exact((Aj 0x1328000142006) (mo 3))),by unfold Ag;rw[List.length_append,List.length_replicate];omega⟩
end Mine.Internal.Q
end
section
set_option maxRecDepth 20000
set_option maxHeartbeats 9999999
namespace Mine.Internal.Q
theorem SS {x y:List Nat}:(x.length:Int)<=((x++y).length:Int):=Int.ofNat_le.mpr (by rw[List.length_append];exact Nat.le_add_right _ _)
theorem Sf {x y:List Nat}(hx:(x.length:Int)%2=0)(hy:(y.length:Int)%2=0):((x++y).length:Int)%2=0:=by rw[List.length_append,Int.natCast_add,Int.add_emod,hx,hy];rfl
theorem O1 {x y:List Nat}:((x++y).length:Int) - x.length=y.length:=by rw[List.length_append];exact(Int.le_antisymm (AR 0x111801811013840) (AR 0x111801113840180))
theorem UW {x y:List Nat}:(x.length:Int)+y.length=((x++y).length:Int):=by rw[List.length_append];rfl
structure Rc where
 x:Int
 y:Int
 u:Int
 t:Int
 r:Bool
noncomputable def Rc.p (r:Rc):List Pt:=Bu r.x r.y r.u r.t r.r
noncomputable def Rc.b (r:Rc):List Nat:=C8 r.x r.y r.u r.t r.r
noncomputable def Rc.ok (r:Rc):Prop:=BZ r.x r.y r.u r.t
noncomputable def Fc (z:Int):Prop:= -32768<=z/\z<=32767
structure Gy (n:Nat)(h:Hp)(B U:List Nat):Prop where
 f:(A.den (n+11)).fn 16 [.bytes B] h=some (.bytes U,h)
 k:U.length<=200
 v:(U.length:Int)%2=0
structure Fd where
 G:List Nat
 a:Int
 b:Int
 c:Int
 d:Int
 Tb:V
 Hd:V
noncomputable def Fd.P (F:Fd):V:=DX 0 0 F.a F.b F.c F.d
noncomputable def Fd.gl (F:Fd)(g:Int)(U:List Nat):Prop:=∀n h k a b,nth h k=some (AL F.G F.P a b)->(A.den (n+2)).fn 49 [.ref k,.int g] h=some (.bytes U,h)
theorem Uz {n:Nat}{h:Hp}{o1 o2:V}{l3 l4:List V}{B1 B2 B3 B4 U1 U2 U3 U4:List Nat}{z0 z1 z2 z3:Int}{long:Bool}(y1:Gy n h B1 U1)(y2:Gy n h B2 U2)(y3:Gy n h B3 U3)(y4:Gy n h B4 U4)
  (e1:(A.den (n+12)).fn 91 [AG 16 o1 .none] h=some (.bytes B1,h))(e2:(A.den (n+12)).fn 91 [AG 16 o2 .none] h=some (.bytes B2,h))(e3:(A.den (n+12)).fn 91 [AG 24 .none (.lst l3)] h=some (.bytes B3,h))(e4:(A.den (n+12)).fn 91 [AG 24 .none (.lst l4)] h=some (.bytes B4,h))
  (p1:(A.den (n+12)).fn 92 [AG 16 o1 .none] h=some (.tup [.int 4,.int 1],h))(p2:(A.den (n+12)).fn 92 [AG 16 o2 .none] h=some (.tup [.int 4,.int 1],h))
  (wb:(A.den (n+12)).fn 94 [.lst [AG 8 .none .none,AG 16 o1 .none,AG 16 o2 .none,AG 24 .none (.lst l3),AG 24 .none (.lst l4)]] h=some (.tup [.int z0,.int z1,.int z2,.int z3],h))(m0:Fc z0)(m1:Fc z1)(m2:Fc z2)(m3:Fc z3):
  ∃(F:Fd)(W:List Nat),(A.den (n+13)).fn 95 [SJ [AG 8 .none .none,AG 16 o1 .none,AG 16 o2 .none,AG 24 .none (.lst l3),AG 24 .none (.lst l4)] long] h=some (.bytes W,h)/\(A.den (n+13)).ini 11 [.bytes W] h=some (Fu F.Tb F.Hd h.length,h++[AL F.G F.P 0 0])/\
   F.gl 0 []/\F.gl 1 U1/\F.gl 2 U2/\F.gl 3 U3/\F.gl 4 U4:=by
 have wg:=ig (n:=n+9) (h:=h) (long:=long) (Ba (by decide)) y1.f y2.f y3.f y4.f y1.k y2.k y3.k y4.k
 have wh:=ij (n:=n+9) (h:=h) (long:=long) m0.1 m0.2 m1.1 m1.2 m2.1 m2.2 m3.1 m3.2
 have g4:(U1++U2++U3++U4).length<=1000:=lb (la (la (la y1.k y2.k) y3.k) y4.k)
 have w2:=Sf y1.v y2.v
 have w3:=Sf w2 y3.v
 have w4:=Sf w3 y4.v
 have rl:=h_ (n:=n+9) (h:=h) (long:=long) (p0:=0) (p1:=0) (Int.le_refl 0) (Int.le_refl 0) (Int.natCast_nonneg U1.length) (SS (y:=U2)) (SS (y:=U3)) (SS (y:=U4)) (Int.lt_of_le_of_lt (Int.ofNat_le.mpr g4) (by decide)) rfl rfl y1.v w2 w3 w4
 have hLl:(HQ long [0,0,U1.length,(U1++U2).length,(U1++U2++U3).length,(U1++U2++U3++U4).length]).length<=1000:=by cases long<;>exact Nat.le_of_ble_eq_true rfl
 generalize HQ long [0,0,U1.length,(U1++U2).length,(U1++U2++U3).length,(U1++U2++U3++U4).length]=Lo at wg rl hLl
 obtain⟨G,hG⟩:∃G,G=U1++U2++U3++U4:=⟨_,rfl⟩
 rw[<-hG] at wg
 have gG:G.length<=1000:=hG▸g4
 refine Co (Us (n:=n+6) (h:=h) (a:=CM) (b:=G) (d:=HH) (e:=HM) (f:=Lo) (g:=MX) (H8:=Bb 65536++Bb 65536) (R:=Bb 1594834165++(Aq 0++(Aq 16++(List.replicate 16 0++(Aq z0++(Aq z1++(Aq z2++(Aq z3++(Aq 0++(Aq 8++(Aq 2++(Aq (W3 long)++Aq 0)))))))))))) rfl rfl (by decide) gG (by decide) (by decide) hLl (by decide)) λW X4 hX4 rw1 rr=>?_
 have rt:=rr (n+7) h
 have rh:=il (n:=n+9) (h:=h) (X:=X4) (long:=long) hX4 m0.1 m0.2 m1.1 m1.2 m2.1 m2.2 m3.1 m3.2
 rw[List.append_assoc] at rt rw1
 have bt:=Yu (n:=n) (h:=h) (long:=long) (W:=W) Xz e1 e2 e3 e4 wg FQ p1 p2 FQ FQ wb wh rw1
 have fi:=aG (n:=n) (h:=h) (P:=DX 0 0 (U1.length:Int) ((U1++U2).length:Int) ((U1++U2++U3).length:Int) ((U1++U2++U3++U4).length:Int)) rt rh rl
 have s0:=At.all (W:=G) (L:=U1++(U2++(U3++U4))) (by rw[hG,List.append_assoc,List.append_assoc]) (Nat.le_trans gG (by decide))
 have s1:=s0.skip.at (Int.zero_add _)
 have s2:=s1.skip.at UW
 have s3:=(s2.skip.at UW).fin
 exact⟨⟨G,(U1.length:Int),((U1++U2).length:Int),((U1++U2++U3).length:Int),((U1++U2++U3++U4).length:Int),_,_⟩,W,bt,fi,λn h k a b hk=>Oo 0 hk (by decide) (by decide) (λ_=>rfl) (λ_=>rfl) (Ks (U:=[]) s0 rfl),λn h k a b hk=>Oo 1 hk (by decide) (by decide) (λ_=>rfl) (λ_=>rfl) (Ks s0 (Int.sub_zero _)),λn h k a b hk=>Oo 2 hk (by decide) (by decide) (λ_=>rfl) (λ_=>rfl) (Ks s1 O1),
  λn h k a b hk=>Oo 3 hk (by decide) (by decide) (λ_=>rfl) (λ_=>rfl) (Ks s2 O1),λn h k a b hk=>Oo 4 hk (by decide) (by decide) (λ_=>rfl) (λ_=>rfl) (Ks s3 O1)⟩
theorem eM {m:Nat}(h:m%4=0):(m:Int)%2=0:=by lia
theorem NL {l:List Nat}(h:l.length<=190){n:Nat}{g:Hp}:Gy n g l (Ag l):=
 ⟨Ba (Nat.le_trans h (by decide)),Nat.le_trans (Bv l) (Nat.add_le_add_right (m:=197) (Nat.le_trans h (by decide)) 3),eM (ba l).choose_spec.2.2⟩
theorem gB {a b:Int}(h:Fc a)(g:Fc b):Fc (mn (mn (mn a b) 0) 0):=⟨RW (RW (RW h.1 g.1) (by decide)) (by decide),Tn (Tn (Tn h.2 g.2) (by decide)) (by decide)⟩
theorem gj {a b:Int}(h:Fc a)(g:Fc b):Fc (mx (mx (mx a b) 0) 0):=⟨SV (SV (SV h.1 g.1) (by decide)) (by decide),So (So (So h.2 g.2) (by decide)) (by decide)⟩
theorem gk {x y w t:Int}(q:BZ x y w t):(Fc x/\Fc y)/\Fc (x+w)/\Fc (y+t):=
 of_decide_eq_true (p:=((-32768<=x/\x<=32767)/\(-32768<=y/\y<=32767))/\(-32768<=x+w/\x+w<=32767)/\(-32768<=y+t/\y+t<=32767)) (Gj (P:=λr=>decide (((-32768<=r.1/\r.1<=32767)/\(-32768<=r.2.1/\r.2.1<=32767))/\(-32768<=r.1+r.2.2.1/\r.1+r.2.2.1<=32767)/\(-32768<=r.2.1+r.2.2.2/\r.2.1+r.2.2.2<=32767))) (by kernel_rfl) q)
theorem Uv {n:Nat}{h:Hp}{r1 r2:Rc}{long:Bool}{g1 g2 g3 g4:Int}{p1 p2 p3 p4:Dp}(q1:r1.ok)(q2:r2.ok)(o1:(p1.r g1).ok)(o2:(p2.r g2).ok)(o3:(p3.r g3).ok)(o4:(p4.r g4).ok):
  ∃F:Fd,(A.den (n+14)).fn 105 [.lst [.none,AH r1.p,AH r2.p,.lst [p1.v g1,p2.v g2],.lst [p3.v g3,p4.v g4]],.bool long] h=some (.obj 11 (Fu F.Tb F.Hd h.length),h++[AL F.G F.P 0 0])/\
   F.gl 0 []/\F.gl 1 (Ag r1.b)/\F.gl 2 (Ag r2.b)/\F.gl 3 (Ag (BS (p1.r g1) (p2.r g2)))/\F.gl 4 (Ag (BS (p3.r g3) (p4.r g4))):=by
 have c1:=OA (r:=r1.r) q1
 have c2:=OA (r:=r2.r) q2
 have s:=gk q1
 have i:=gk q2
 obtain⟨F,W,q4_⟩:=Uz (n:=n) (h:=h) (long:=long) (NL (Nat.le_trans c1.2 (by decide))) (NL (Nat.le_trans c2.2 (by decide))) (NL (Nat.le_trans (GW (p:=p1.r g1) (q:=p2.r g2)) (by decide))) (NL (Nat.le_trans (GW (p:=p3.r g3) (q:=p4.r g4)) (by decide))) (QQ (Uy (n:=n+7) (h:=h) q1)) (QQ (Uy (n:=n+7) (h:=h) q2)) (QM (Qy (n:=n+6) (h:=h) o1 o2)) (QM (Qy (n:=n+6) (h:=h) o3 o4))
  (Km (n:=n+10) c1.1) (Km (n:=n+10) c2.1) (bC (n:=n+9) c1.1 c2.1 (Tw (n:=n+9) q1) (Tw (n:=n+9) q2)) (gB s.1.1 i.1.1) (gB s.1.2 i.1.2) (gj s.2.1 i.2.1) (gj s.2.2 i.2.2)
 exact⟨F,Yb (n:=n+12) (c1:=r1.p) (c2:=r2.p) (Nat.le_trans (Nat.le_of_eq c1.1) (by decide)) (Nat.le_trans (Nat.le_of_eq c2.1) (by decide)) q4_.1 q4_.2.1,q4_.2.2⟩
end Mine.Internal.Q
end
section
set_option maxRecDepth 20000
set_option maxHeartbeats 9999999
namespace Mine.Internal.Q
section
theorem OB {k:Nat}{G:List Nat}{P:V}{ls:List V}{g x y u t:Int}{r:Bool}{Z:List Nat}(hg:g=1\/g=2)(q:BZ x y u t)(hZ:Z.length<=3)(hgl:∀n h a b,nth h k=some (AL G P a b)->(A.den (n+2)).fn 49 [.ref k,.int g] h=some (.bytes (C8 x y u t r++Z),h))
  (hs:∀s':Hp,BF (.lst ls) (.int g) s'=some (AH (Bu x y u t r))):EV k G P ls g (Bu x y u t r):=by
 have e:HV [Bu x y u t r]:=by
  have h:((Bu x y u t r).all λp=>decide (p.1%2=0/\p.2%2=0))=true:=by
   cases r
   ·exact Gj (P:=λr=>(Bu r.1 r.2.1 r.2.2.1 r.2.2.2 false).all λp=>decide (p.1%2=0/\p.2%2=0)) (by kernel_rfl) q
   ·exact Gj (P:=λr=>(Bu r.1 r.2.1 r.2.2.1 r.2.2.2 true).all λp=>decide (p.1%2=0/\p.2%2=0)) (by kernel_rfl) q
  exact λc hc p hp=>of_decide_eq_true (List.all_eq_true.mp h p (List.mem_singleton.1 hc▸hp))
 cases r
 ·exact TV hg (iz q) (by exact((Ao 0x11cc2012132019) hZ)) hgl hs e
 ·exact TV hg (ib q) (by exact((Ao 0x11cc2012132019) hZ)) hgl hs e
theorem aO {k:Nat}{G:List Nat}{P:V}{ls:List V}{l:Int}{c1 c2:List Pt}{cs3:List (List Pt)}(R1:EV k G P ls 1 c1)(R2:EV k G P ls 2 c2)(R3:AnyL k G P ls 3 cs3 8)(h:l=1\/l=2\/l=3){m:Int}(hm:∀s:Hp,BF (.lst [.int 0,.int 4,.int 4,.int 8]) (.int l) s=some (.int m)):∃cs m',AnyL k G P ls l cs m'/\m=(m':Nat)/\m'<=8:=by
 have hm:=hm []
 rcases h with rfl|rfl|rfl
 ·cases hm;exact⟨_,4,R1.any,rfl,by decide⟩
 ·cases hm;exact⟨_,4,R2.any,rfl,by decide⟩
 ·cases hm;exact⟨_,8,R3,rfl,by decide⟩
theorem W5 {k:Nat}{G:List Nat}{P:V}{ls:List V}{l:Int}{c1 c2:List Pt}(R1:EV k G P ls 1 c1)(R2:EV k G P ls 2 c2)(h:l=1\/l=2):∃c,EV k G P ls l c:=by
 rcases h with rfl|rfl
 ·exact⟨_,R1⟩
 ·exact⟨_,R2⟩
theorem Zb {v:V}(h:v∈[V.lst [.int 1,.int 2],.lst [.int 2,.int 1],.lst [.int 1,.int 1]]):∃one other,v=.lst [.int one,.int other]/\(one=1\/one=2)/\(other=1\/other=2):=by
 simp only[List.mem_cons,List.not_mem_nil,or_false] at h
 rcases h with rfl|rfl|rfl
 ·exact⟨1,2,rfl,.inl rfl,.inr rfl⟩
 ·exact⟨2,1,rfl,.inr rfl,.inl rfl⟩
 ·exact⟨1,1,rfl,.inl rfl,.inl rfl⟩
noncomputable def Ph (l m:Int):Prop:=(∀s:Hp,BF (.lst [.int 0,.int 4,.int 4,.int 8]) (.int l) s=some (.int m))/\0<m/\m<100
theorem V7 {v:V}(h:v∈[V.lst [.int 3,.int 1],.lst [.int 2,.int 3],.lst [.int 3,.int 2],.lst [.int 1,.int 3]]):∃l3 l4 m3 m4:Int,v=.lst [.int l3,.int l4]/\(l3=1\/l3=2\/l3=3)/\(l4=1\/l4=2\/l4=3)/\Ph l3 m3/\Ph l4 m4:=by
 have z1:Ph 1 4:=⟨λ_=>rfl,by decide,by decide⟩
 have z2:Ph 2 4:=⟨λ_=>rfl,by decide,by decide⟩
 have z3:Ph 3 8:=⟨λ_=>rfl,by decide,by decide⟩
 simp only[List.mem_cons,List.not_mem_nil,or_false] at h
 rcases h with rfl|rfl|rfl|rfl
 ·exact⟨3,1,8,4,rfl,.inr (.inr rfl),.inl rfl,z3,z1⟩
 ·exact⟨2,3,4,8,rfl,.inr (.inl rfl),.inr (.inr rfl),z2,z3⟩
 ·exact⟨3,2,8,4,rfl,.inr (.inr rfl),.inr (.inl rfl),z3,z2⟩
 ·exact⟨1,3,4,8,rfl,.inl rfl,.inr (.inr rfl),z1,z3⟩
theorem iV {a b c v:V}:[a,b,c]++[v]=[a,b,c,v]:=rfl
theorem jn {a b c d v:V}:[a,b,c,d]++[v]=[a,b,c,d,v]:=rfl
theorem UQ:Be .list [Aw []]=some (.lst []):=rfl
noncomputable def L6 (l:List Nat):List Nat:=List.replicate ((4 - (l.length:Int)%4)%4).toNat 0
structure Dr where
 r1:Rc
 r2:Rc
 one:Int
 other:Int
 l3:Int
 l4:Int
 m3:Int
 m4:Int
 v1:Int
 v2:Int
 v3:Int
 v4:Int
 v5:Int
 a:Int
 b:Int
 w:AD
 p3:Dp
 p4:Dp
 h0:Hp
 h1:Hp
 h2:Hp
 h3:Hp
 h4:Hp
 h5:Hp
 h6:Hp
 h7:Hp
 h8:Hp
 h9:Hp
 hA:Hp
 hB:Hp
 hC:Hp
 hD:Hp
noncomputable def Dr.p1 (D:Dr):Dp:=⟨.asis,decide (D.v1=0),false,28+4*D.v2,4*(D.v3 - 2)⟩
noncomputable def Dr.p2 (D:Dr):Dp:=⟨D.w,decide (D.v4=0),true,D.a,D.b⟩
noncomputable def Dr.ls (D:Dr):List V:=[.none,AH D.r1.p,AH D.r2.p,.lst [D.p1.v D.one,D.p2.v D.other],.lst [D.p3.v D.l3,D.p4.v D.l4]]
noncomputable def Dp.ok (p:Dp)(g ahead own:Int):Prop:=DrawOk g ahead own p.hf p.at' p.a p.b
noncomputable def Dr.run (n:Nat)(is:List Int)(D:Dr):Prop:=(A.den (n+14)).fn 98 [.lst (is.map V.int)] []=some (.ref 0,D.h0)/\(A.den (n+14)).fn 101 [.ref 0] D.h0=some (AH D.r1.p,D.h1)/\(A.den (n+14)).fn 101 [.ref 0] D.h1=some (AH D.r2.p,D.h2)/\
 (A.den (n+14)).fn 100 [.ref 0,.lst [.lst [.int 1,.int 2],.lst [.int 2,.int 1],.lst [.int 1,.int 1]]] D.h2=some (.lst [.int D.one,.int D.other],D.h3)/\(A.den (n+14)).fn 99 [.ref 0,.int 4] D.h3=some (.int D.v1,D.h4)/\(A.den (n+14)).fn 99 [.ref 0,.int 3] D.h4=some (.int D.v2,D.h5)/\(A.den (n+14)).fn 99 [.ref 0,.int 7] D.h5=some (.int D.v3,D.h6)/\
 (A.den (n+14)).fn 100 [.ref 0,.lst I9] D.h6=some (.str D.w.str,D.h7)/\(A.den (n+14)).fn 99 [.ref 0,.int 4] D.h7=some (.int D.v4,D.h8)/\(A.den (n+14)).fn 99 [.ref 0,.int 4] D.h8=some (.int D.a,D.h9)/\(A.den (n+14)).fn 99 [.ref 0,.int 4] D.h9=some (.int D.b,D.hA)/\
 (A.den (n+14)).fn 100 [.ref 0,.lst [.lst [.int 3,.int 1],.lst [.int 2,.int 3],.lst [.int 3,.int 2],.lst [.int 1,.int 3]]] D.hA=some (.lst [.int D.l3,.int D.l4],D.hB)/\(A.den (n+14)).fn 103 [.ref 0,.lst [.int D.l3,.int D.l4],.lst [.int 0,.int 4,.int 4,.int 8]] D.hB=some (.lst [D.p3.v D.l3,D.p4.v D.l4],D.hC)/\(A.den (n+14)).fn 99 [.ref 0,.int 2] D.hC=some (.int D.v5,D.hD)
noncomputable def Dr.ok (D:Dr):Prop:=D.r1.ok/\D.r2.ok/\(D.one=1\/D.one=2)/\(D.other=1\/D.other=2)/\(D.l3=1\/D.l3=2\/D.l3=3)/\(D.l4=1\/D.l4=2\/D.l4=3)/\Ph D.l3 D.m3/\Ph D.l4 D.m4/\D.p1.ok D.one 0 4/\D.p2.ok D.other 4 4/\D.p3.ok D.l3 0 D.m3/\D.p4.ok D.l4 D.m3 D.m4
theorem dI {one v2 v3:Int}{hf:Bool}(h:one=1\/one=2)(i2:0<=v2)(i2':v2<3)(i3:0<=v3)(i3':v3<7):DrawOk one 0 4 hf false (28+4*v2) (4*(v3 - 2)):=⟨λ_=>by lia,λh=>(nomatch h),λ_=>⟨by exact((Aj 0x100453c231cc270400025) i2),by exact((Aj 0x11fd8200453c230432006) i2'),by exact((Aj 0x122004451cc270400025) i3),by exact((Aj 0x11fd8222004450472006) i3')⟩⟩
theorem c_ {other a b:Int}{hf:Bool}(h:other=1\/other=2)(i5:0<=a)(i5':a<4)(i6:0<=b)(i6':b<4):DrawOk other 4 4 hf true a b:=⟨λ_=>by lia,λ_=>⟨i5,i5',i6,i6'⟩,λh=>(nomatch h)⟩
theorem drawn {n:Nat}{is:List Int}{C:Prop}(k:∀D:Dr,D.run n is->D.ok->C):C:=by
 refine Ac (UY (n:=n+13) (is:=is)) λh0 e0 q0=>?_
 obtain⟨x1,y1,u1,t1,r1,h1,e1,rc1,q1⟩:=Ru (n:=n+11) q0
 obtain⟨x2,y2,u2,t2,r2,h2,e2,rc2,q2⟩:=Ru (n:=n+11) q1
 refine Co (H3 (n:=n+12) (l:=[.lst [.int 1,.int 2],.lst [.int 2,.int 1],.lst [.int 1,.int 1]]) q2 (by decide) (by decide)) λvo h3 e3 m3 q3=>?_
 obtain⟨one,other,rfl,ho,hp⟩:=Zb m3
 refine D8 (BQ (n:=n+13) (m:=4) q3 (by decide) (by decide)) λv1 h4 e4 i1 i1' q4=>?_
 obtain⟨v2,h5,e5,i2,i2',q5⟩:=BQ (n:=n+13) (m:=3) q4 (by decide) (by decide)
 obtain⟨v3,h6,e6,i3,i3',q6⟩:=BQ (n:=n+13) (m:=7) q5 (by decide) (by decide)
 obtain⟨vw,h7,e7,m7,q7⟩:=H3 (n:=n+12) (l:=I9) q6 (by decide) (by decide)
 obtain⟨w2,rfl⟩:=OG m7
 obtain⟨v4,h8,e8,i4,i4',q8⟩:=BQ (n:=n+13) (m:=4) q7 (by decide) (by decide)
 obtain⟨a2,h9,e9,i5,i5',q9⟩:=BQ (n:=n+13) (m:=4) q8 (by decide) (by decide)
 obtain⟨b2,h10,e10,i6,i6',q10⟩:=BQ (n:=n+13) (m:=4) q9 (by decide) (by decide)
 obtain⟨vf,h11,AA,m11,q11⟩:=H3 (n:=n+12) (l:=[.lst [.int 3,.int 1],.lst [.int 2,.int 3],.lst [.int 3,.int 2],.lst [.int 1,.int 3]]) q10 (by decide) (by decide)
 obtain⟨l3,l4,k3,k4,rfl,hl3,hl4,s3,s4⟩:=V7 m11
 obtain⟨w3,hf3,at3,a3,b3,w4,hf4,at4,a4,b4,h12,Ac,d3,d4,q12⟩:=Yk (n:=n+9) q11 s3.1 s4.1 s3.2.1 s3.2.2 s4.2.1 s4.2.2
 obtain⟨v5,h13,CP,i7,i7',q13⟩:=BQ (n:=n+13) (m:=2) q12 (by decide) (by decide)
 exact k ⟨⟨x1,y1,u1,t1,r1⟩,⟨x2,y2,u2,t2,r2⟩,one,other,l3,l4,k3,k4,v1,v2,v3,v4,v5,a2,b2,w2,⟨w3,hf3,at3,a3,b3⟩,⟨w4,hf4,at4,a4,b4⟩,h0,h1,h2,h3,h4,h5,h6,h7,h8,h9,h10,h11,h12,h13⟩
  ⟨e0,e1,e2,e3,e4,e5,e6,e7,e8,e9,e10,AA,Ac,CP⟩ ⟨rc1,rc2,ho,hp,hl3,hl4,s3,s4,dI ho i2 i2' i3 i3',c_ hp i5 i5' i6 i6',d3,d4⟩
theorem Gk {l:List Nat}:(L6 l).length<=3:=by unfold L6;rw[List.length_replicate];exact Int.toNat_le.mpr (by exact((Aj 0x1328000142006) (mo 3)))
theorem YV {n:Nat}{is:List Int}{D:Dr}{fs:List (Nat×V)}{h h1 h2:Hp}(e:D.run n is)(mk:(A.den (n+14)).fn 105 [.lst D.ls,.bool (decide (D.v5=0))] D.hD=some (.obj 11 fs,h))(cnt:(A.den (n+14)).fn 79 [.obj 11 fs] h=some (.int 5,h))(fgl:(A.den (n+14)).fn 80 [.obj 11 fs,.int 100] h=some (.int 4,h))(s0:(A.den (n+14)).fn 81 [.obj 11 fs,.int 0] h=some (A7 [] [],h1))(rt:(A.den (n+14)).fn 106 [.lst D.ls,.obj 11 fs] h1=some (.bool true,h2)):(A.den (n+15)).fn 107 [.lst (is.map V.int)] []=some (.bool true,h2):=by
 exact fC 338331412458413319 λK=>K e.1 e.2.1 e.2.2.1 e.2.2.2.1 e.2.2.2.2.1 rfl e.2.2.2.2.2.1 e.2.2.2.2.2.2.1 EH LH e.2.2.2.2.2.2.2.1 e.2.2.2.2.2.2.2.2.1 rfl e.2.2.2.2.2.2.2.2.2.1 e.2.2.2.2.2.2.2.2.2.2.1 iV e.2.2.2.2.2.2.2.2.2.2.2.1 e.2.2.2.2.2.2.2.2.2.2.2.2.1 jn e.2.2.2.2.2.2.2.2.2.2.2.2.2 rfl mk (PN rfl) cnt (PN rfl) fgl (PN rfl) s0 UQ rt
theorem ah {l:Int}(h:l=1\/l=2):0<=l/\l<=10:=by rcases h with rfl|rfl<;>decide
theorem Sj {l:Int}(h:l=1\/l=2\/l=3):(0<=l/\l<=10)/\1<=l/\l<=3:=by rcases h with rfl|rfl|rfl<;>decide
theorem NX {p:Dp}{g ahead own:Int}(h:0<=g/\g<=10)(d:p.ok g ahead own)(ha:ahead<=100)(hb:own<=100):(p.r g).ok:=PR.mk_ok h.1 h.2 d ha hb
theorem Vm {n:Nat}{is:List Int}{D:Dr}(e:D.run n is)(o:D.ok):∃h',(A.den (n+15)).fn 107 [.lst (is.map V.int)] []=some (.bool true,h'):=by
 have ho:=o.2.2.1
 have hp:=o.2.2.2.1
 have h3:=o.2.2.2.2.1
 have h4:=o.2.2.2.2.2.1
 have s3:=o.2.2.2.2.2.2.1
 have s4:=o.2.2.2.2.2.2.2.1
 have d:=o.2.2.2.2.2.2.2.2
 have b3:=Int.le_of_lt s3.2.2
 have b4:=Int.le_of_lt s4.2.2
 refine cM (Uv (n:=n) (h:=D.hD) (long:=decide (D.v5=0)) o.1 o.2.1 (NX (ah ho) d.1 (by decide) (by decide)) (NX (ah hp) d.2.1 (by decide) (by decide)) (NX (Sj h3).1 d.2.2.1 (by decide) b3) (NX (Sj h4).1 d.2.2.2 b3 b4)) λF mk g0 g1 g2 g3 g4=>?_
 have R1:=OB (k:=D.hD.length) (g:=1) (ls:=D.ls) (r:=D.r1.r) (Z:=L6 D.r1.b) (.inl rfl) o.1 Gk (λn h a b hk=>g1 n h _ a b hk) (λ_=>rfl)
 have R2:=OB (k:=D.hD.length) (g:=2) (ls:=D.ls) (r:=D.r2.r) (Z:=L6 D.r2.b) (.inr rfl) o.2.1 Gk (λn h a b hk=>g2 n h _ a b hk) (λ_=>rfl)
 obtain⟨co,Ro⟩:=W5 R1 R2 ho
 obtain⟨cp,Rp⟩:=W5 R1 R2 hp
 refine Ac (aX (w1:=.asis) (w2:=D.w) (Z:=L6 (BS (D.p1.r D.one) (D.p2.r D.other))) ho hp Ro Rp d.1 d.2.1 (λ_=>rfl) (Nat.le_trans Gk (by decide)) (λn h a b hk=>g3 n h _ a b hk)) λcs3 A3 top3=>?_
 refine Co (aO R1 R2 A3 h3 s3.1) λc3 n3 L3 f3 b3'=>?_
 refine Co (aO R1 R2 A3 h4 s4.1) λc4 n4 L4 f4 b4'=>?_
 refine Q2 (Z0 (w3:=D.p3.w) (w4:=D.p4.w) (Z:=L6 (BS (D.p3.r D.l3) (D.p4.r D.l4))) (Sj h3).2 (Sj h4).2 L3 L4 b3' b4' (f3▸d.2.2.1) (f3▸f4▸d.2.2.2) (λ_=>rfl) (Nat.le_trans Gk (by decide)) (λn h a b hk=>g4 n h _ a b hk)) λcs4 lc4 k41 k42 top4=>?_
 clear L3 L4 Ro Rp
 have hk0:nth (D.hD++[AL F.G F.P 0 0]) D.hD.length=some (AL F.G F.P 0 0):=by
  have:=AP (h:=D.hD++[AL F.G F.P 0 0]) (c:=AL F.G F.P 0 0) Kf
  rw[HW] at this;exact this
 have cnt:=UI (n:=n+12) (Tb:=F.Tb) (Hd:=F.Hd) hk0
 have fgl:=eR (n:=n+1) (Tb:=F.Tb) (Hd:=F.Hd) hk0
 refine Ac (hV (n:=n+7) hk0 (λh a b hk=>g0 (n+10) h _ a b hk)) λk1 r0 t0=>?_
 have s0:=HA (Tb:=F.Tb) (Hd:=F.Hd) hk0 r0
 refine WB (R1.top (n+6) _ _ _ t0) λk2 a21 b21 r2' t2'=>?_
 refine WB (R2.top (n+6) _ _ _ t2') λk3 a31 b31 r3' t3'=>?_
 obtain⟨k4,a41,b41,r4',t4'⟩:=top3 (n+5) _ _ _ t3'
 obtain⟨k5,a51,b51,r5',t5'⟩:=top4 (n+4) _ _ _ t4'
 have rt:=Y4 (n:=n+13) (λh=>R1.lc (n+12) h) (λh=>R2.lc (n+12) h) (λh=>A3.lc (n+11) h) (λh=>lc4 (n+10) h) (HA (Tb:=F.Tb) (Hd:=F.Hd) t0 r2') (HA (Tb:=F.Tb) (Hd:=F.Hd) t2' r3') (HA (Tb:=F.Tb) (Hd:=F.Hd) t3' r4') (HA (Tb:=F.Tb) (Hd:=F.Hd) t4' r5') (Nat.le_of_ble_eq_true rfl) (Nat.le_of_ble_eq_true rfl) (Nat.le_trans A3.num (by decide)) (Nat.le_trans k41 (by decide))
  (λc hc=>by rw[List.mem_singleton.1 hc,R1.len];decide) (λc hc=>by rw[List.mem_singleton.1 hc,R2.len];decide) (λc hc=>Nat.le_trans (A3.all c hc) (by decide)) (λc hc=>Nat.le_trans (k42 c hc) (by decide))
 exact⟨k5,YV e mk cnt fgl s0 rt⟩
theorem law_true (n:Nat)(is:List Int):∃h',(A.den (n+15)).fn 107 [.lst (is.map V.int)] []=some (.bool true,h'):=drawn λ_=>Vm
theorem law15 (is:List Int):∃h',(A.den 15).fn 107 [.lst (is.map V.int)] []=some (.bool true,h'):=law_true 0 is
end
end Mine.Internal.Q
end
theorem PySem.Challenge.cw_sq0116_01_holds : PySem.Challenge.rw_sq0116_01.Holds :=
  PySem.W.holds_law Mine.Internal.H.said fun s => Mine.Internal.X.final 15 (Nat.le_of_ble_eq_true rfl) Mine.Internal.Q.law15 s
