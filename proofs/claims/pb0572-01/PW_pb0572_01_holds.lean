import PyProof.Rows.All
import Wide.All
import OpenK.AllK
import Wide.FinOn
import PySem.Challenge.RW_pb0572_01
open PySem PySem.W PySem.Calls PyProof.Rows
set_option Elab.async false
set_option maxRecDepth 100000
set_option maxHeartbeats 8000000
set_option linter.all false
set_option genSizeOf false
set_option genInjectivity false
set_option genCtorIdx false
set_option bootstrap.genMatcherCode false
set_option compiler.extract_closed false
set_option backward.match.sparseCases false
namespace Mine
section
mutual
inductive ZN where
 | v (i:Nat) | c (k:Nat) | a (x y:ZN) | s (x y:ZN) | m (k:Nat) (x:ZN) | r (x:ZN) (k:Nat) | n (x y:ZN) | x (x y:ZN) | t (x:ZI) | b (x:ZI)
inductive ZI where
 | v (i:Nat) | c (k:Int) | a (x y:ZI) | s (x y:ZI) | m (k:Int) (x:ZI) | r (x:ZI) (k:Int) | n (x:ZI) | o (x:ZN)
end
inductive Y where
 | l (x y:ZN) | t (x y:ZN) | e (x y:ZN) | L (x y:ZI) | T (x y:ZI) | E (x y:ZI) | n (p:Y) | a (p q:Y) | o (p q:Y) | i (p q:Y) | f
noncomputable def Rm:List Nat->Nat->Nat
 | [],_=>0
 | x::_,0=>x
 | _::r,i+1=>Rm r i
noncomputable def RU:List Int->Nat->Int
 | [],_=>0
 | x::_,0=>x
 | _::r,i+1=>RU r i
section
variable (xs:List Nat) (ys:List Int)
mutual
noncomputable def ZN.d:ZN->Nat
 | .v i=>Rm xs i
 | .c k=>k
 | .a x y=>ZN.d x+ZN.d y
 | .s x y=>ZN.d x - ZN.d y
 | .m k x=>k*ZN.d x
 | .r x k=>ZN.d x*k
 | .n x y=>min (ZN.d x) (ZN.d y)
 | .x x y=>max (ZN.d x) (ZN.d y)
 | .t x=>(ZI.d x).toNat
 | .b x=>(ZI.d x).natAbs
noncomputable def ZI.d:ZI->Int
 | .v i=>RU ys i
 | .c k=>k
 | .a x y=>ZI.d x+ZI.d y
 | .s x y=>ZI.d x - ZI.d y
 | .m k x=>k*ZI.d x
 | .r x k=>ZI.d x*k
 | .n x=>-ZI.d x
 | .o x=>(ZN.d x:Int)
end
noncomputable def Y.d:Y->Prop
 | .l x y=>x.d xs ys<=y.d xs ys
 | .t x y=>x.d xs ys < y.d xs ys
 | .e x y=>x.d xs ys=y.d xs ys
 | .L x y=>x.d xs ys<=y.d xs ys
 | .T x y=>x.d xs ys < y.d xs ys
 | .E x y=>x.d xs ys=y.d xs ys
 | .n p=>¬Y.d p
 | .a p q=>Y.d p/\Y.d q
 | .o p q=>Y.d p∨Y.d q
 | .i p q=>Y.d p->Y.d q
 | .f=>False
noncomputable def Rn (g:Y):List Y->Prop
 | []=>g.d xs ys
 | h::r=>h.d xs ys->Rn g r
end
noncomputable def R8:Nat->(List Int->Prop)->Prop
 | 0,P=>P []
 | m+1,P=>∀y:Int,R8 m fun ys=>P (y::ys)
noncomputable def Sk (m:Nat):Nat->(List Nat->List Int->Prop)->Prop
 | 0,P=>R8 m (P [])
 | n+1,P=>∀x:Nat,Sk m n fun xs=>P (x::xs)
structure Pl where
 c:Int
 n:List Int
 i:List Int
noncomputable def Pz:List Int->List Int->List Int
 | [],b=>b
 | x::r,[]=>x::r
 | x::r,y::q=>(x+y)::Pz r q
noncomputable def LP:Nat->List Int
 | 0=>[1]
 | i+1=>0::LP i
noncomputable def Pl.add (p q:Pl):Pl:=⟨p.c+q.c,Pz p.n q.n,Pz p.i q.i⟩
noncomputable def Pl.mul (k:Int) (p:Pl):Pl:=⟨k*p.c,p.n.map (k*·),p.i.map (k*·)⟩
noncomputable def Pl.sub (p q:Pl) (k:Int):Pl:=(p.add (q.mul (-1))).add ⟨k,[],[]⟩
noncomputable abbrev Alt:=List (List Pl × Pl)
noncomputable def both (x y:Alt) (f:Pl->Pl->List (List Pl × Pl)):Alt:=x.flatMap fun a=>y.flatMap fun b=>(f a.2 b.2).map fun c=>(a.1++(b.1++c.1),c.2)
noncomputable def one (x:Alt) (f:Pl->List (List Pl × Pl)):Alt:=x.flatMap fun a=>(f a.2).map fun c=>(a.1++c.1,c.2)
mutual
noncomputable def ZN.f:ZN->Alt
 | .v i=>[([],⟨0,LP i,[]⟩)]
 | .c k=>[([],⟨k,[],[]⟩)]
 | .a x y=>both (ZN.f x) (ZN.f y) fun p q=>[([],p.add q)]
 | .s x y=>both (ZN.f x) (ZN.f y) fun p q=>[([p.sub q 0],p.sub q 0),([q.sub p (-1)],⟨0,[],[]⟩)]
 | .m k x=>one (ZN.f x) fun p=>[([],p.mul k)]
 | .r x k=>one (ZN.f x) fun p=>[([],p.mul k)]
 | .n x y=>both (ZN.f x) (ZN.f y) fun p q=>[([q.sub p 0],p),([p.sub q (-1)],q)]
 | .x x y=>both (ZN.f x) (ZN.f y) fun p q=>[([q.sub p 0],q),([p.sub q (-1)],p)]
 | .t x=>one (ZI.f x) fun p=>[([p],p),([p.mul (-1)],⟨0,[],[]⟩)]
 | .b x=>one (ZI.f x) fun p=>[([p],p),([p.mul (-1)],p.mul (-1))]
noncomputable def ZI.f:ZI->Alt
 | .v i=>[([],⟨0,[],LP i⟩)]
 | .c k=>[([],⟨k,[],[]⟩)]
 | .a x y=>both (ZI.f x) (ZI.f y) fun p q=>[([],p.add q)]
 | .s x y=>both (ZI.f x) (ZI.f y) fun p q=>[([],p.sub q 0)]
 | .m k x=>one (ZI.f x) fun p=>[([],p.mul k)]
 | .r x k=>one (ZI.f x) fun p=>[([],p.mul k)]
 | .n x=>one (ZI.f x) fun p=>[([],p.mul (-1))]
 | .o x=>ZN.f x
end
noncomputable def cs (x y:Alt) (f:Pl->Pl->List (List Pl)):List (List Pl):=x.flatMap fun a=>y.flatMap fun b=>(f a.2 b.2).map fun c=>a.1++(b.1++c)
noncomputable def KF (x y:List (List Pl)):List (List Pl):=x.flatMap fun a=>y.map fun b=>a++b
noncomputable def leF (t:Bool) (p q:Pl):List (List Pl):=if t then [[q.sub p 0]] else [[p.sub q (-1)]]
noncomputable def ltF (t:Bool) (p q:Pl):List (List Pl):=if t then [[q.sub p (-1)]] else [[p.sub q 0]]
noncomputable def eqF (t:Bool) (p q:Pl):List (List Pl):=if t then [[q.sub p 0,p.sub q 0]] else [[q.sub p (-1)],[p.sub q (-1)]]
noncomputable def Y.g:Bool->Y->List (List Pl)
 | w,.l x y=>cs x.f y.f (leF w)
 | w,.t x y=>cs x.f y.f (ltF w)
 | w,.e x y=>cs x.f y.f (eqF w)
 | w,.L x y=>cs x.f y.f (leF w)
 | w,.T x y=>cs x.f y.f (ltF w)
 | w,.E x y=>cs x.f y.f (eqF w)
 | w,.n p=>Y.g (!w) p
 | true,.a p q=>KF (Y.g true p) (Y.g true q)
 | false,.a p q=>Y.g false p++Y.g false q
 | true,.o p q=>Y.g true p++Y.g true q
 | false,.o p q=>KF (Y.g false p) (Y.g false q)
 | true,.i p q=>Y.g false p++Y.g true q
 | false,.i p q=>KF (Y.g true p) (Y.g false q)
 | true,.f=>[]
 | false,.f=>[[]]
noncomputable def Lb:List Pl->List Nat->Pl
 | [],_=>⟨0,[],[]⟩
 | p::r,[]=>p.add (Lb r [])
 | p::r,k::q=>(p.mul k).add (Lb r q)
noncomputable def RC (p:Pl):Bool:=decide (p.c < 0)&&(p.n.all (fun k=>decide (k<=0))&&p.i.all (fun k=>decide (k=0)))
noncomputable def JB:List (List Pl)->List (List Nat)->Bool
 | [],_=>true
 | l::r,[]=>RC (Lb l [])&&JB r []
 | l::r,m::q=>RC (Lb l m)&&JB r q
noncomputable def L4 (g:Y):List Y->List (List Pl)
 | []=>g.g false
 | h::r=>KF (h.g true) (L4 g r)
section
variable {xs:List Nat} {ys:List Int}
noncomputable def Ii:List Int->List Nat->Int
 | [],_=>0
 | _,[]=>0
 | k::r,x::q=>k*x+Ii r q
noncomputable def GK:List Int->List Int->Int
 | [],_=>0
 | _,[]=>0
 | k::r,x::q=>k*x+GK r q
noncomputable def Pl.ev (xs:List Nat) (ys:List Int) (p:Pl):Int:=p.c+Ii p.n xs+GK p.i ys
theorem PM (a b c d:Int):a+b+(c+d)=a+c+(b+d):=by rw[Int.add_assoc,Int.add_left_comm b,← Int.add_assoc]
theorem IW:∀(i:Nat) (xs:List Nat),Ii (LP i) xs=Rm xs i
 | 0,[]=>rfl
 | 0,x::r=>(congrArg (·+(0:Int)) (Int.one_mul x)).trans (Int.add_zero _)
 | i+1,[]=>rfl
 | i+1,x::r=>((congrArg (·+Ii (LP i) r) (Int.zero_mul x)).trans (Int.zero_add _)).trans (IW i r)
theorem Ji:∀(i:Nat) (xs:List Int),GK (LP i) xs=RU xs i
 | 0,[]=>rfl
 | 0,x::r=>(congrArg (·+(0:Int)) (Int.one_mul x)).trans (Int.add_zero _)
 | i+1,[]=>rfl
 | i+1,x::r=>((congrArg (·+GK (LP i) r) (Int.zero_mul x)).trans (Int.zero_add _)).trans (Ji i r)
theorem KL:∀(a b:List Int) (xs:List Nat),Ii (Pz a b) xs=Ii a xs+Ii b xs
 | [],b,xs=>(Int.zero_add _).symm
 | x::r,[],xs=>(Int.add_zero _).symm
 | x::r,y::q,[]=>rfl
 | x::r,y::q,z::xs=>(congrArg (_+·) (KL r q xs)).trans ((congrArg (·+_) (Int.add_mul x y z)).trans (PM _ _ _ _))
theorem JZ:∀(a b:List Int) (xs:List Int),GK (Pz a b) xs=GK a xs+GK b xs
 | [],b,xs=>(Int.zero_add _).symm
 | x::r,[],xs=>(Int.add_zero _).symm
 | x::r,y::q,[]=>rfl
 | x::r,y::q,z::xs=>(congrArg (_+·) (JZ r q xs)).trans ((congrArg (·+_) (Int.add_mul x y z)).trans (PM _ _ _ _))
theorem K6 (k:Int):∀(a:List Int) (xs:List Nat),Ii (a.map (k*·)) xs=k*Ii a xs
 | [],xs=>(Int.mul_zero k).symm
 | x::r,[]=>(Int.mul_zero k).symm
 | x::r,z::xs=>(congrArg (_+·) (K6 k r xs)).trans ((congrArg (·+_) (Int.mul_assoc k x z)).trans (Int.mul_add k _ _).symm)
theorem Kf (k:Int):∀(a:List Int) (xs:List Int),GK (a.map (k*·)) xs=k*GK a xs
 | [],xs=>(Int.mul_zero k).symm
 | x::r,[]=>(Int.mul_zero k).symm
 | x::r,z::xs=>(congrArg (_+·) (Kf k r xs)).trans ((congrArg (·+_) (Int.mul_assoc k x z)).trans (Int.mul_add k _ _).symm)
variable {p q:Pl} {i j k:Int}
theorem FS (e:p.ev xs ys=i) (e':q.ev xs ys=j):(p.add q).ev xs ys=i+j:=by
 subst e e';exact(congrArg (_+·) (JZ _ _ _)).trans ((congrArg (fun z=>p.c+q.c+z+_) (KL _ _ _)).trans ((congrArg (·+_) (PM _ _ _ _)).trans (PM _ _ _ _)))
theorem DN (k:Int) (e:p.ev xs ys=i):(p.mul k).ev xs ys=k*i:=by
 subst e;exact(congrArg (_+·) (Kf k _ _)).trans ((congrArg (fun z=>k*p.c+z+_) (K6 k _ _)).trans ((congrArg (·+_) (Int.mul_add k _ _).symm).trans (Int.mul_add k _ _).symm))
theorem Nu (k:Int):(Pl.mk k [] []).ev xs ys=k:=(Int.add_zero _).trans (Int.add_zero _)
theorem Oq (k:Int) (e:p.ev xs ys=i) (e':q.ev xs ys=j):(p.sub q k).ev xs ys=i+-1*j+k:=FS (FS e (DN _ e')) (Nu k)
theorem JF (e:p.ev xs ys=i) (e':q.ev xs ys=j):(p.sub q 0).ev xs ys=i - j:=(Oq 0 e e').trans ((Int.add_zero _).trans (congrArg (i+·) (Int.neg_one_mul j)))
theorem Fr (e:p.ev xs ys=i) (e':q.ev xs ys=j) (h:j<=i):0<=(p.sub q 0).ev xs ys:=by rw[JF e e'];exact Int.sub_nonneg_of_le h
theorem Eu (e:p.ev xs ys=i) (e':q.ev xs ys=j) (h:j < i):0<=(p.sub q (-1)).ev xs ys:=by
 rw[Oq (-1) e e',Int.neg_one_mul];exact Int.sub_nonneg_of_le (Int.add_one_le_of_lt (Int.sub_pos_of_lt h))
inductive Tells (xs:List Nat) (ys:List Int) (a:Alt) (k:Int):Prop
 | mk (g:List Pl) (p:Pl):(g,p)∈a->(∀p∈g,0<=p.ev xs ys)->p.ev xs ys=k->Tells xs ys a k
inductive Holds (xs:List Nat) (ys:List Int) (a:List (List Pl)):Prop
 | mk (g:List Pl):g∈a->(∀p∈g,0<=p.ev xs ys)->Holds xs ys a
theorem CZ {P:Pl->Prop} {a b:List Pl} (h:∀p∈a,P p) (h':∀p∈b,P p):∀p∈a++b,P p:=fun p m=>(List.mem_append.mp m).elim (h p) (h' p)
theorem Tells.one {x:Alt} {f:Pl->Alt} (h:Tells xs ys x j) (q:∀p,p.ev xs ys=j->Tells xs ys (f p) k):Tells xs ys (one x f) k:=
 h.casesOn fun _ p m g e=>(q p e).casesOn fun _ _ m' g' e'=>.mk _ _ (List.mem_flatMap.mpr ⟨_,m,List.mem_map.mpr ⟨_,m',rfl⟩⟩) (CZ g g') e'
theorem Tells.both {x y:Alt} {f:Pl->Pl->Alt} (h:Tells xs ys x i) (h':Tells xs ys y j) (q:∀p r,p.ev xs ys=i->r.ev xs ys=j->Tells xs ys (f p r) k):Tells xs ys (both x y f) k:=
 h.casesOn fun _ p m g e=>h'.casesOn fun _ r m' g' e'=>(q p r e e').casesOn fun _ _ m2 g2 e2=>.mk _ _ (List.mem_flatMap.mpr ⟨_,m,List.mem_flatMap.mpr ⟨_,m',List.mem_map.mpr ⟨_,m2,rfl⟩⟩⟩) (CZ g (CZ g' g2)) e2
theorem Tells.now (h:p.ev xs ys=k):Tells xs ys [([],p)] k:=.mk _ _ (.head _) (fun _ m=>nomatch m) h
theorem O6 {P:Pl->Prop} {c:Pl} (h:P c):∀p∈[c],P p:=fun _ m=>List.mem_singleton.mp m▸h
theorem Tells.fst {c d r s:Pl} (h:0<=c.ev xs ys) (e:r.ev xs ys=k):Tells xs ys [([c],r),([d],s)] k:=.mk _ _ (.head _) (O6 h) e
theorem Tells.snd {c d r s:Pl} (h:0<=d.ev xs ys) (e:s.ev xs ys=k):Tells xs ys [([c],r),([d],s)] k:=.mk _ _ (.tail _ (.head _)) (O6 h) e
theorem Tells.cmp {r s:Pl} (e:p.ev xs ys=i) (e':q.ev xs ys=j) (h1:j<=i->r.ev xs ys=k) (h2:i < j->s.ev xs ys=k):Tells xs ys [([p.sub q 0],r),([q.sub p (-1)],s)] k:=
 (Int.lt_or_le i j).elim (fun h=>.snd (Eu e' e h) (h2 h)) fun h=>.fst (Fr e e' h) (h1 h)
theorem Tells.sgn {s:Pl} (e:p.ev xs ys=i) (h1:0<=i->i=k) (h2:i<=0->s.ev xs ys=k):Tells xs ys [([p],p),([p.mul (-1)],s)] k:=
 (Int.le_total 0 i).elim (fun h=>.fst (e▸h) (e.trans (h1 h))) fun h=>.snd (by rw[DN _ e,Int.neg_one_mul];exact Int.neg_nonneg_of_nonpos h) (h2 h)
mutual
theorem ZN.ok:∀z:ZN,Tells xs ys z.f (z.d xs ys)
 | .v i=>.now ((Int.add_zero _).trans ((Int.zero_add _).trans (IW i xs)))
 | .c k=>.now (Nu _)
 | .a x y=>(ZN.ok x).both (ZN.ok y) fun p q e e'=>.now ((FS e e').trans (Int.natCast_add _ _).symm)
 | .s x y=>(ZN.ok x).both (ZN.ok y) fun p q e e'=>.cmp e e' (fun h=>(JF e e').trans (Int.ofNat_sub (Int.ofNat_le.mp h)).symm) fun h=>(Nu 0).trans (congrArg Nat.cast (Nat.sub_eq_zero_of_le (Int.ofNat_le.mp (Int.le_of_lt h)))).symm
 | .m k x=>(ZN.ok x).one fun p e=>.now ((DN _ e).trans (Int.natCast_mul _ _).symm)
 | .r x k=>(ZN.ok x).one fun p e=>.now ((DN _ e).trans ((Int.mul_comm _ _).trans (Int.natCast_mul _ _).symm))
 | .n x y=>(ZN.ok x).both (ZN.ok y) fun p q e e'=>.cmp e' e (fun h=>e.trans (congrArg Nat.cast (Nat.min_eq_left (Int.ofNat_le.mp h))).symm) fun h=>e'.trans (congrArg Nat.cast (Nat.min_eq_right (Int.ofNat_le.mp (Int.le_of_lt h)))).symm
 | .x x y=>(ZN.ok x).both (ZN.ok y) fun p q e e'=>.cmp e' e (fun h=>e'.trans (congrArg Nat.cast (Nat.max_eq_right (Int.ofNat_le.mp h))).symm) fun h=>e.trans (congrArg Nat.cast (Nat.max_eq_left (Int.ofNat_le.mp (Int.le_of_lt h)))).symm
 | .t x=>(ZI.ok x).one fun p e=>.sgn e (fun h=>(Int.toNat_of_nonneg h).symm) fun h=>(Nu 0).trans (congrArg Nat.cast (Int.toNat_of_nonpos h)).symm
 | .b x=>(ZI.ok x).one fun p e=>.sgn e (fun h=>(Int.natAbs_of_nonneg h).symm) fun h=>(DN _ e).trans ((Int.neg_one_mul _).trans (Int.ofNat_natAbs_of_nonpos h).symm)
theorem ZI.ok:∀z:ZI,Tells xs ys z.f (z.d xs ys)
 | .v i=>.now ((congrArg (·+_) (Int.add_zero 0)).trans ((Int.zero_add _).trans (Ji i ys)))
 | .c k=>.now (Nu _)
 | .a x y=>(ZI.ok x).both (ZI.ok y) fun p q e e'=>.now (FS e e')
 | .s x y=>(ZI.ok x).both (ZI.ok y) fun p q e e'=>.now (JF e e')
 | .m k x=>(ZI.ok x).one fun p e=>.now (DN _ e)
 | .r x k=>(ZI.ok x).one fun p e=>.now ((DN _ e).trans (Int.mul_comm _ _))
 | .n x=>(ZI.ok x).one fun p e=>.now ((DN _ e).trans (Int.neg_one_mul _))
 | .o x=>ZN.ok x
end
theorem Holds.cs {x y:Alt} {f:Pl->Pl->List (List Pl)} (h:Tells xs ys x i) (h':Tells xs ys y j) (q:∀p r,p.ev xs ys=i->r.ev xs ys=j->Holds xs ys (f p r)):Holds xs ys (cs x y f):=
 h.casesOn fun _ p m g e=>h'.casesOn fun _ r m' g' e'=>(q p r e e').casesOn fun _ m2 g2=>.mk _ (List.mem_flatMap.mpr ⟨_,m,List.mem_flatMap.mpr ⟨_,m',List.mem_map.mpr ⟨_,m2,rfl⟩⟩⟩) (CZ g (CZ g' g2))
theorem Holds.prod {x y:List (List Pl)} (h:Holds xs ys x) (h':Holds xs ys y):Holds xs ys (KF x y):=
 h.casesOn fun _ m g=>h'.casesOn fun _ m' g'=>.mk _ (List.mem_flatMap.mpr ⟨_,m,List.mem_map.mpr ⟨_,m',rfl⟩⟩) (CZ g g')
theorem Holds.l {x y:List (List Pl)} (h:Holds xs ys x):Holds xs ys (x++y):=h.casesOn fun z m g=>.mk z (List.mem_append_left _ m) g
theorem Holds.r {x y:List (List Pl)} (h:Holds xs ys y):Holds xs ys (x++y):=h.casesOn fun z m g=>.mk z (List.mem_append_right _ m) g
theorem Holds.one (h:0<=p.ev xs ys):Holds xs ys [[p]]:=.mk _ (.head _) (O6 h)
noncomputable def ifP (w:Bool) (a:Prop):Prop:=match w with
 | true=>a
 | false=>¬a
theorem ifP.to {w:Bool} {a b:Prop} (h:a↔b) (q:ifP w a):ifP w b:=by
 cases w with
 | true=>exact h.mp q
 | false=>exact fun z=>q (h.mpr z)
theorem QS {x y:Alt} {w:Bool} (h:Tells xs ys x i) (h':Tells xs ys y j) (q:ifP w (i<=j)):Holds xs ys (cs x y (leF w)):=.cs h h' fun p r e e'=>by
 cases w with
 | true=>exact .one (Fr e' e q)
 | false=>exact .one (Eu e e' (Int.not_le.mp q))
theorem Q9 {x y:Alt} {w:Bool} (h:Tells xs ys x i) (h':Tells xs ys y j) (q:ifP w (i < j)):Holds xs ys (cs x y (ltF w)):=.cs h h' fun p r e e'=>by
 cases w with
 | true=>exact .one (Eu e' e q)
 | false=>exact .one (Fr e e' (Int.not_lt.mp q))
theorem QM {x y:Alt} {w:Bool} (h:Tells xs ys x i) (h':Tells xs ys y j) (q:ifP w (i=j)):Holds xs ys (cs x y (eqF w)):=.cs h h' fun p r e e'=>by
 cases w with
 | true=>exact .mk _ (.head _) (CZ (a:=[_]) (O6 (Fr e' e (Int.le_of_eq q))) (O6 (Fr e e' (Int.le_of_eq q.symm))))
 | false=>exact(Int.lt_or_gt_of_ne q).elim (fun q=>Holds.l (x:=[[_]]) (y:=[[_]]) (.one (Eu e' e q))) fun q=>Holds.r (x:=[[_]]) (y:=[[_]]) (.one (Eu e e' q))
theorem Y.ok:∀(y:Y) (w:Bool),ifP w (y.d xs ys)->Holds xs ys (y.g w)
 | .l x y,w,h=>QS x.ok y.ok (ifP.to Int.ofNat_le.symm h)
 | .t x y,w,h=>Q9 x.ok y.ok (ifP.to Int.ofNat_lt.symm h)
 | .e x y,w,h=>QM x.ok y.ok (ifP.to Int.natCast_inj.symm h)
 | .L x y,w,h=>QS x.ok y.ok h
 | .T x y,w,h=>Q9 x.ok y.ok h
 | .E x y,w,h=>QM x.ok y.ok h
 | .n p,true,h=>Y.ok p false h
 | .n p,false,h=>Y.ok p true (Classical.not_not.mp h)
 | .a p q,true,h=>(Y.ok p true h.1).prod (Y.ok q true h.2)
 | .a p q,false,h=>(Classical.em (p.d xs ys)).elim (fun z=>.r (Y.ok q false fun w=>h ⟨z,w⟩)) fun z=>.l (Y.ok p false z)
 | .o p q,true,h=>h.elim (fun z=>.l (Y.ok p true z)) fun z=>.r (Y.ok q true z)
 | .o p q,false,h=>(Y.ok p false fun z=>h (.inl z)).prod (Y.ok q false fun z=>h (.inr z))
 | .i p q,true,h=>(Classical.em (p.d xs ys)).elim (fun z=>.r (Y.ok q true (h z))) fun z=>.l (Y.ok p false z)
 | .i p q,false,h=>(Y.ok p true (Classical.byContradiction fun z=>h fun w=>absurd w z)).prod (Y.ok q false fun w=>h fun _=>w)
 | .f,true,h=>h.elim
 | .f,false,_=>.mk [] (.head _) fun _ m=>nomatch m
theorem JX:∀(l:List Pl) (k:List Nat),(∀p∈l,0<=p.ev xs ys)->0<=(Lb l k).ev xs ys
 | [],_,_=>by rw[Lb,Nu];exact Int.le_refl _
 | p::r,[],h=>by rw[Lb,FS rfl rfl];exact Int.add_nonneg (h p (.head _)) (JX r [] fun q m=>h q (.tail _ m))
 | p::r,k::q,h=>by rw[Lb,FS (DN _ rfl) rfl];exact Int.add_nonneg (Int.mul_nonneg (Int.natCast_nonneg _) (h p (.head _))) (JX r q fun q m=>h q (.tail _ m))
theorem KU:∀(l:List Int) (xs:List Nat),(∀k∈l,decide (k<=0)=true)->Ii l xs<=0
 | [],_,_=>Int.le_refl _
 | _::_,[],_=>Int.le_refl _
 | k::r,x::q,h=>Int.add_nonpos (Int.mul_nonpos_of_nonpos_of_nonneg (of_decide_eq_true (h k (.head _))) (Int.natCast_nonneg _)) (KU r q fun k m=>h k (.tail _ m))
theorem Jg:∀(l:List Int) (xs:List Int),(∀k∈l,decide (k=0)=true)->GK l xs=0
 | [],_,_=>rfl
 | _::_,[],_=>rfl
 | k::r,x::q,h=>by
  rw[GK,of_decide_eq_true (h k (.head _)),Jg r q fun k m=>h k (.tail _ m)];exact(Int.add_zero _).trans (Int.zero_mul _)
theorem MN (h:RC p=true):¬0<=p.ev xs ys:=fun z=>by
 have h1:=(Bool.and_eq_true_iff.mp h).1;have h2:=Bool.and_eq_true_iff.mp (Bool.and_eq_true_iff.mp h).2;rw[Pl.ev,Jg p.i ys (List.all_eq_true.mp h2.2),Int.add_zero] at z;exact Int.not_le.mpr (Int.lt_of_le_of_lt (Int.add_le_add_left (KU p.n xs (List.all_eq_true.mp h2.1)) _) ((Int.add_zero _).symm▸of_decide_eq_true h1)) z
theorem FJ:∀(a:List (List Pl)) (k:List (List Nat)),JB a k=true->¬Holds xs ys a
 | [],_,_,⟨_,m,_⟩=>nomatch m
 | l::r,[],h,⟨_,.head _,g⟩=>MN (Bool.and_eq_true_iff.mp h).1 (JX _ _ g)
 | l::r,[],h,⟨z,.tail _ m,g⟩=>FJ r [] (Bool.and_eq_true_iff.mp h).2 ⟨z,m,g⟩
 | l::r,k::q,h,⟨_,.head _,g⟩=>MN (Bool.and_eq_true_iff.mp h).1 (JX _ _ g)
 | l::r,k::q,h,⟨z,.tail _ m,g⟩=>FJ r q (Bool.and_eq_true_iff.mp h).2 ⟨z,m,g⟩
theorem MG {g:Y}:∀{hs:List Y},¬Holds xs ys (L4 g hs)->Rn xs ys g hs
 | [],h=>Classical.byContradiction fun z=>h (g.ok false z)
 | p::r,h=>fun z=>MG (hs:=r) fun w=>h ((p.ok true z).prod w)
end
theorem MS:∀(m:Nat) {P:List Int->Prop},(∀ys,P ys)->R8 m P
 | 0,_,h=>h []
 | m+1,_,h=>fun y=>MS m fun ys=>h (y::ys)
theorem Mn (m:Nat):∀(n:Nat) {P:List Nat->List Int->Prop},(∀xs ys,P xs ys)->Sk m n P
 | 0,_,h=>MS m (h [])
 | n+1,_,h=>fun x=>Mn m n fun xs=>h (x::xs)
noncomputable abbrev Z0:ZN:=.v 0
noncomputable abbrev Z1:ZN:=.v 1
noncomputable abbrev Z2:ZN:=.v 2
noncomputable abbrev Z3:ZN:=.v 3
noncomputable abbrev Z4:ZN:=.v 4
noncomputable abbrev Z5:ZN:=.v 5
noncomputable abbrev Z6:ZN:=.v 6
noncomputable abbrev Z7:ZN:=.v 7
noncomputable abbrev Z8:ZN:=.v 8
noncomputable abbrev Z9:ZN:=.v 9
noncomputable abbrev Z10:ZN:=.v 10
noncomputable abbrev Z11:ZN:=.v 11
noncomputable abbrev Lin (n m:Nat) (hs:List Y) (g:Y):Prop:=Sk m n fun xs ys=>Rn xs ys g hs
theorem R0:true=true:=rfl
theorem lin (n m:Nat) (hs:List Y) (g:Y) (k:List (List Nat)) (h:JB (L4 g hs) k=true):Lin n m hs g:=
 Mn m n fun _ _=>MG (FJ _ _ h)
end
section
theorem U1:Lin 2 0 [.T (.o Z0) (.o Z1)] (.l (.a Z0 (.c 1)) Z1):=lin _ _ _ _ [] R0
theorem U2:Lin 1 0 [] (.L (.c 0) (.o Z0)):=lin _ _ _ _ [] R0
theorem U3:Lin 2 0 [.T (.o Z0) (.o Z1)] (.t (.s Z1 (.a Z0 (.c 1))) (.s Z1 Z0)):=lin _ _ _ _ [[0,0,0,1],[1,0,1,0],[],[1,1,0,0]] R0
theorem U4:Lin 2 0 [.l Z0 Z1] (.l Z0 (.a Z1 (.c 1))):=lin _ _ _ _ [] R0
theorem U5:Lin 2 0 [.T (.o Z0) (.o Z1)] (.t Z0 Z1):=lin _ _ _ _ [] R0
theorem U6:Lin 1 0 [.l Z0 (.c 10)] (.l Z0 (.c 8000000)):=lin _ _ _ _ [] R0
theorem U7:Lin 1 0 [.l Z0 (.c 30)] (.l Z0 (.c 10000)):=lin _ _ _ _ [] R0
theorem U8:Lin 1 0 [.l Z0 (.c 3401)] (.l Z0 (.c 100000)):=lin _ _ _ _ [] R0
theorem U9:Lin 1 0 [.l Z0 (.c 0)] (.e Z0 (.c 0)):=lin _ _ _ _ [] R0
theorem U10:Lin 1 0 [.l Z0 (.c 100000)] (.l Z0 (.c 8000000)):=lin _ _ _ _ [] R0
theorem U11:Lin 1 0 [] (.l (.c 1) (.a Z0 (.c 1))):=lin _ _ _ _ [] R0
theorem U12:Lin 2 0 [.n (.T (.o Z0) (.o Z1))] (.l Z1 Z0):=lin _ _ _ _ [] R0
theorem U13:Lin 1 0 [.l Z0 (.c 10)] (.l Z0 (.c 7999999)):=lin _ _ _ _ [] R0
theorem U14:Lin 1 0 [.l Z0 (.c 3401)] (.l Z0 (.c 8000000)):=lin _ _ _ _ [] R0
theorem U15:Lin 0 2 [.T (.v 0) (.v 1)] (.L (.c 0) (.s (.s (.v 1) (.v 0)) (.c 1))):=lin _ _ _ _ [] R0
theorem U16:Lin 1 0 [.l Z0 (.c 100)] (.l Z0 (.c 8000000)):=lin _ _ _ _ [] R0
theorem U17:Lin 3 0 [.l Z0 (.a Z1 (.c 1)),.t Z2 Z0] (.l Z2 Z1):=lin _ _ _ _ [] R0
theorem U18:Lin 2 0 [.e Z0 Z1,.l Z1 (.c 1000)] (.l Z0 (.c 8000000)):=lin _ _ _ _ [[1,0,1,1]] R0
theorem U19:Lin 1 0 [.l Z0 (.c 30)] (.l Z0 (.c 3401)):=lin _ _ _ _ [] R0
theorem U20:Lin 1 0 [.l Z0 (.c 8)] (.l Z0 (.c 7999999)):=lin _ _ _ _ [] R0
theorem U21:Lin 1 0 [.l Z0 (.c 8)] (.l Z0 (.c 10)):=lin _ _ _ _ [] R0
theorem U22:Lin 4 0 [.e Z0 Z1,.l Z1 Z2,.l Z2 Z3] (.l Z0 Z3):=lin _ _ _ _ [[1,0,1,1,1]] R0
theorem U23:Lin 0 1 [.t (.b (.v 0)) (.c 1099511627776)] (.t (.b (.v 0)) (.c 8796093022208)):=lin _ _ _ _ [[0,1,0,1],[1,0,0,1],[1,0,0,1],[0,1,0,1]] R0
theorem U24:Lin 2 0 [.l Z0 Z1] (.e (.n Z0 Z1) Z0):=lin _ _ _ _ [[0,0,1],[0,0,1],[1,1,0],[1,1,0]] R0
theorem U25:Lin 1 0 [] (.l Z0 (.a Z0 (.c 1))):=lin _ _ _ _ [] R0
theorem U26:Lin 2 0 [] (.l (.n Z0 Z1) Z0):=lin _ _ _ _ [[0,1]] R0
theorem U27:Lin 1 0 [] (.l (.c 0) Z0):=lin _ _ _ _ [] R0
theorem U28:Lin 3 0 [.e (.a Z0 Z1) Z2,.l Z2 (.c 100000)] (.l Z1 (.c 8000000)):=lin _ _ _ _ [[1,0,1,1]] R0
theorem U29:Lin 3 0 [.n (.T (.o Z0) (.o Z1))] (.l (.n Z1 Z2) Z0):=lin _ _ _ _ [[1,0,1]] R0
theorem U30:Lin 1 0 [.l Z0 (.c 50)] (.l Z0 (.c 100)):=lin _ _ _ _ [] R0
theorem U31:Lin 2 0 [.l Z0 (.c 10),.l Z1 (.m 30 Z0)] (.l (.a Z1 (.m 64 Z0)) (.c 8000000)):=lin _ _ _ _ [[94,1,1]] R0
theorem U32:Lin 1 0 [] (.E (.a (.c 0) (.m 1 (.o Z0))) (.o Z0)):=lin _ _ _ _ [] R0
theorem U33:Lin 1 0 [.T (.o Z0) (.c 2)] (.t Z0 (.c 2)):=lin _ _ _ _ [] R0
theorem U34:Lin 1 0 [.n (.T (.o Z0) (.c 2))] (.n (.t Z0 (.c 2))):=lin _ _ _ _ [] R0
theorem U35:Lin 1 0 [.l Z0 (.c 3400)] (.l Z0 (.c 10000)):=lin _ _ _ _ [] R0
theorem U36:Lin 1 0 [.l Z0 (.c 3)] (.l Z0 (.c 10)):=lin _ _ _ _ [] R0
theorem U37:Lin 1 0 [.t Z0 (.c 2)] (.l Z0 (.c 7999998)):=lin _ _ _ _ [] R0
theorem U38:Lin 1 0 [.L (.c 4) (.a (.a (.o Z0) (.c 1)) (.c 1)),.t Z0 (.c 2)] .f:=lin _ _ _ _ [] R0
theorem U39:Lin 1 0 [.e Z0 (.c 4)] (.l Z0 (.c 7999999)):=lin _ _ _ _ [[1,0,1]] R0
theorem U40:Lin 2 0 [.n (.T (.o Z0) (.o Z1))] (.e (.c 0) (.s Z1 Z0)):=lin _ _ _ _ [[1,0,1],[0,1,1],[0,0,1],[0,0,1]] R0
theorem U41:Lin 2 0 [.t (.a Z0 (.c 100)) Z1] (.t (.a Z0 (.c 64)) Z1):=lin _ _ _ _ [] R0
theorem U42:Lin 1 1 [.l Z0 (.c 8000000),.t (.t (.v 0)) Z0] (.T (.v 0) (.c 9223372036854775808)):=lin _ _ _ _ [[1,0,1,1]] R0
theorem U43:Lin 2 1 [.e Z0 Z1,.t (.t (.v 0)) Z1] (.T (.v 0) (.o Z0)):=lin _ _ _ _ [[0,1,0,1,1],[0,1,1,1,1]] R0
theorem U44:Lin 4 0 [.e Z0 Z1,.l Z2 Z3,.l Z1 Z2] (.l Z0 Z3):=lin _ _ _ _ [[1,0,1,1,1]] R0
theorem U45:Lin 2 0 [.e Z0 Z1,.l Z1 (.c 8000000)] (.T (.o Z0) (.c 9223372036854775808)):=lin _ _ _ _ [[1,0,1,1]] R0
theorem U46:Lin 3 0 [.l Z0 Z1,.l Z1 Z2] (.l Z0 Z2):=lin _ _ _ _ [] R0
theorem U47:Lin 2 0 [.l Z0 (.c 100),.l Z1 Z0] (.l Z1 (.c 200)):=lin _ _ _ _ [] R0
theorem U48:Lin 0 0 [] (.a (.L (.c 0) (.c 0)) (.L (.c 0) (.c 4398046511104))):=lin _ _ _ _ [] R0
theorem U49:Lin 2 0 [.t (.a Z0 (.c 11)) Z1] (.t Z0 Z1):=lin _ _ _ _ [] R0
theorem U50:Lin 3 0 [.t (.a (.a Z0 (.m 11 (.a Z1 (.c 1)))) (.c 110)) Z2] (.t (.a Z0 (.c 110)) Z2):=lin _ _ _ _ [] R0
theorem U51:Lin 3 0 [.t (.a (.a Z0 (.m 2 (.a Z1 (.c 1)))) (.c 11)) Z2] (.t (.a Z0 (.c 11)) Z2):=lin _ _ _ _ [] R0
theorem U52:Lin 1 0 [] (.l (.a Z0 (.c 1)) (.a Z0 (.c 1))):=lin _ _ _ _ [] R0
theorem U53:Lin 2 0 [.e Z0 Z1,.l Z1 (.c 20)] (.l Z0 (.c 20)):=lin _ _ _ _ [[1,0,1,1]] R0
theorem U54:Lin 2 0 [.l Z0 Z1] (.e (.a Z0 (.s Z1 Z0)) Z1):=lin _ _ _ _ [[0,0,1],[0,0,1],[1,1,0],[1,1,0]] R0
theorem U55:Lin 2 0 [.l Z0 Z1,.n (.T (.o Z0) (.o Z1))] (.e Z0 Z1):=lin _ _ _ _ [[0,1,1],[1,0,1]] R0
theorem U56:Lin 3 0 [.T (.o Z0) (.o Z1),.l Z2 Z0] (.l Z2 (.n Z0 Z1)):=lin _ _ _ _ [[0,1,0,1],[1,0,1,0]] R0
theorem U57:Lin 1 0 [.E (.s (.o Z0) (.c 1)) (.c 0)] (.e Z0 (.c 1)):=lin _ _ _ _ [[0,1,1],[1,0,1]] R0
theorem U58:Lin 1 0 [.l (.c 1) Z0,.n (.E (.s (.o Z0) (.c 1)) (.c 0))] (.l (.c 1) (.s Z0 (.c 1))):=lin _ _ _ _ [[],[],[0,1,0,1],[1,0,1,0]] R0
theorem U59:Lin 1 0 [.l (.c 1) Z0] (.E (.s (.o Z0) (.c 1)) (.o (.s Z0 (.c 1)))):=lin _ _ _ _ [[0,0,1],[0,0,1],[],[1,1,0]] R0
theorem U60:Lin 1 0 [.n (.E (.s (.o Z0) (.c 1)) (.c 0))] (.n (.e Z0 (.c 1))):=lin _ _ _ _ [[1,0,1],[1,1,0]] R0
theorem U61:Lin 3 0 [.l (.a (.a Z0 (.c 1)) Z1) Z2] (.l (.a Z0 (.c 1)) Z2):=lin _ _ _ _ [] R0
theorem U62:Lin 1 0 [.t (.c 0) Z0] (.e Z0 (.a (.s Z0 (.c 1)) (.c 1))):=lin _ _ _ _ [[0,0,1],[0,0,1],[],[1,1,0]] R0
theorem U63:Lin 3 0 [.l Z0 (.a Z1 (.c 1)),.t (.a Z2 (.c 1)) Z0] (.l Z2 Z1):=lin _ _ _ _ [] R0
theorem U64:Lin 4 0 [.e (.a Z0 Z1) Z2,.l Z2 (.c 100000),.l Z3 Z1] (.l Z3 (.c 8000000)):=lin _ _ _ _ [[1,0,1,1,1]] R0
theorem U65:Lin 4 0 [.e (.a Z0 Z1) Z2,.l Z3 (.a Z0 (.m 2 Z1)),.l Z2 (.c 100000)] (.l (.a Z3 (.m 64 Z1)) (.c 8000000)):=lin _ _ _ _ [[66,0,1,66,1]] R0
theorem U66:Lin 1 0 [] (.l (.n (.c 20) Z0) (.c 20)):=lin _ _ _ _ [[0,1]] R0
theorem U67:Lin 1 0 [.l Z0 (.c 100000)] (.t (.b (.o Z0)) (.c 1099511627776)):=lin _ _ _ _ [[1,0,1]] R0
theorem U68:Lin 1 0 [] (.E (.a (.a (.c 0) (.m 2 (.o Z0))) (.c 1)) (.o (.a (.m 2 Z0) (.c 1)))):=lin _ _ _ _ [] R0
theorem U69:Lin 1 0 [] (.E (.a (.c 0) (.m 2 (.o Z0))) (.o (.m 2 Z0))):=lin _ _ _ _ [] R0
theorem U70:Lin 3 0 [.e (.a Z0 Z1) Z2,.l Z2 (.c 100000)] (.l Z1 (.c 100000)):=lin _ _ _ _ [[1,0,1,1]] R0
theorem U71:Lin 2 0 [.e (.m 2 Z0) Z1,.l Z1 (.c 100000)] (.l Z0 (.c 8000000)):=lin _ _ _ _ [[1,0,1,2]] R0
theorem U72:Lin 2 0 [.l (.a Z0 (.c 2)) Z1,.l Z1 (.c 100000)] (.l Z0 (.c 8000000)):=lin _ _ _ _ [] R0
theorem U73:Lin 2 0 [.l (.a Z0 (.c 2)) Z1,.l Z1 (.c 100000)] (.l Z0 (.c 7999999)):=lin _ _ _ _ [] R0
theorem U74:Lin 1 0 [.l Z0 (.c 1000)] (.l Z0 (.c 8000000)):=lin _ _ _ _ [] R0
theorem U75:Lin 1 0 [.l Z0 (.c 1000)] (.t (.b (.s (.o Z0) (.c 1))) (.c 1099511627776)):=lin _ _ _ _ [[1,0,1]] R0
theorem U76:Lin 2 0 [.t Z0 (.s Z1 (.c 1))] (.E (.s (.a (.s (.o Z1) (.c 1)) (.m (-1) (.o Z0))) (.c 1)) (.o (.s (.s Z1 (.c 1)) (.a Z0 (.c 1))))):=lin _ _ _ _ [[0,0,0,0,1],[0,0,0,0,1],[0,1,0,1,0],[0,1,0,1,0],[],[0,0,0,1,0],[0,1,0,0,1],[1,0,1,0,0],[0,0,0,0,1],[0,0,0,0,1],[0,1,0,0,0],[],[],[],[0,1,0,1,0]] R0
theorem U77:Lin 2 0 [.t Z0 (.s Z1 (.c 1))] (.t (.a (.s (.s Z1 (.c 1)) (.a Z0 (.c 1))) (.c 1)) Z1):=lin _ _ _ _ [[0,0,0,0,1],[0,1,0,1,0],[],[],[0,1,0,0,0],[0,1,0,0,0],[],[0,1,0,1,0]] R0
theorem U78:Lin 7 0 [.l Z0 (.a (.a Z1 (.a Z2 (.c 1))) (.a Z3 (.c 1))),.l Z2 (.a Z4 (.c 2)),.l Z3 (.a Z5 (.c 2)),.l Z1 Z6] (.l Z0 (.a (.a (.a Z6 Z4) Z5) (.c 6))):=lin _ _ _ _ [] R0
theorem U79:Lin 1 0 [.l Z0 (.c 10)] (.l Z0 (.c 1000)):=lin _ _ _ _ [] R0
theorem U80:Lin 1 0 [.l Z0 (.c 10)] (.l (.a Z0 (.c 1)) (.c 8000000)):=lin _ _ _ _ [] R0
theorem U81:Lin 5 0 [.e (.a Z0 Z1) Z2,.e (.m 2 Z3) Z1,.l Z4 (.c 3401),.l Z2 Z4] (.l Z3 (.c 8000000)):=lin _ _ _ _ [[1,0,1,0,1,1,2]] R0
theorem U82:Lin 2 0 [.e (.a Z0 (.c 1)) (.a Z1 (.c 1)),.l Z1 (.c 10)] (.l Z0 (.c 999)):=lin _ _ _ _ [[1,0,1,1]] R0
theorem U83:Lin 2 0 [.e (.a Z0 (.c 1)) (.a Z1 (.c 1))] (.l Z0 (.a Z1 (.c 1))):=lin _ _ _ _ [[1,0,1]] R0
theorem U84:Lin 1 0 [.l Z0 (.c 10)] (.l Z0 (.c 999)):=lin _ _ _ _ [] R0
theorem U85:Lin 3 0 [.e (.a Z0 (.c 1)) (.a Z1 (.c 1)),.l Z1 (.c 10)] (.l (.m 3700 (.s (.a Z0 (.c 1)) Z2)) (.c 100000)):=lin _ _ _ _ [[3700,0,3700,0,1],[0,0,0,0,1]] R0
theorem U86:Lin 2 0 [.T (.o Z0) (.a (.o Z1) (.c 1)),.a (.l (.c 1) Z0) (.l Z0 (.a Z1 (.c 1)))] (.t (.s Z0 (.c 1)) Z1):=lin _ _ _ _ [[1,0,0,0,1],[0,1,0,1,0]] R0
theorem U87:Lin 1 0 [.l Z0 (.c 10000)] (.l (.a (.a (.a (.a (.a (.a (.a (.a (.a (.a (.a (.a (.a (.a (.a (.a (.a (.a (.a (.a (.a (.a (.a (.a (.a (.a (.a (.c 0) (.c 1)) (.c 1)) (.c 1)) (.c 1)) (.c 1)) (.c 1)) (.c 1)) (.c 1)) (.c 1)) (.c 1)) (.c 1)) (.c 1)) (.c 1)) (.c 1)) (.c 1)) (.c 1)) (.c 1)) (.c 1)) (.c 1)) (.c 1)) (.c 1)) (.c 1)) (.c 1)) (.c 1)) (.c 1)) (.c 1)) Z0) (.c 8000000)):=lin _ _ _ _ [] R0
theorem U88:Lin 1 0 [.l Z0 (.c 10000)] (.l (.a (.a (.a (.a (.a (.a (.a (.a (.a (.a (.a (.a (.a (.a (.a (.a (.a (.a (.a (.a (.a (.a (.a (.a (.a (.a (.a (.a (.c 0) (.c 1)) (.c 1)) (.c 1)) (.c 1)) (.c 1)) (.c 1)) (.c 1)) (.c 1)) (.c 1)) (.c 1)) (.c 1)) (.c 1)) (.c 1)) (.c 1)) (.c 1)) (.c 1)) (.c 1)) (.c 1)) (.c 1)) (.c 1)) (.c 1)) (.c 1)) (.c 1)) (.c 1)) (.c 1)) (.c 1)) Z0) (.a (.c 0) (.c 1))) (.c 8000000)):=lin _ _ _ _ [] R0
theorem U89:Lin 1 0 [.l Z0 (.a (.c 0) (.c 1))] (.l Z0 (.c 100)):=lin _ _ _ _ [] R0
theorem U90:Lin 2 0 [.l Z0 (.a (.c 0) (.c 1)),.l Z1 (.a Z0 (.c 1))] (.l Z1 (.c 100)):=lin _ _ _ _ [] R0
theorem U91:Lin 3 0 [.l Z0 (.a (.c 0) (.c 1)),.l Z1 (.a Z2 (.c 1)),.l Z2 (.a Z0 (.c 1))] (.l Z1 (.c 100)):=lin _ _ _ _ [] R0
theorem U92:Lin 4 0 [.l Z0 (.a (.c 0) (.c 1)),.l Z1 (.a Z2 (.c 1)),.l Z3 (.a Z0 (.c 1)),.l Z2 (.a Z3 (.c 1))] (.l Z1 (.c 100)):=lin _ _ _ _ [] R0
theorem U93:Lin 5 0 [.l Z0 (.a (.c 0) (.c 1)),.l Z1 (.a Z2 (.c 1)),.l Z3 (.a Z0 (.c 1)),.l Z4 (.a Z3 (.c 1)),.l Z2 (.a Z4 (.c 1))] (.l Z1 (.c 100)):=lin _ _ _ _ [] R0
theorem U94:Lin 1 0 [.l Z0 (.c 10)] (.l Z0 (.c 7999996)):=lin _ _ _ _ [] R0
theorem U95:Lin 1 0 [.L (.a (.a (.a (.a (.o Z0) (.c 1)) (.c 1)) (.c 1)) (.c 1)) (.c 4)] (.e Z0 (.c 0)):=lin _ _ _ _ [] R0
theorem U96:Lin 2 0 [.l (.a Z0 (.c 1)) Z1] (.l Z0 Z1):=lin _ _ _ _ [] R0
theorem U97:Lin 2 0 [.l Z0 (.c 10),.l Z1 (.c 10000)] (.l (.a Z1 Z0) (.c 8000000)):=lin _ _ _ _ [] R0
theorem U98:Lin 1 0 [.l Z0 (.c 4000)] (.l Z0 (.c 100000)):=lin _ _ _ _ [] R0
theorem U99:Lin 5 0 [.e Z0 (.a (.a Z1 (.c 1)) Z2),.l Z3 (.a Z1 (.c 2)),.l Z4 (.m 3 Z2)] (.l (.a (.a Z3 (.c 1)) Z4) (.m 3 Z0)):=lin _ _ _ _ [[0,3,1,1,1]] R0
theorem To:Lin 1 0 [.l Z0 (.c 8)] (.l Z0 (.c 7999995)):=lin _ _ _ _ [] R0
theorem SR:Lin 1 0 [.l Z0 (.c 30)] (.l Z0 (.c 60)):=lin _ _ _ _ [] R0
theorem TS:Lin 1 0 [] (.e (.t (.a (.s (.s (.o Z0) (.c 0)) (.c 1)) (.c 1))) Z0):=lin _ _ _ _ [[0,1],[0,1]] R0
theorem Uo:Lin 1 0 [.n (.T (.c 0) (.o Z0))] (.e (.t (.c 0)) Z0):=lin _ _ _ _ [] R0
theorem TJ:Lin 1 0 [] (.L (.c 0) (.a (.c 0) (.m 1 (.o Z0)))):=lin _ _ _ _ [] R0
theorem TA:Lin 3 0 [.e (.a Z0 Z1) Z2,.l Z2 (.c 100000)] (.t Z1 (.c 1099511627776)):=lin _ _ _ _ [[1,0,1,1]] R0
theorem T9:Lin 1 0 [.l Z0 (.c 10000)] (.l Z0 (.c 8000000)):=lin _ _ _ _ [] R0
theorem TN:Lin 1 0 [.l Z0 (.c 20)] (.l (.a (.a (.c 32) Z0) (.c 18)) (.c 100)):=lin _ _ _ _ [] R0
theorem Ve:Lin 2 0 [.a (.l Z0 (.c 30)) (.l Z1 (.c 100))] (.l (.a (.a Z0 (.a (.a (.a (.a (.c 0) (.c 1)) (.c 1)) (.c 1)) (.c 1))) Z1) (.c 8000000)):=lin _ _ _ _ [] R0
theorem Vf:Lin 2 0 [.a (.l Z0 (.c 30)) (.l Z1 (.c 100))] (.l (.a Z0 (.a (.a (.a (.a (.c 0) (.c 1)) (.c 1)) (.c 1)) (.c 1))) (.c 8000000)):=lin _ _ _ _ [] R0
theorem TX:Lin 2 0 [.l Z0 (.c 10000),.l Z1 Z0] (.l Z1 (.c 8000000)):=lin _ _ _ _ [] R0
theorem Tk:Lin 1 0 [.l Z0 (.c 7)] (.l Z0 (.c 7999998)):=lin _ _ _ _ [] R0
theorem T1:Lin 1 0 [.l Z0 (.c 7)] (.l Z0 (.c 8)):=lin _ _ _ _ [] R0
theorem Tr:Lin 4 0 [.l Z0 (.a (.a (.a (.c 3401) Z1) Z2) (.c 6)),.l Z2 (.a (.m 3500 (.a (.a Z3 (.c 1)) (.c 1))) (.c 1)),.l Z1 (.c 10),.l Z3 (.c 7)] (.l Z0 (.c 100000)):=lin _ _ _ _ [[1,1,1,3500,1]] R0
theorem Ta:Lin 3 0 [.e (.a Z0 Z1) Z2,.l Z1 (.c 10),.l Z0 (.m 30 Z1)] (.l Z2 (.c 400)):=lin _ _ _ _ [[0,1,31,1,1]] R0
theorem TQ:Lin 1 0 [.l Z0 (.c 3400)] (.l Z0 (.c 3401)):=lin _ _ _ _ [] R0
theorem SO:Lin 1 0 [.l Z0 (.c 2)] (.l Z0 (.c 8)):=lin _ _ _ _ [] R0
theorem SL:Lin 2 0 [.l Z0 (.c 8)] (.e (.a (.a (.s (.a Z1 (.c 15)) Z0) Z0) (.c 4)) (.a Z1 (.c 19))):=lin _ _ _ _ [[0,0,1],[0,0,1],[0,1,1],[1,1,0]] R0
theorem Uc:Lin 1 0 [.l Z0 (.c 3)] (.l Z0 (.c 8)):=lin _ _ _ _ [] R0
theorem Ua:Lin 6 0 [.l (.a Z0 Z1) (.a (.a Z2 Z3) (.c 2)),.l Z4 (.a (.a Z1 (.c 1)) (.m 24 (.a Z5 (.c 1)))),.l Z3 (.a Z4 (.c 1))] (.l Z0 (.a Z2 (.m 24 (.a (.a Z5 (.c 1)) (.c 1))))):=lin _ _ _ _ [] R0
theorem TB:Lin 1 0 [.l Z0 (.c 3400)] (.l (.a Z0 (.c 1)) (.c 3401)):=lin _ _ _ _ [] R0
theorem Tf:Lin 0 1 [.a (.L (.c 0) (.v 0)) (.T (.v 0) (.c 4))] (.t (.b (.v 0)) (.c 1099511627776)):=lin _ _ _ _ [[0,1,0,1],[1,0,0,1]] R0
theorem Uq:Lin 1 0 [.l Z0 (.c 8)] (.l Z0 (.c 30)):=lin _ _ _ _ [] R0
end
section
section
variable {G:Prop}
theorem An {A1 A2:Prop} (h:A1/\A2) (k:A1->A2->G):G:=by obtain⟨h0,h1⟩:=h;exact k  h0 h1
theorem NK {A1 A2 A3:Prop} (h:A1/\A2/\A3) (k:A1->A2->A3->G):G:=by obtain⟨h0,h1,h2⟩:=h;exact k  h0 h1 h2
theorem Sv {A1 A2 A3 A4:Prop} (h:A1/\A2/\A3/\A4) (k:A1->A2->A3->A4->G):G:=by obtain⟨h0,h1,h2,h3⟩:=h;exact k  h0 h1 h2 h3
theorem UQ {A1 A2 A3 A4 A5:Prop} (h:A1/\A2/\A3/\A4/\A5) (k:A1->A2->A3->A4->A5->G):G:=by obtain⟨h0,h1,h2,h3,h4⟩:=h;exact k h0 h1 h2 h3 h4
theorem Ty {A1 A2 A3 A4 A5 A6:Prop} (h:A1/\A2/\A3/\A4/\A5/\A6) (k:A1->A2->A3->A4->A5->A6->G):G:=by obtain⟨h0,h1,h2,h3,h4,h5⟩:=h;exact k  h0 h1 h2 h3 h4 h5
theorem Aq {α:Sort _} {A1:α->Prop} (h:∃x,A1 x) (k:∀x,A1 x->G):G:=by obtain⟨x,h0⟩:=h;exact k x h0
theorem e1a2 {α:Sort _} {A1 A2:α->Prop} (h:∃x,A1 x/\A2 x) (k:∀x,A1 x->A2 x->G):G:=by obtain⟨x,h0,h1⟩:=h;exact k x h0 h1
theorem B2 {α:Sort _} {A1 A2 A3:α->Prop} (h:∃x,A1 x/\A2 x/\A3 x) (k:∀x,A1 x->A2 x->A3 x->G):G:=by obtain⟨x,h0,h1,h2⟩:=h;exact k x h0 h1 h2
theorem NS {α:Sort _} {β:Sort _} {A1:α->β->Prop} (h:∃x y,A1 x y) (k:∀x y,A1 x y->G):G:=by obtain⟨x,y,h0⟩:=h;exact k x y h0
theorem Be {α:Sort _} {β:Sort _} {A1 A2:α->β->Prop} (h:∃x y,A1 x y/\A2 x y) (k:∀x y,A1 x y->A2 x y->G):G:=by obtain⟨x,y,h0,h1⟩:=h;exact k x y h0 h1
theorem Cc {α:Sort _} {β:Sort _} {A1 A2 A3:α->β->Prop} (h:∃x y,A1 x y/\A2 x y/\A3 x y) (k:∀x y,A1 x y->A2 x y->A3 x y->G):G:=by obtain⟨x,y,h0,h1,h2⟩:=h;exact k x y h0 h1 h2
theorem Kc {α:Sort _} {β:Sort _} {A1 A2 A3 A4:α->β->Prop} (h:∃x y,A1 x y/\A2 x y/\A3 x y/\A4 x y) (k:∀x y,A1 x y->A2 x y->A3 x y->A4 x y->G):G:=by obtain⟨x,y,h0,h1,h2,h3⟩:=h;exact k x y h0 h1 h2 h3
theorem Lh {α:Sort _} {β:Sort _} {A1 A2 A3 A4 A5:α->β->Prop} (h:∃x y,A1 x y/\A2 x y/\A3 x y/\A4 x y/\A5 x y) (k:∀x y,A1 x y->A2 x y->A3 x y->A4 x y->A5 x y->G):G:=by obtain⟨x,y,h0,h1,h2,h3,h4⟩:=h;exact k x y h0 h1 h2 h3 h4
theorem Un {α:Sort _} {β:Sort _} {γ:Sort _} {A1:α->β->γ->Prop} (h:∃x y z,A1 x y z) (k:∀x y z,A1 x y z->G):G:=by obtain⟨x,y,z,h0⟩:=h;exact k x y z h0
theorem e3a2 {α:Sort _} {β:Sort _} {γ:Sort _} {A1 A2:α->β->γ->Prop} (h:∃x y z,A1 x y z/\A2 x y z) (k:∀x y z,A1 x y z->A2 x y z->G):G:=by obtain⟨x,y,z,h0,h1⟩:=h;exact k x y z h0 h1
theorem Rx {α:Sort _} {β:Sort _} {γ:Sort _} {A1 A2 A3:α->β->γ->Prop} (h:∃x y z,A1 x y z/\A2 x y z/\A3 x y z) (k:∀x y z,A1 x y z->A2 x y z->A3 x y z->G):G:=by obtain⟨x,y,z,h0,h1,h2⟩:=h;exact k x y z h0 h1 h2
theorem JD {α:Sort _} {β:Sort _} {γ:Sort _} {A1 A2 A3 A4:α->β->γ->Prop} (h:∃x y z,A1 x y z/\A2 x y z/\A3 x y z/\A4 x y z) (k:∀x y z,A1 x y z->A2 x y z->A3 x y z->A4 x y z->G):G:=by obtain⟨x,y,z,h0,h1,h2,h3⟩:=h;exact k x y z h0 h1 h2 h3
theorem RN {α:Sort _} {β:Sort _} {γ:Sort _} {δ:Sort _} {A1 A2:α->β->γ->δ->Prop} (h:∃x y z u,A1 x y z u/\A2 x y z u) (k:∀x y z u,A1 x y z u->A2 x y z u->G):G:=by obtain⟨x,y,z,u,h0,h1⟩:=h;exact k x y z u h0 h1
theorem UZ {α:Sort _} {β:Sort _} {γ:Sort _} {δ:Sort _} {A1 A2 A3:α->β->γ->δ->Prop} (h:∃x y z u,A1 x y z u/\A2 x y z u/\A3 x y z u) (k:∀x y z u,A1 x y z u->A2 x y z u->A3 x y z u->G):G:=by obtain⟨x,y,z,u,h0,h1,h2⟩:=h;exact k x y z u h0 h1 h2
theorem Rv {α:Sort _} {β:Sort _} {γ:Sort _} {δ:Sort _} {A1 A2 A3 A4:α->β->γ->δ->Prop} (h:∃x y z u,A1 x y z u/\A2 x y z u/\A3 x y z u/\A4 x y z u) (k:∀x y z u,A1 x y z u->A2 x y z u->A3 x y z u->A4 x y z u->G):G:=by obtain⟨x,y,z,u,h0,h1,h2,h3⟩:=h;exact k x y z u h0 h1 h2 h3
theorem Ur {α:Sort _} {β:Sort _} {γ:Sort _} {δ:Sort _} {ε:Sort _} {A1:α->β->γ->δ->ε->Prop} (h:∃x y z u v,A1 x y z u v) (k:∀x y z u v,A1 x y z u v->G):G:=by obtain⟨x,y,z,u,v,h0⟩:=h;exact k x y z u v h0
theorem Rw {α:Sort _} {β:Sort _} {γ:Sort _} {δ:Sort _} {ε:Sort _} {A1 A2 A3 A4:α->β->γ->δ->ε->Prop} (h:∃x y z u v,A1 x y z u v/\A2 x y z u v/\A3 x y z u v/\A4 x y z u v) (k:∀x y z u v,A1 x y z u v->A2 x y z u v->A3 x y z u v->A4 x y z u v->G):G:=by obtain⟨x,y,z,u,v,h0,h1,h2,h3⟩:=h;exact k x y z u v h0 h1 h2 h3
theorem T5 {α:Sort _} {A1 A2 A3 A4:α->Prop} (h:∃x,A1 x/\A2 x/\A3 x/\A4 x) (k:∀x,A1 x->A2 x->A3 x->A4 x->G):G:=by obtain⟨x,h0,h1,h2,h3⟩:=h;exact k x h0 h1 h2 h3
theorem Tg {α:Sort _} {A1 A2 A3 A4 A5:α->Prop} (h:∃x,A1 x/\A2 x/\A3 x/\A4 x/\A5 x) (k:∀x,A1 x->A2 x->A3 x->A4 x->A5 x->G):G:=by obtain⟨x,h0,h1,h2,h3,h4⟩:=h;exact k x h0 h1 h2 h3 h4
theorem Sa {α:Sort _} {A1 A2 A3 A4 A5 A6:α->Prop} (h:∃x,A1 x/\A2 x/\A3 x/\A4 x/\A5 x/\A6 x) (k:∀x,A1 x->A2 x->A3 x->A4 x->A5 x->A6 x->G):G:=by obtain⟨x,h0,h1,h2,h3,h4,h5⟩:=h;exact k x h0 h1 h2 h3 h4 h5
theorem UX {α:Sort _} {A1 A2 A3 A4 A5 A6 A7:α->Prop} (h:∃x,A1 x/\A2 x/\A3 x/\A4 x/\A5 x/\A6 x/\A7 x) (k:∀x,A1 x->A2 x->A3 x->A4 x->A5 x->A6 x->A7 x->G):G:=by obtain⟨x,h0,h1,h2,h3,h4,h5,h6⟩:=h;exact k x h0 h1 h2 h3 h4 h5 h6
theorem Uv {α:Sort _} {β:Sort _} {A1 A2 A3 A4 A5 A6 A7:α->β->Prop} (h:∃x y,A1 x y/\A2 x y/\A3 x y/\A4 x y/\A5 x y/\A6 x y/\A7 x y) (k:∀x y,A1 x y->A2 x y->A3 x y->A4 x y->A5 x y->A6 x y->A7 x y->G):G:=by obtain⟨x,y,h0,h1,h2,h3,h4,h5,h6⟩:=h;exact k x y h0 h1 h2 h3 h4 h5 h6
theorem Ul {α:Sort _} {β:Sort _} {A1 A2 A3 A4 A5 A6 A7 A8:α->β->Prop} (h:∃x y,A1 x y/\A2 x y/\A3 x y/\A4 x y/\A5 x y/\A6 x y/\A7 x y/\A8 x y) (k:∀x y,A1 x y->A2 x y->A3 x y->A4 x y->A5 x y->A6 x y->A7 x y->A8 x y->G):G:=by obtain⟨x,y,h0,h1,h2,h3,h4,h5,h6,h7⟩:=h;exact k x y h0 h1 h2 h3 h4 h5 h6 h7
theorem Tt {α:Sort _} {β:Sort _} {γ:Sort _} {A1 A2 A3 A4 A5:α->β->γ->Prop} (h:∃x y z,A1 x y z/\A2 x y z/\A3 x y z/\A4 x y z/\A5 x y z) (k:∀x y z,A1 x y z->A2 x y z->A3 x y z->A4 x y z->A5 x y z->G):G:=by obtain⟨x,y,z,h0,h1,h2,h3,h4⟩:=h;exact k x y z h0 h1 h2 h3 h4
theorem Pk {α:Sort _} {β:Sort _} {γ:Sort _} {A1 A2 A3 A4 A5 A6:α->β->γ->Prop} (h:∃x y z,A1 x y z/\A2 x y z/\A3 x y z/\A4 x y z/\A5 x y z/\A6 x y z) (k:∀x y z,A1 x y z->A2 x y z->A3 x y z->A4 x y z->A5 x y z->A6 x y z->G):G:=by obtain⟨x,y,z,h0,h1,h2,h3,h4,h5⟩:=h;exact k x y z h0 h1 h2 h3 h4 h5
theorem R6 {α:Sort _} {β:Sort _} {γ:Sort _} {A1 A2 A3 A4 A5 A6 A7:α->β->γ->Prop} (h:∃x y z,A1 x y z/\A2 x y z/\A3 x y z/\A4 x y z/\A5 x y z/\A6 x y z/\A7 x y z) (k:∀x y z,A1 x y z->A2 x y z->A3 x y z->A4 x y z->A5 x y z->A6 x y z->A7 x y z->G):G:=by obtain⟨x,y,z,h0,h1,h2,h3,h4,h5,h6⟩:=h;exact k x y z h0 h1 h2 h3 h4 h5 h6
theorem Us {α:Sort _} {β:Sort _} {γ:Sort _} {δ:Sort _} {A1 A2 A3 A4 A5:α->β->γ->δ->Prop} (h:∃x y z u,A1 x y z u/\A2 x y z u/\A3 x y z u/\A4 x y z u/\A5 x y z u) (k:∀x y z u,A1 x y z u->A2 x y z u->A3 x y z u->A4 x y z u->A5 x y z u->G):G:=by obtain⟨x,y,z,u,h0,h1,h2,h3,h4⟩:=h;exact k x y z u h0 h1 h2 h3 h4
theorem UE {α:Sort _} {β:Sort _} {γ:Sort _} {δ:Sort _} {A1 A2 A3 A4 A5 A6 A7:α->β->γ->δ->Prop} (h:∃x y z u,A1 x y z u/\A2 x y z u/\A3 x y z u/\A4 x y z u/\A5 x y z u/\A6 x y z u/\A7 x y z u) (k:∀x y z u,A1 x y z u->A2 x y z u->A3 x y z u->A4 x y z u->A5 x y z u->A6 x y z u->A7 x y z u->G):G:=by obtain⟨x,y,z,u,h0,h1,h2,h3,h4,h5,h6⟩:=h;exact k x y z u h0 h1 h2 h3 h4 h5 h6
theorem QC {α:Sort _} {β:Sort _} {γ:Sort _} {δ:Sort _} {ε:Sort _} {A1 A2 A3 A4 A5 A6 A7 A8 A9 A10:α->β->γ->δ->ε->Prop} (h:∃x y z u v,A1 x y z u v/\A2 x y z u v/\A3 x y z u v/\A4 x y z u v/\A5 x y z u v/\A6 x y z u v/\A7 x y z u v/\A8 x y z u v/\A9 x y z u v/\A10 x y z u v) (k:∀x y z u v,A1 x y z u v->A2 x y z u v->A3 x y z u v->A4 x y z u v->A5 x y z u v->A6 x y z u v->A7 x y z u v->A8 x y z u v->A9 x y z u v->A10 x y z u v->G):G:=by obtain⟨x,y,z,u,v,h0,h1,h2,h3,h4,h5,h6,h7,h8,h9⟩:=h;exact k x y z u v h0 h1 h2 h3 h4 h5 h6 h7 h8 h9
theorem UC {α:Sort _} {β:Sort _} {γ:Sort _} {δ:Sort _} {ε:Sort _} {ζ:Sort _} {A1 A2 A3 A4 A5:α->β->γ->δ->ε->ζ->Prop} (h:∃x y z u v w,A1 x y z u v w/\A2 x y z u v w/\A3 x y z u v w/\A4 x y z u v w/\A5 x y z u v w) (k:∀x y z u v w,A1 x y z u v w->A2 x y z u v w->A3 x y z u v w->A4 x y z u v w->A5 x y z u v w->G):G:=by obtain⟨x,y,z,u,v,w,h0,h1,h2,h3,h4⟩:=h;exact k x y z u v w h0 h1 h2 h3 h4
theorem Bk {A1 A2 A3:Prop} (h0:A1) (h1:A2) (h2:A3):A1/\A2/\A3:=⟨h0,h1,h2⟩
theorem Qd {A1 A2 A3 A4:Prop} (h0:A1) (h1:A2) (h2:A3) (h3:A4):A1/\A2/\A3/\A4:=⟨h0,h1,h2,h3⟩
theorem Ud {A1 A2 A3 A4 A5:Prop} (h0:A1) (h1:A2) (h2:A3) (h3:A4) (h4:A5):A1/\A2/\A3/\A4/\A5:=⟨h0,h1,h2,h3,h4⟩
theorem UG {A1 A2 A3 A4 A5 A6:Prop} (h0:A1) (h1:A2) (h2:A3) (h3:A4) (h4:A5) (h5:A6):A1/\A2/\A3/\A4/\A5/\A6:=⟨h0,h1,h2,h3,h4,h5⟩
theorem Vd {A1 A2 A3 A4 A5 A6 A7 A8 A9:Prop} (h0:A1) (h1:A2) (h2:A3) (h3:A4) (h4:A5) (h5:A6) (h6:A7) (h7:A8) (h8:A9):A1/\A2/\A3/\A4/\A5/\A6/\A7/\A8/\A9:=⟨h0,h1,h2,h3,h4,h5,h6,h7,h8⟩
theorem Ai {α:Sort _} {A1 A2:α->Prop} (x:α) (h0:A1 x) (h1:A2 x):∃x,A1 x/\A2 x:=⟨x,h0,h1⟩
theorem B9 {α:Sort _} {A1 A2 A3:α->Prop} (x:α) (h0:A1 x) (h1:A2 x) (h2:A3 x):∃x,A1 x/\A2 x/\A3 x:=⟨x,h0,h1,h2⟩
theorem KJ {α:Sort _} {A1 A2 A3 A4:α->Prop} (x:α) (h0:A1 x) (h1:A2 x) (h2:A3 x) (h3:A4 x):∃x,A1 x/\A2 x/\A3 x/\A4 x:=⟨x,h0,h1,h2,h3⟩
theorem Td {α:Sort _} {A1 A2 A3 A4 A5:α->Prop} (x:α) (h0:A1 x) (h1:A2 x) (h2:A3 x) (h3:A4 x) (h4:A5 x):∃x,A1 x/\A2 x/\A3 x/\A4 x/\A5 x:=⟨x,h0,h1,h2,h3,h4⟩
theorem Of {α:Sort _} {A1 A2 A3 A4 A5 A6:α->Prop} (x:α) (h0:A1 x) (h1:A2 x) (h2:A3 x) (h3:A4 x) (h4:A5 x) (h5:A6 x):∃x,A1 x/\A2 x/\A3 x/\A4 x/\A5 x/\A6 x:=⟨x,h0,h1,h2,h3,h4,h5⟩
theorem Tl {α:Sort _} {A1 A2 A3 A4 A5 A6 A7:α->Prop} (x:α) (h0:A1 x) (h1:A2 x) (h2:A3 x) (h3:A4 x) (h4:A5 x) (h5:A6 x) (h6:A7 x):∃x,A1 x/\A2 x/\A3 x/\A4 x/\A5 x/\A6 x/\A7 x:=⟨x,h0,h1,h2,h3,h4,h5,h6⟩
theorem Me {α:Sort _} {β:Sort _} {A1:α->β->Prop} (x:α) (y:β) (h0:A1 x y):∃x y,A1 x y:=⟨x,y,h0⟩
theorem BD {α:Sort _} {β:Sort _} {A1 A2:α->β->Prop} (x:α) (y:β) (h0:A1 x y) (h1:A2 x y):∃x y,A1 x y/\A2 x y:=⟨x,y,h0,h1⟩
theorem AZ {α:Sort _} {β:Sort _} {A1 A2 A3:α->β->Prop} (x:α) (y:β) (h0:A1 x y) (h1:A2 x y) (h2:A3 x y):∃x y,A1 x y/\A2 x y/\A3 x y:=⟨x,y,h0,h1,h2⟩
theorem Gz {α:Sort _} {β:Sort _} {A1 A2 A3 A4:α->β->Prop} (x:α) (y:β) (h0:A1 x y) (h1:A2 x y) (h2:A3 x y) (h3:A4 x y):∃x y,A1 x y/\A2 x y/\A3 x y/\A4 x y:=⟨x,y,h0,h1,h2,h3⟩
theorem Ol {α:Sort _} {β:Sort _} {A1 A2 A3 A4 A5:α->β->Prop} (x:α) (y:β) (h0:A1 x y) (h1:A2 x y) (h2:A3 x y) (h3:A4 x y) (h4:A5 x y):∃x y,A1 x y/\A2 x y/\A3 x y/\A4 x y/\A5 x y:=⟨x,y,h0,h1,h2,h3,h4⟩
theorem SN {α:Sort _} {β:Sort _} {A1 A2 A3 A4 A5 A6:α->β->Prop} (x:α) (y:β) (h0:A1 x y) (h1:A2 x y) (h2:A3 x y) (h3:A4 x y) (h4:A5 x y) (h5:A6 x y):∃x y,A1 x y/\A2 x y/\A3 x y/\A4 x y/\A5 x y/\A6 x y:=⟨x,y,h0,h1,h2,h3,h4,h5⟩
theorem SB {α:Sort _} {β:Sort _} {A1 A2 A3 A4 A5 A6 A7:α->β->Prop} (x:α) (y:β) (h0:A1 x y) (h1:A2 x y) (h2:A3 x y) (h3:A4 x y) (h4:A5 x y) (h5:A6 x y) (h6:A7 x y):∃x y,A1 x y/\A2 x y/\A3 x y/\A4 x y/\A5 x y/\A6 x y/\A7 x y:=⟨x,y,h0,h1,h2,h3,h4,h5,h6⟩
theorem Ru {α:Sort _} {β:Sort _} {A1 A2 A3 A4 A5 A6 A7 A8:α->β->Prop} (x:α) (y:β) (h0:A1 x y) (h1:A2 x y) (h2:A3 x y) (h3:A4 x y) (h4:A5 x y) (h5:A6 x y) (h6:A7 x y) (h7:A8 x y):∃x y,A1 x y/\A2 x y/\A3 x y/\A4 x y/\A5 x y/\A6 x y/\A7 x y/\A8 x y:=⟨x,y,h0,h1,h2,h3,h4,h5,h6,h7⟩
theorem Jq {α:Sort _} {β:Sort _} {γ:Sort _} {A1:α->β->γ->Prop} (x:α) (y:β) (z:γ) (h0:A1 x y z):∃x y z,A1 x y z:=⟨x,y,z,h0⟩
theorem O0 {α:Sort _} {β:Sort _} {γ:Sort _} {A1 A2:α->β->γ->Prop} (x:α) (y:β) (z:γ) (h0:A1 x y z) (h1:A2 x y z):∃x y z,A1 x y z/\A2 x y z:=⟨x,y,z,h0,h1⟩
theorem Kn {α:Sort _} {β:Sort _} {γ:Sort _} {A1 A2 A3:α->β->γ->Prop} (x:α) (y:β) (z:γ) (h0:A1 x y z) (h1:A2 x y z) (h2:A3 x y z):∃x y z,A1 x y z/\A2 x y z/\A3 x y z:=⟨x,y,z,h0,h1,h2⟩
theorem Lc {α:Sort _} {β:Sort _} {γ:Sort _} {A1 A2 A3 A4:α->β->γ->Prop} (x:α) (y:β) (z:γ) (h0:A1 x y z) (h1:A2 x y z) (h2:A3 x y z) (h3:A4 x y z):∃x y z,A1 x y z/\A2 x y z/\A3 x y z/\A4 x y z:=⟨x,y,z,h0,h1,h2,h3⟩
theorem Ov {α:Sort _} {β:Sort _} {γ:Sort _} {A1 A2 A3 A4 A5:α->β->γ->Prop} (x:α) (y:β) (z:γ) (h0:A1 x y z) (h1:A2 x y z) (h2:A3 x y z) (h3:A4 x y z) (h4:A5 x y z):∃x y z,A1 x y z/\A2 x y z/\A3 x y z/\A4 x y z/\A5 x y z:=⟨x,y,z,h0,h1,h2,h3,h4⟩
theorem NG {α:Sort _} {β:Sort _} {γ:Sort _} {A1 A2 A3 A4 A5 A6:α->β->γ->Prop} (x:α) (y:β) (z:γ) (h0:A1 x y z) (h1:A2 x y z) (h2:A3 x y z) (h3:A4 x y z) (h4:A5 x y z) (h5:A6 x y z):∃x y z,A1 x y z/\A2 x y z/\A3 x y z/\A4 x y z/\A5 x y z/\A6 x y z:=⟨x,y,z,h0,h1,h2,h3,h4,h5⟩
theorem N4 {α:Sort _} {β:Sort _} {γ:Sort _} {A1 A2 A3 A4 A5 A6 A7:α->β->γ->Prop} (x:α) (y:β) (z:γ) (h0:A1 x y z) (h1:A2 x y z) (h2:A3 x y z) (h3:A4 x y z) (h4:A5 x y z) (h5:A6 x y z) (h6:A7 x y z):∃x y z,A1 x y z/\A2 x y z/\A3 x y z/\A4 x y z/\A5 x y z/\A6 x y z/\A7 x y z:=⟨x,y,z,h0,h1,h2,h3,h4,h5,h6⟩
theorem UH {α:Sort _} {β:Sort _} {γ:Sort _} {A1 A2 A3 A4 A5 A6 A7 A8:α->β->γ->Prop} (x:α) (y:β) (z:γ) (h0:A1 x y z) (h1:A2 x y z) (h2:A3 x y z) (h3:A4 x y z) (h4:A5 x y z) (h5:A6 x y z) (h6:A7 x y z) (h7:A8 x y z):∃x y z,A1 x y z/\A2 x y z/\A3 x y z/\A4 x y z/\A5 x y z/\A6 x y z/\A7 x y z/\A8 x y z:=⟨x,y,z,h0,h1,h2,h3,h4,h5,h6,h7⟩
theorem Uw {α:Sort _} {β:Sort _} {γ:Sort _} {δ:Sort _} {A1:α->β->γ->δ->Prop} (x:α) (y:β) (z:γ) (u:δ) (h0:A1 x y z u):∃x y z u,A1 x y z u:=⟨x,y,z,u,h0⟩
theorem R5 {α:Sort _} {β:Sort _} {γ:Sort _} {δ:Sort _} {A1 A2:α->β->γ->δ->Prop} (x:α) (y:β) (z:γ) (u:δ) (h0:A1 x y z u) (h1:A2 x y z u):∃x y z u,A1 x y z u/\A2 x y z u:=⟨x,y,z,u,h0,h1⟩
theorem Sh {α:Sort _} {β:Sort _} {γ:Sort _} {δ:Sort _} {A1 A2 A3 A4:α->β->γ->δ->Prop} (x:α) (y:β) (z:γ) (u:δ) (h0:A1 x y z u) (h1:A2 x y z u) (h2:A3 x y z u) (h3:A4 x y z u):∃x y z u,A1 x y z u/\A2 x y z u/\A3 x y z u/\A4 x y z u:=⟨x,y,z,u,h0,h1,h2,h3⟩
theorem SM {α:Sort _} {β:Sort _} {γ:Sort _} {δ:Sort _} {A1 A2 A3 A4 A5:α->β->γ->δ->Prop} (x:α) (y:β) (z:γ) (u:δ) (h0:A1 x y z u) (h1:A2 x y z u) (h2:A3 x y z u) (h3:A4 x y z u) (h4:A5 x y z u):∃x y z u,A1 x y z u/\A2 x y z u/\A3 x y z u/\A4 x y z u/\A5 x y z u:=⟨x,y,z,u,h0,h1,h2,h3,h4⟩
theorem Vc {α:Sort _} {β:Sort _} {γ:Sort _} {δ:Sort _} {A1 A2 A3 A4 A5 A6 A7:α->β->γ->δ->Prop} (x:α) (y:β) (z:γ) (u:δ) (h0:A1 x y z u) (h1:A2 x y z u) (h2:A3 x y z u) (h3:A4 x y z u) (h4:A5 x y z u) (h5:A6 x y z u) (h6:A7 x y z u):∃x y z u,A1 x y z u/\A2 x y z u/\A3 x y z u/\A4 x y z u/\A5 x y z u/\A6 x y z u/\A7 x y z u:=⟨x,y,z,u,h0,h1,h2,h3,h4,h5,h6⟩
theorem Vg {α:Sort _} {β:Sort _} {γ:Sort _} {δ:Sort _} {ε:Sort _} {A1:α->β->γ->δ->ε->Prop} (x:α) (y:β) (z:γ) (u:δ) (v:ε) (h0:A1 x y z u v):∃x y z u v,A1 x y z u v:=⟨x,y,z,u,v,h0⟩
theorem Ui {α:Sort _} {β:Sort _} {γ:Sort _} {δ:Sort _} {ε:Sort _} {A1 A2 A3 A4:α->β->γ->δ->ε->Prop} (x:α) (y:β) (z:γ) (u:δ) (v:ε) (h0:A1 x y z u v) (h1:A2 x y z u v) (h2:A3 x y z u v) (h3:A4 x y z u v):∃x y z u v,A1 x y z u v/\A2 x y z u v/\A3 x y z u v/\A4 x y z u v:=⟨x,y,z,u,v,h0,h1,h2,h3⟩
theorem UJ {α:Sort _} {β:Sort _} {γ:Sort _} {δ:Sort _} {ε:Sort _} {A1 A2 A3 A4 A5 A6 A7:α->β->γ->δ->ε->Prop} (x:α) (y:β) (z:γ) (u:δ) (v:ε) (h0:A1 x y z u v) (h1:A2 x y z u v) (h2:A3 x y z u v) (h3:A4 x y z u v) (h4:A5 x y z u v) (h5:A6 x y z u v) (h6:A7 x y z u v):∃x y z u v,A1 x y z u v/\A2 x y z u v/\A3 x y z u v/\A4 x y z u v/\A5 x y z u v/\A6 x y z u v/\A7 x y z u v:=⟨x,y,z,u,v,h0,h1,h2,h3,h4,h5,h6⟩
theorem Os {α:Sort _} {β:Sort _} {γ:Sort _} {δ:Sort _} {ε:Sort _} {A1 A2 A3 A4 A5 A6 A7 A8 A9 A10:α->β->γ->δ->ε->Prop} (x:α) (y:β) (z:γ) (u:δ) (v:ε) (h0:A1 x y z u v) (h1:A2 x y z u v) (h2:A3 x y z u v) (h3:A4 x y z u v) (h4:A5 x y z u v) (h5:A6 x y z u v) (h6:A7 x y z u v) (h7:A8 x y z u v) (h8:A9 x y z u v) (h9:A10 x y z u v):∃x y z u v,A1 x y z u v/\A2 x y z u v/\A3 x y z u v/\A4 x y z u v/\A5 x y z u v/\A6 x y z u v/\A7 x y z u v/\A8 x y z u v/\A9 x y z u v/\A10 x y z u v:=⟨x,y,z,u,v,h0,h1,h2,h3,h4,h5,h6,h7,h8,h9⟩
theorem Ox {α:Sort _} {β:Sort _} {γ:Sort _} {δ:Sort _} {ε:Sort _} {ζ:Sort _} {A1 A2 A3 A4 A5:α->β->γ->δ->ε->ζ->Prop} (x:α) (y:β) (z:γ) (u:δ) (v:ε) (w:ζ) (h0:A1 x y z u v w) (h1:A2 x y z u v w) (h2:A3 x y z u v w) (h3:A4 x y z u v w) (h4:A5 x y z u v w):∃x y z u v w,A1 x y z u v w/\A2 x y z u v w/\A3 x y z u v w/\A4 x y z u v w/\A5 x y z u v w:=⟨x,y,z,u,v,w,h0,h1,h2,h3,h4⟩
theorem Tv {α:Sort _} {β:Sort _} {γ:Sort _} {δ:Sort _} {ε:Sort _} {ζ:Sort _} {η:Sort _} {θ:Sort _} {A1 A2 A3:α->β->γ->δ->ε->ζ->η->θ->Prop} (x:α) (y:β) (z:γ) (u:δ) (v:ε) (w:ζ) (s:η) (t:θ) (h0:A1 x y z u v w s t) (h1:A2 x y z u v w s t) (h2:A3 x y z u v w s t):∃x y z u v w s t,A1 x y z u v w s t/\A2 x y z u v w s t/\A3 x y z u v w s t:=⟨x,y,z,u,v,w,s,t,h0,h1,h2⟩
variable {α ε:Type _} {a b:α} {l:List α} {e f:ε}
theorem xPr {β:Type _} {c d:β} (h:(a,c)=(b,d)) (k:a=b->c=d->G):G:=by cases h;exact k rfl rfl
theorem xCC {m:List α} (h:a::l=b::m) (k:a=b->l=m->G):G:=by cases h;exact k rfl rfl
theorem xNS (h:none=some a):G:=nomatch h
theorem xSN (h:some a=none):G:=nomatch h
theorem xFT (h:false=true):G:=nomatch h
theorem xTF (h:true=false):G:=nomatch h
theorem xOE (h:(.ok a:Except ε α)=.error e):G:=nomatch h
theorem xEO (h:(.error e:Except ε α)=.ok a):G:=nomatch h
theorem xNC (h:[]=a::l):G:=nomatch h
theorem xCN (h:a::l=[]):G:=nomatch h
theorem xSS (h:some a=some b):a=b:=Option.some.inj h
theorem xOO (h:(.ok a:Except ε α)=.ok b):a=b:=Except.ok.inj h
theorem xEE (h:(.error e:Except ε α)=.error f):e=f:=Except.error.inj h
end
end
section
noncomputable abbrev T:=List Nat
noncomputable abbrev QW:=Value->Shared->Prop
noncomputable abbrev QU:=Unit->Shared->Prop
noncomputable def S (l:T):Str:=⟨l.toArray⟩
theorem F4 {a b:T} (h:S a=S b):a=b:=by
 have:(S a).cps.toList=(S b).cps.toList:=by rw[h]
 simpa [S] using this
theorem Hv {a b:T}:S a=S b↔a=b:=⟨F4,fun h=>by rw[h]⟩
@[simp] theorem MM (a:T):(S a).cps=a.toArray:=rfl
@[simp] theorem CP (a:T):(S a).length=a.length:=by simp[Str.length]
theorem TE (x:Str):S x.cps.toList=x:=by cases x;simp[S]
theorem xDx {G:Prop} {d e:Data} (h:d=e) (k:(d.ctorIdx==e.ctorIdx)=false):G:=by subst h;simp at k
theorem xVx {G:Prop} {d e:Value} (h:d=e) (k:(d.ctorIdx==e.ctorIdx)=false):G:=by subst h;simp at k
theorem xKx {G:Prop} {d e:NameKind} (h:d=e) (k:(d.ctorIdx==e.ctorIdx)=false):G:=by subst h;simp at k
set_option genCtorIdx true in
inductive V where
 | none
 | bool (b:Bool)
 | int (i:Int)
 | str (s:T)
 | tup (vs:List V)
 | ref (a:Nat)
 | rng (lo hi st:Int)
mutual
inductive Rel (h:Heap):Value->V->Prop
 | none:Rel h .none .none
 | bool (b:Bool):Rel h (.bool b) (.bool b)
 | int (i:Int) (t:Tok):Rel h (.int i t) (.int i)
 | str (s:T) (t:Tok):Rel h (.str (S s) t) (.str s)
 | ref (a:Addr):Rel h (.ref a) (.ref a)
 | tup {a:Addr} {ws:List Value} {vs:List V}:IsTup h a ws.toArray->Rels h ws vs->Rel h (.ref a) (.tup vs)
 | rng {a:Addr} {lo hi st:Int} {t u v:Tok}:IsRange h a lo hi st t u v->Rel h (.ref a) (.rng lo hi st)
inductive Rels (h:Heap):List Value->List V->Prop
 | nil:Rels h [] []
 | cons {w:Value} {v:V} {ws:List Value} {vs:List V}:Rel h w v->Rels h ws vs->Rels h (w::ws) (v::vs)
end
noncomputable def BS (o:Obj):Prop:=((∃n,o.cls=.type n/\n≠"list"/\n≠"dict"/\n≠"traceback")∨∃v,o.data=.cell v)/\∀es ep,o.data≠.dict es ep
theorem Rels.ind {h:Heap} {M:List Value->List V->Prop} (n:M [] []) (c:∀{w v ws vs},Rel h w v->Rels h ws vs->M ws vs->M (w::ws) (v::vs)) {ws:List Value} {vs:List V} (r:Rels h ws vs):M ws vs:=
 Rels.rec (motive_1:=fun _ _ _=>True) (motive_2:=fun ws vs _=>M ws vs) trivial (fun _=>trivial) (fun _ _=>trivial) (fun _ _=>trivial) (fun _=>trivial) (fun _ _ _=>trivial) (fun _=>trivial) n (fun a b _ ih=>c a b ih) r
theorem Jj {h h':Heap} (k:∀b o,h.get? b=some o->BS o->h'.get? b=some o) {a:Addr} {its:Array Value} (ht:IsTup h a its):IsTup h' a its:=
 Exists.elim ht fun o x=>(Ai o (k _ _ x.1 ⟨.inl (KJ ("tuple") x.2.1 (by decide) (by decide) (by decide)),fun es ep e=>Exists.elim x.2.2 fun n y=>by rw[y] at e;exact xDx e rfl⟩) x.2)
theorem Rels.inert {h h':Heap} (k:∀b o,h.get? b=some o->BS o->h'.get? b=some o) {ws:List Value} {vs:List V} (r:Rels h ws vs):Rels h' ws vs:=
 Rels.rec (motive_1:=fun w v _=>Rel h' w v) (motive_2:=fun ws vs _=>Rels h' ws vs) .none .bool .int .str .ref (fun ht _ ih=>.tup (Jj k ht) ih)
  (fun hr=>.rng (k _ _ hr ⟨.inl (KJ ("range") rfl (by decide) (by decide) (by decide)),fun es ep e=>by exact xDx e rfl⟩)) .nil (fun _ _ a b=>.cons a b) r
theorem Rel.inert {h h':Heap} (k:∀b o,h.get? b=some o->BS o->h'.get? b=some o) {w:Value} {v:V} (r:Rel h w v):Rel h' w v:=
 Rel.rec (motive_1:=fun w v _=>Rel h' w v) (motive_2:=fun ws vs _=>Rels h' ws vs) .none .bool .int .str .ref (fun ht _ ih=>.tup (Jj k ht) ih)
  (fun hr=>.rng (k _ _ hr ⟨.inl (KJ ("range") rfl (by decide) (by decide) (by decide)),fun es ep e=>by exact xDx e rfl⟩)) .nil (fun _ _ a b=>.cons a b) r
theorem Rel.keeps {h h':Heap} (k:∀b o,h.get? b=some o->h'.get? b=some o) {v:Value} {x:V} (r:Rel h v x):Rel h' v x:=r.inert fun b o e _=>k b o e
theorem Rels.keeps {h h':Heap} (k:∀b o,h.get? b=some o->h'.get? b=some o) {v:List Value} {x:List V} (r:Rels h v x):Rels h' v x:=r.inert fun b o e _=>k b o e
noncomputable def Rel.Inv (h:Heap) (w:Value):V->Prop
 | .none=>w=.none
 | .bool b=>w=.bool b
 | .int i=>∃t,w=.int i t
 | .str s=>∃t,w=.str (S s) t
 | .ref a=>w=.ref a
 | .tup vs=>∃a ws,w=.ref a/\IsTup h a ws.toArray/\Rels h ws vs
 | .rng lo hi st=>∃a t u v,w=.ref a/\IsRange h a lo hi st t u v
theorem Rel.inv {h:Heap} {w:Value} {v:V} (r:Rel h w v):Rel.Inv h w v:=
 Rel.casesOn (motive_1:=fun w v _=>Rel.Inv h w v) r rfl (fun _=>rfl) (fun _ t=>⟨t,rfl⟩) (fun _ t=>⟨t,rfl⟩) (fun _=>rfl) (fun a b=>(AZ _ _ rfl a b)) (fun a=>(R5 _ _ _ _ rfl a))
noncomputable def Rels.Inv (h:Heap) (ws:List Value):List V->Prop
 | []=>ws=[]
 | v::vs=>∃a r,ws=a::r/\Rel h a v/\Rels h r vs
theorem Rels.inv {h:Heap} {ws:List Value} {vs:List V} (r:Rels h ws vs):Rels.Inv h ws vs:=
 Rels.casesOn (motive_2:=fun ws vs _=>Rels.Inv h ws vs) r rfl fun a b=>(AZ _ _ rfl a b)
section
variable {h:Heap} {w:Value} {ws:List Value} {M:Value->Prop} {N:List Value->Prop}
@[elab_as_elim] theorem Rel.e_none (r:Rel h w .none) (k:M .none):M w:=(show w=.none from r.inv)▸k
@[elab_as_elim] theorem Rel.e_bool {b:Bool} (r:Rel h w (.bool b)) (k:M (.bool b)):M w:=(show w=.bool b from r.inv)▸k
@[elab_as_elim] theorem Rel.e_int {i:Int} (r:Rel h w (.int i)) (k:∀t,M (.int i t)):M w:=Exists.elim (show ∃t,w=.int i t from r.inv) fun t e=>e▸k t
@[elab_as_elim] theorem Rel.e_str {s:T} (r:Rel h w (.str s)) (k:∀t,M (.str (S s) t)):M w:=Exists.elim (show ∃t,w=.str (S s) t from r.inv) fun t e=>e▸k t
@[elab_as_elim] theorem Rel.e_ref {a:Nat} (r:Rel h w (.ref a)) (k:M (.ref a)):M w:=(show w=.ref a from r.inv)▸k
@[elab_as_elim] theorem Rel.e_tup {vs:List V} (r:Rel h w (.tup vs)) (k:∀a ws,IsTup h a ws.toArray->Rels h ws vs->M (.ref a)):M w:=by
 refine Cc ((show ∃a ws,w=.ref a/\IsTup h a ws.toArray/\Rels h ws vs from r.inv)) fun a ws e x y=>?_;exact e▸k a ws x y
@[elab_as_elim] theorem Rel.e_rng {lo hi st:Int} (r:Rel h w (.rng lo hi st)) (k:∀a t u v,IsRange h a lo hi st t u v->M (.ref a)):M w:=by
 refine RN ((show ∃a t u v,w=.ref a/\IsRange h a lo hi st t u v from r.inv)) fun a t u v e x=>?_;exact e▸k a t u v x
@[elab_as_elim] theorem Rels.e_nil (r:Rels h ws []) (k:N []):N ws:=(show ws=[] from r.inv)▸k
@[elab_as_elim] theorem Rels.e_cons {v:V} {vs:List V} (r:Rels h ws (v::vs)) (k:∀a q,Rel h a v->Rels h q vs->N (a::q)):N ws:=by
 refine Cc ((show ∃a q,ws=a::q/\Rel h a v/\Rels h q vs from r.inv)) fun a q e x y=>?_;exact e▸k a q x y
@[elab_as_elim] theorem Rels.e1 {v:V} (r:Rels h ws [v]) (k:∀a,Rel h a v->N [a]):N ws:=r.e_cons fun a _ x y=>y.e_nil (N:=fun q=>N (a::q)) (k a x)
@[elab_as_elim] theorem Rels.e2 {v u:V} (r:Rels h ws [v,u]) (k:∀a b,Rel h a v->Rel h b u->N [a,b]):N ws:=r.e_cons fun a _ x y=>y.e1 (N:=fun q=>N (a::q)) fun b z=>k a b x z
end
theorem Rels.length {h:Heap} {ws:List Value} {vs:List V} (r:Rels h ws vs):ws.length=vs.length:=r.ind (M:=fun ws vs=>ws.length=vs.length) rfl fun _ _ ih=>congrArg Nat.succ ih
theorem Rels.get {h:Heap} {ws:List Value} {vs:List V} (r:Rels h ws vs):∀{i:Nat} {v:V},vs[i]?=some v->∃w,ws[i]?=some w/\Rel h w v:=
 r.ind (M:=fun ws vs=>∀{i:Nat} {v:V},vs[i]?=some v->∃w,ws[i]?=some w/\Rel h w v) (fun e=>nomatch e) fun {w _ _ _} a _ ih i _ e=>match i,e with
  | 0,e=>(Ai w rfl (Option.some.inj e▸a))
  | _+1,e=>ih e
theorem Rels.append {h:Heap} {ws ws':List Value} {vs vs':List V} (r:Rels h ws vs) (q:Rels h ws' vs'):Rels h (ws++ws') (vs++vs'):=
 r.ind (M:=fun ws vs=>Rels h (ws++ws') (vs++vs')) q fun a _ ih=>.cons a ih
theorem Rels.drop {h:Heap} {ws:List Value} {vs:List V} (r:Rels h ws vs):∀n,Rels h (ws.drop n) (vs.drop n):=
 r.ind (M:=fun ws vs=>∀n,Rels h (ws.drop n) (vs.drop n)) (fun n=>by rw[List.drop_nil,List.drop_nil];exact .nil) fun a b ih n=>Nat.casesOn (motive:=fun n=>Rels h (List.drop n (_::_)) (List.drop n (_::_))) n (.cons a b) ih
theorem Rels.take {h:Heap} {ws:List Value} {vs:List V} (r:Rels h ws vs):∀n,Rels h (ws.take n) (vs.take n):=
 r.ind (M:=fun ws vs=>∀n,Rels h (ws.take n) (vs.take n)) (fun n=>by rw[List.take_nil,List.take_nil];exact .nil) fun a _ ih n=>Nat.casesOn (motive:=fun n=>Rels h (List.take n (_::_)) (List.take n (_::_))) n .nil fun n=>.cons a (ih n)
inductive Prs (h:Heap):List (Str × Value)->List (T × V)->Prop
 | nil:Prs h [] []
 | cons {k:T} {w:Value} {v:V} {ws:List (Str × Value)} {vs:List (T × V)}:Rel h w v->Prs h ws vs->Prs h ((S k,w)::ws) ((k,v)::vs)
theorem Prs.inert {h h':Heap} (k:∀b o,h.get? b=some o->BS o->h'.get? b=some o) {ws:List (Str × Value)} {vs:List (T × V)} (r:Prs h ws vs):Prs h' ws vs:=by
 induction r with
 | nil=>exact .nil
 | cons a _ ih=>exact .cons (a.inert k) ih
theorem Prs.length {h:Heap} {ws:List (Str × Value)} {vs:List (T × V)} (r:Prs h ws vs):ws.length=vs.length:=by
 induction r with
 | nil=>rfl
 | cons _ _ ih=>simp[ih]
noncomputable def Cf (kvs:List (T × V)) (k:T) (v:V):List (T × V):=if kvs.any (fun p=>p.1==k) then kvs.map (fun p=>if p.1==k then (p.1,v) else p) else kvs++[(k,v)]
noncomputable def Da (kvs:List (T × V)) (k:T):Option V:=kvs.lookup k
noncomputable def Ij (kvs:List (T × V)) (k:T):List (T × V):=kvs.filter fun p=>!(p.1==k)
theorem Prs.any {h:Heap} {ws:List (Str × Value)} {vs:List (T × V)} (r:Prs h ws vs) (k:T):ws.any (fun kv=>kv.1=S k)=vs.any (fun p=>p.1==k):=by
 induction r with
 | nil=>rfl
 | cons _ _ ih=>rename_i k' _ _ _ _ _ _;simp only[List.any_cons,ih];congr 1;by_cases e:k'=k <;> simp[e,Hv]
theorem Prs.snoc {h:Heap} {ws:List (Str × Value)} {vs:List (T × V)} (r:Prs h ws vs) {k:T} {w:Value} {v:V} (x:Rel h w v):Prs h (ws++[(S k,w)]) (vs++[(k,v)]):=by
 induction r with
 | nil=>exact .cons x .nil
 | cons a _ ih=>exact .cons a ih
theorem Prs.put {h:Heap} {ws:List (Str × Value)} {vs:List (T × V)} (r:Prs h ws vs) {k:T} {w:Value} {v:V} (x:Rel h w v):Prs h (stored ws (S k) w) (Cf vs k v):=by
 unfold stored Cf;rw[r.any k];split
 ·induction r with
  | nil=>exact .nil
  | cons a _ ih =>
   rename_i k' _ _ _ _ _ hany;simp only[List.map_cons];have tail:∀{ws:List (Str × Value)} {vs:List (T × V)},Prs h ws vs->Prs h (ws.map fun kv=>if kv.1=S k then (kv.1,w) else kv) (vs.map fun p=>if (p.1==k)=true then (p.1,v) else p):=by
    intro ws vs r;induction r with
    | nil=>exact .nil
    | cons a _ ih =>
     rename_i k2 _ _ _ _ _;simp only[List.map_cons];by_cases e:k2=k
     ·subst e;simp only[beq_self_eq_true,if_true];exact .cons x ih
     ·have e':S k2≠S k:=fun z=>e (F4 z);have e2:(k2==k)=false:=by simpa using e
      simp only[e',if_false,e2,Bool.false_eq_true];exact .cons a ih
   by_cases e:k'=k
   ·subst e;simp only[beq_self_eq_true,if_true];exact .cons x (tail (by assumption))
   ·have e':S k'≠S k:=fun z=>e (F4 z);have e2:(k'==k)=false:=by simpa using e
    simp only[e',if_false,e2,Bool.false_eq_true];exact .cons a (tail (by assumption))
 ·exact r.snoc x
theorem Prs.get {h:Heap} {ws:List (Str × Value)} {vs:List (T × V)} (r:Prs h ws vs) (k:T):match Da vs k with
  | some v=>∃w,valueAt ws (S k)=some w/\Rel h w v
  | none=>valueAt ws (S k)=none:=by
 induction r with
 | nil=>rfl
 | cons a _ ih =>
  rename_i k' w v ws vs _;unfold Da at ih ⊢;unfold valueAt at ih ⊢;by_cases e:k'=k
  ·subst e;simp only[List.lookup_cons,beq_self_eq_true,List.find?_cons,decide_true,Option.map_some];exact Ai w rfl a
  ·have e':¬S k'=S k:=fun z=>e (F4 z);have e2:(k==k')=false:=by simpa using fun z=>e z.symm
   simp only[List.lookup_cons,e2,List.find?_cons,e',decide_false];exact ih
theorem Prs.del {h:Heap} {ws:List (Str × Value)} {vs:List (T × V)} (r:Prs h ws vs) (k:T):Prs h (without ws (S k)) (Ij vs k):=by
 induction r with
 | nil=>exact .nil
 | cons a _ ih =>
  rename_i k' w v ws vs _;unfold without Ij at ih ⊢;by_cases e:k'=k
  ·subst e;simpa using ih
  ·have e':¬S k'=S k:=fun z=>e (F4 z);simp only[List.filter_cons,ne_eq,e',not_false_eq_true,decide_true,if_true];have e2:(k'==k)=false:=by simpa using e
   simp only[e2,Bool.not_false,if_true];exact .cons a ih
set_option genCtorIdx true in
inductive F
 | error | wrong_args | is_blank | digit | digits_value | base_of | whole_of | need_whole | check_behind | braced_element | bare_element | find_element | split_list
 | mode_of | quote | join_list | dict_fault | dict_of | text_of_dict | unknown_key | open_path | close_path | set_path | unset_path | value_of | text_in
 | dict_append | dict_lappend | dict_incr | dict_set | dict_unset | no_variable | var_in | put_value
 | raised_init | var_init | host_init | sh_init | sh_has | sh_place | sh_read_var | sh_write_var | sh_read | sh_write | sh_stamp
 | quoted_element | escaped | backslash
 | l_keys | l_values | l_texts | l_close | l_list | l_form | l_text | l_put | l_at | l_pairs | l_dict | l_whole | l_first | l_deed | l_lacks | l_set | l_unset | l_none | l_behind | l_usage | l_due | l_done | l_stands | law
 deriving DecidableEq
set_option genCtorIdx true in
inductive Cls | host | var | raised
 deriving DecidableEq
set_option genCtorIdx true in
inductive Cell where
 | lst (vs:List V)
 | fin (vs:List V)
 | dct (ep:Nat) (kvs:List (T × V))
 | obj (c:Cls) (n:Nat) (at_:List (T × V))
 | exc (st:Nat) (n:Nat) (at_:List (T × V))
 | nex
noncomputable def Cell.hasDict:Cell->Prop
 | .obj ..=>True
 | .exc ..=>True
 | _=>False
noncomputable def Cell.mut:Cell->Prop
 | .fin _=>False
 | _=>True
noncomputable abbrev Store:=Nat->Option Cell
noncomputable def Store.set (σ:Store) (a:Nat) (c:Cell):Store:=fun b=>if b=a then some c else σ b
@[simp] theorem Aa (σ:Store) (a:Nat) (c:Cell):σ.set a c a=some c:=by simp[Store.set]
theorem Ab (σ:Store) {a b:Nat} (c:Cell) (h:b≠a):σ.set a c b=σ b:=by simp[Store.set,h]
structure Prm where
 prog:Program
 w:World
 K:Frag
 mg:Str->Option Value
 mb:Str->Option Value
 base:Heap
 cls:Cls->Addr
 hcls:Addr
 fn:F->Addr
noncomputable def attrNames:List T:=["tools","inline","limit","fuel","depth","spent","epoch","frame","coroutine","vars","commands","firsts",
 "kind","value","traces","is_busy","is_element","writes","code","errorcode","level","ret","info","is_noted","line","extra"].map fun s=>s.toList.map Char.toNat
inductive Attrs (h:Heap) (da n:Nat) (at_:List (T × V)):Prop
 | mk (od:Obj) (es:Array DictEntry) (ep:Nat):h.get? da=some od->od.ExactDict->od.data=.dict es ep->StrKeys es->es.size<=n->(∀x,(nsFind es x).isSome=true->∃k∈attrNames,x=S k)->(∀k v,at_.lookup k=some v->∃w,nsFind es (S k)=some w/\Rel h w v)->Attrs h da n at_
noncomputable def Jf (vs:Array Value):Nat->Prop
 | 0=>∃t,vs=#[.ref t,.none,.none,.none,.bool false,.none]
 | 1=>∃t tb,vs=#[.ref t,tb,.none,.none,.bool false,.none]
 | _=>∃t tb cx,vs=#[.ref t,tb,cx,.none,.bool false,.none]
noncomputable def CellAt (p:Prm) (h:Heap) (a da:Nat):Cell->Prop
 | .lst vs=>∃ws n,h.get? a=some { cls:=.type "list",data:=.seq ws.toArray n }/\Rels h ws vs
 | .fin vs=>∃ws,p.base.IsList a ws.toArray/\Rels p.base ws vs
 | .dct ep kvs=>∃ws,h.DictAt (PySem.strKind p.prog p.w) a ws ep/\Prs h ws kvs
 | .obj c n at_=>∃sl,h.get? a=some ⟨.ref (p.cls c),some da,.plain,sl⟩/\Attrs h da n at_
 | .exc st n at_=>∃vs sl,h.get? a=some ⟨.ref (p.cls .raised),some da,.fields vs,sl⟩/\Jf vs st/\Attrs h da n at_
 | .nex=>∃vs sl,h.get? a=some ⟨.ref (p.cls .raised),none,.fields vs,sl⟩/\Jf vs 0
structure Rep (p:Prm) (σ:Store) (δ:Nat->Nat) (h:Heap):Prop where
 at_:∀a c,σ a=some c->CellAt p h a (δ a) c
 sep:∀a c,σ a=some c->c.hasDict->σ (δ a)=none
 inj:∀a b c c',σ a=some c->σ b=some c'->c.hasDict->c'.hasDict->δ a=δ b->a=b
noncomputable def Foot (σ:Store) (δ:Nat->Nat) (b:Nat):Prop:=(∃c,σ b=some c/\c.mut)∨∃a c,σ a=some c/\c.hasDict/\δ a=b
end
section
open Classical in
noncomputable def CX (h:Heap) (p:Nat->Prop):Heap:=⟨h.objs.mapIdx fun i o=>if p i then { o with data:=.freed } else o,h.life⟩
theorem Ct {h:Heap} {p:Nat->Prop} {b:Nat} (hb:p b):(CX h p).get? b=none:=by
 unfold CX Heap.get?;simp only[Array.getElem?_mapIdx];cases h.objs[b]? with
 | none=>rfl
 | some o=>obtain⟨c,d,dt,sl⟩:=o;simp[hb]
theorem Bl {h:Heap} {p:Nat->Prop} {b:Nat} (hb:¬p b):(CX h p).get? b=h.get? b:=by
 unfold CX Heap.get?;simp only[Array.getElem?_mapIdx];cases h.objs[b]? with
 | none=>rfl
 | some o=>obtain⟨c,d,dt,sl⟩:=o;simp[hb]
theorem Pg {h:Heap} {p:Nat->Prop} {b:Nat} {o:Obj} (e:(CX h p).get? b=some o):h.get? b=some o:=by
 by_cases hb:p b
 ·rw[Ct hb] at e;exact xNS e
 ·rwa [Bl hb] at e
theorem Ef (h:Heap) (p:Nat->Prop):(CX h p).StaysIn h:=fun _ _ e=>Pg e
noncomputable abbrev KeepI (h h':Heap):Prop:=∀b o,h.get? b=some o->BS o->h'.get? b=some o
theorem KeepI.refl (h:Heap):KeepI h h:=fun _ _ e _=>e
theorem KeepI.trans {a b c:Heap} (x:KeepI a b) (y:KeepI b c):KeepI a c:=fun _ _ e i=>y _ _ (x _ _ e i) i
theorem KeepI.of_keeps {h h':Heap} (k:∀b o,h.get? b=some o->h'.get? b=some o):KeepI h h':=fun b o e _=>k b o e
theorem KeepI.sameBut {h h':Heap} {a:Nat} {o:Obj} (hs:Heap.SameBut a h h') (e:h.get? a=some o) (hn:¬BS o):KeepI h h':=fun b o' e' i=>by
 refine(hs.2 b fun z=>?_).trans e';subst z;rw[e] at e';obtain rfl:=xSS e';exact hn i
theorem CQ {its:Array Value} {n:Nat}:¬BS { cls:=.type "list",data:=.seq its n }:=by
 intro z1_;refine An z1_ fun z2_ _=>?_;clear z1_;obtain⟨n,e,h1,_,_⟩ | ⟨v,e⟩:=z2_
 ·cases e;exact h1 rfl
 ·exact xDx e rfl
theorem AJ {o:Obj} {es ep} (h:o.data=.dict es ep):¬BS o:=fun ⟨_,h2⟩=>h2 es ep h
theorem Cj {o:Obj} {a:Addr} (h:o.cls=.ref a) (hc:∀v,o.data≠.cell v:=by intro v z;cases z):¬BS o:=by
 intro z3_;refine An z3_ fun z4_ _=>?_;clear z3_;obtain⟨n,e,_,_,_⟩ | ⟨v,e⟩:=z4_
 ·rw[h] at e;exact xVx e rfl
 ·exact hc v e
section rep
variable {p:Prm} {σ:Store} {δ:Nat->Nat} {h h':Heap}
theorem Attrs.step {da n:Nat} {at_:List (T × V)} (x:Attrs h da n at_) (hd:∀o,h.get? da=some o->h'.get? da=some o) (k:KeepI h h'):Attrs h' da n at_:=by
 obtain⟨od,es,ep,a,b,c,d,e,g,f⟩:=x;exact⟨od,es,ep,hd _ a,b,c,d,e,g,fun k v hk=>let ⟨w,hw,r⟩:=f k v hk;⟨w,hw,r.inert (by assumption)⟩⟩
theorem CellAt.step {a da:Nat} {c:Cell} (x:CellAt p h a da c) (ha:c.mut->∀o,h.get? a=some o->h'.get? a=some o) (hd:c.hasDict->∀o,h.get? da=some o->h'.get? da=some o) (k:KeepI h h'):CellAt p h' a da c:=by
 cases c with
 | lst vs=>refine Be x fun ws n e r=>?_;clear x;exact BD ws n (ha trivial _ e) (r.inert k)
 | fin vs=>exact x
 | dct ep kvs =>
  refine e1a2 x fun ws z1_ q=>?_;clear x;refine Be z1_ fun o es e r=>?_;clear z1_;exact Ai ws (BD o es (ha trivial _ e) r) (q.inert k)
 | obj c n at_=>refine e1a2 x fun sl e r=>?_;clear x;exact Ai sl (ha trivial _ e) (r.step (hd trivial) k)
 | exc st n at_=>refine Cc x fun vs sl e r q=>?_;clear x;exact AZ vs sl (ha trivial _ e) r (q.step (hd trivial) k)
 | nex=>refine Be x fun vs sl e r=>?_;clear x;exact BD vs sl (ha trivial _ e) r
theorem Rep.keeps (x:Rep p σ δ h) (k:∀b o,h.get? b=some o->h'.get? b=some o):Rep p σ δ h':=
 ⟨fun a c e=>(x.at_ a c e).step (fun _=>k a) (fun _=>k _) (.of_keeps k),x.sep,x.inj⟩
theorem Rep.kept (x:Rep p σ δ h) (hf:∀b o,Foot σ δ b->h.get? b=some o->h'.get? b=some o) (k:KeepI h h'):Rep p σ δ h':=
 ⟨fun a c e=>(x.at_ a c e).step (fun hm o=>hf a o (.inl (Ai c e hm))) (fun hd o=>hf _ o (.inr (AZ a c e hd rfl))) k,x.sep,x.inj⟩
theorem Rep.sub {σ':Store} (x:Rep p σ δ h) (hs:∀a c,σ' a=some c->σ a=some c):Rep p σ' δ h:=by
 refine⟨fun a c e=>x.at_ a c (hs a c e),fun a c e hd=>?_,fun a b c c' e e' hd hd'=>x.inj a b c c' (hs _ _ e) (hs _ _ e') hd hd'⟩;cases q:σ' (δ a) with
 | none=>rfl
 | some c'=>have:=hs _ _ q;rw[x.sep a c (hs a c e) hd] at this;exact xNS this
theorem Foot.sub {σ':Store} (hs:∀a c,σ' a=some c->σ a=some c) {b:Nat} (x:Foot σ' δ b):Foot σ δ b:=by
 rcases x with ⟨c,e,m⟩ | ⟨a,c,e,d,q⟩
 ·exact .inl (Ai c (hs _ _ e) m)
 ·exact .inr (AZ a c (hs _ _ e) d q)
theorem Rep.setAt {a:Nat} {c c':Cell} (x:Rep p σ δ h) (ea:σ a=some c) (hd:c'.hasDict↔c.hasDict) (hs:Heap.SameBut a h h') (hk:KeepI h h') (hc:CellAt p h' a (δ a) c'):Rep p (σ.set a c') δ h':=by
 refine⟨fun b cb e=>?_,fun b cb e hb=>?_,fun b b' cb cb' e e' hb hb'=>?_⟩
 ·by_cases q:b=a
  ·subst q;rw[Aa] at e;obtain rfl:=xSS e;exact hc
  ·rw[Ab _ _ q] at e;refine(x.at_ b cb e).step (fun _ o ho=>(hs.2 b q).trans ho) (fun hb o ho=>(hs.2 _ fun z=>?_).trans ho) hk;have:=x.sep b cb e hb;rw[z,ea] at this;exact xSN this
 ·have:∃c0,σ b=some c0/\c0.hasDict:=by
   by_cases q:b=a
   ·subst q;rw[Aa] at e;obtain rfl:=xSS e;exact Ai c ea (hd.mp hb)
   ·rw[Ab _ _ q] at e;exact Ai cb e hb
  refine e1a2 this fun c0 e0 h0=>?_;clear this;have z:=x.sep b c0 e0 h0;have:δ b≠a:=fun w=>by rw[w,ea] at z;exact xSN z
  rw[Ab _ _ this];exact z
 ·have key:∀b cb,σ.set a c' b=some cb->cb.hasDict->∃c0,σ b=some c0/\c0.hasDict:=fun b cb e hb=>by
   by_cases q:b=a
   ·subst q;rw[Aa] at e;obtain rfl:=xSS e;exact Ai c ea (hd.mp hb)
   ·rw[Ab _ _ q] at e;exact Ai cb e hb
  refine e1a2 (key b cb e hb) fun c0 e0 h0=>?_;refine e1a2 (key b' cb' e' hb') fun c1 e1 h1=>?_;exact x.inj b b' c0 c1 e0 e1 h0 h1
theorem Foot.setAt {a:Nat} {c c':Cell} (ea:σ a=some c) (hd:c'.hasDict↔c.hasDict) (hm:c.mut) {b:Nat} (x:Foot (σ.set a c') δ b):Foot σ δ b:=by
 rcases x with ⟨cb,e,m⟩ | ⟨b',cb,e,d,q⟩
 ·by_cases q:b=a
  ·subst q;exact .inl (Ai c ea hm)
  ·rw[Ab _ _ q] at e;exact .inl (Ai cb e m)
 ·by_cases z:b'=a
  ·subst z;rw[Aa] at e;obtain rfl:=xSS e;exact .inr (AZ b' c ea (hd.mp d) q)
  ·rw[Ab _ _ z] at e;exact .inr (AZ b' cb e d q)
theorem Rep.setDict {a:Nat} {c c':Cell} (x:Rep p σ δ h) (ea:σ a=some c) (hcd:c.hasDict) (hs:Heap.SameBut (δ a) h h') (hk:KeepI h h') (hc:CellAt p h' a (δ a) c'):Rep p (σ.set a c') δ h':=by
 have hne:δ a≠a:=fun z=>by have:=x.sep a c ea hcd;rw[z,ea] at this;exact xSN this
 refine⟨fun b cb e=>?_,fun b cb e hb=>?_,fun b b' cb cb' e e' hb hb'=>?_⟩
 ·by_cases q:b=a
  ·subst q;rw[Aa] at e;obtain rfl:=xSS e;exact hc
  ·rw[Ab _ _ q] at e;refine(x.at_ b cb e).step (fun _ o ho=>(hs.2 b fun z=>?_).trans ho) (fun hb o ho=>(hs.2 _ fun z=>?_).trans ho) hk
   ·have:=x.sep a c ea hcd;rw[← z,e] at this;exact xSN this
   ·exact q (x.inj b a cb c e ea hb hcd z)
 ·have:∃c0,σ b=some c0/\c0.hasDict:=by
   by_cases q:b=a
   ·subst q;exact Ai c ea hcd
   ·rw[Ab _ _ q] at e;exact Ai cb e hb
  refine e1a2 this fun c0 e0 h0=>?_;clear this;have z:=x.sep b c0 e0 h0;have:δ b≠a:=fun w=>by rw[w,ea] at z;exact xSN z
  rw[Ab _ _ this];exact z
 ·have key:∀b cb,σ.set a c' b=some cb->cb.hasDict->∃c0,σ b=some c0/\c0.hasDict:=fun b cb e hb=>by
   by_cases q:b=a
   ·subst q;exact Ai c ea hcd
   ·rw[Ab _ _ q] at e;exact Ai cb e hb
  refine e1a2 (key b cb e hb) fun c0 e0 h0=>?_;refine e1a2 (key b' cb' e' hb') fun c1 e1 h1=>?_;exact x.inj b b' c0 c1 e0 e1 h0 h1
theorem Foot.there {b:Nat} (x:Rep p σ δ h) (f:Foot σ δ b):∃o,h.get? b=some o/\¬BS o:=by
 rcases f with ⟨c,e,m⟩ | ⟨a,c,e,d,q⟩
 ·have:=x.at_ b c e;cases c with
  | lst vs=>refine Be this fun ws n e r=>?_;clear this;exact Ai _ e CQ
  | fin vs=>exact m.elim
  | dct ep kvs=>refine e1a2 this fun ws z2_ q=>?_;clear this;refine Kc z2_ fun o es e _ hd _=>?_;clear z2_;exact Ai _ e (AJ hd)
  | obj c n at_=>refine e1a2 this fun sl e r=>?_;clear this;exact Ai _ e (Cj rfl)
  | exc st n at_=>refine Cc this fun vs sl e r q=>?_;clear this;exact Ai _ e (Cj rfl)
  | nex=>refine Be this fun vs sl e r=>?_;clear this;exact Ai _ e (Cj rfl)
 ·subst q;have:=x.at_ a c e;cases c with
  | lst vs=>exact d.elim
  | fin vs=>exact d.elim
  | dct ep kvs=>exact d.elim
  | obj c n at_=>refine e1a2 this fun sl e z5_=>?_;clear this;obtain⟨od,es,ep,r,_,hd,_⟩:=z5_;exact Ai _ r (AJ hd)
  | exc st n at_=>refine Cc this fun vs sl e _ z6_=>?_;clear this;obtain⟨od,es,ep,r,_,hd,_⟩:=z6_;exact Ai _ r (AJ hd)
  | nex=>exact d.elim
end rep
end
section
noncomputable def fa (l:List Env):List Addr:=l.filterMap (·.frame)
inductive FrOk (h P:Heap):List Env->List (Option Obj)->Prop
 | nil:FrOk h P [] []
 | cons {env:Env} {q:Option Obj} {l:List Env} {qs:List (Option Obj)} {L:Addr} {o:Obj} {es:Array DictEntry} {ep:Nat} :
   env.scope.kind≠.module->env.frame=some L->P.get? L=none->h.get? L=some o->o.data=.dict es ep->(∀o',q=some o'->∃sl,o={ o' with slots:=sl })->FrOk h P l qs->FrOk h P (env::l) (q::qs)
theorem DL {env:Env} {l:List Env} {L:Addr} (e:env.frame=some L):fa (env::l)=L::fa l:=by
 unfold fa;rw[List.filterMap_cons,e]
theorem FrOk.fun {h P:Heap} {l:List Env} {qs:List (Option Obj)} (x:FrOk h P l qs):h.FunFrames P l:=by
 induction x with
 | nil=>trivial
 | cons a e c d f _ _ ih=>exact Bk a (Gz _ _ e c d (fun vs z=>by rw[f] at z;exact xDx z rfl)) ih
theorem FrOk.mem {h P:Heap} {l:List Env} {qs:List (Option Obj)} (x:FrOk h P l qs) {b:Addr} (hb:b∈fa l):P.get? b=none/\∃o es ep,h.get? b=some o/\o.data=.dict es ep:=by
 induction x with
 | nil=>simp[fa] at hb
 | cons a e c d f _ _ ih =>
  rw[DL e] at hb;rcases List.mem_cons.mp hb with rfl | hb
  ·exact⟨c,O0 _ _ _ d f⟩
  ·exact ih hb
theorem FrOk.step {h h' P P':Heap} {l:List Env} {qs:List (Option Obj)} (x:FrOk h P l qs) (k:∀b∈fa l,∀o,h.get? b=some o->∃sl,h'.get? b=some { o with slots:=sl }) (kp:∀b∈fa l,P'.get? b=none):FrOk h' P' l qs:=by
 induction x with
 | nil=>exact .nil
 | cons a e c d f g _ ih =>
  rename_i L o es ep _;rw[DL e] at k kp;refine Aq (k L (.head _) o d) fun sl z=>?_;exact .cons a e (kp L (.head _)) z f (fun o' ho'=>let ⟨s2,y⟩:=g o' ho';⟨sl,by rw[y]⟩) (ih (fun b hb=>k b (.tail _ hb)) fun b hb=>kp b (.tail _ hb))
theorem FrOk.keeps {h h' P:Heap} {l:List Env} {qs:List (Option Obj)} (x:FrOk h P l qs) (k:∀b∈fa l,∀o,h.get? b=some o->h'.get? b=some o):FrOk h' P l qs:=
 x.step (fun b hb o ho=>⟨o.slots,k b hb o ho⟩) fun b hb=>(x.mem hb).1
noncomputable abbrev Loc:=List (Option V)
structure Ctx where
 env:Env
 frs:List Env
 rcd:List (Option Obj)
 names:List Str
noncomputable def LocRel (h:Heap) (env:Env) (names:List Str) (m:Loc) (mm:Str->Option Value):Prop:=
 ∀(i:Nat) (x:Str) (v:V),names[i]?=some x->m[i]?=some (some v)->∃w,Rel h w v/\((env.kindOf x=some .local/\mm x=some w) ∨
  ((env.kindOf x=some .cell∨env.kindOf x=some .free)/\∃ca o,env.cells.lookup x=some ca/\h.get? ca=some o/\o.data=.cell (some w)/\BS o))
theorem LocRel.step {h h':Heap} {env:Env} {names:List Str} {m:Loc} {mm:Str->Option Value} (x:LocRel h env names m mm) (k:KeepI h h'):LocRel h' env names m mm:=fun i n v hn hm=>by
 refine e1a2 (x i n v hn hm) fun w r q=>?_;refine Ai w (r.inert k) (q.imp id ?_);intro z7_;refine An z7_ fun a z8_=>?_;clear z7_;refine Kc z8_ fun ca o b c d e=>?_;clear z8_;exact⟨a,Gz ca o b (k _ _ c e) d e⟩
structure St (p:Prm) (C:Ctx) (P:Heap) (m:Loc) (σ:Store) (δ:Nat->Nat) (h:Heap):Prop where
 base:p.base.StaysIn P
 stays:P.StaysIn h
 frs:FrOk h P C.frs C.rcd
 ns:∃mm,h.Ns C.env.locals mm/\LocRel h C.env C.names m mm
 lP:P.get? C.env.locals=none
 rep:Rep p σ δ h
 off:∀b,Foot σ δ b->P.get? b=none/\b∉fa C.frs/\b≠C.env.locals
section
variable {p:Prm} {C:Ctx} {P:Heap} {m:Loc} {σ:Store} {δ:Nat->Nat} {h h':Heap}
theorem Ns.dict {h:Heap} {a:Addr} {mm:Str->Option Value} (n:h.Ns a mm):∃o es ep,h.get? a=some o/\o.data=.dict es ep:=let ⟨o,es,ep,a,b,_⟩:=n;⟨o,es,ep,a,b⟩
theorem St.known (x:St p C P m σ δ h) {a:Nat} {c:Cell} (e:σ a=some c):∃o,h.get? a=some o:=by
 have y:=x.rep.at_ a c e;cases c with
 | lst vs=>refine Be y fun ws n e r=>?_;clear y;exact⟨_,e⟩
 | fin vs=>refine e1a2 y fun ws z3_ r=>?_;clear y;refine e1a2 z3_ fun o e _=>?_;clear z3_;exact⟨o,x.stays _ _ (x.base _ _ e)⟩
 | dct ep kvs=>refine e1a2 y fun ws z4_ q=>?_;clear y;refine Be z4_ fun o es e r=>?_;clear z4_;exact⟨_,e⟩
 | obj c n at_=>refine e1a2 y fun sl e r=>?_;clear y;exact⟨_,e⟩
 | exc st n at_=>refine Cc y fun vs sl e r q=>?_;clear y;exact⟨_,e⟩
 | nex=>refine Be y fun vs sl e r=>?_;clear y;exact⟨_,e⟩
theorem St.fresh (x:St p C P m σ δ h) {a:Nat} (hn:h.get? a=none):σ a=none:=by
 cases q:σ a with
 | none=>rfl
 | some c=>refine Aq (x.known q) fun o e=>?_;rw[hn] at e;exact xNS e
theorem St.foot_there (x:St p C P m σ δ h) {b:Nat} (f:Foot σ δ b):∃o,h.get? b=some o/\¬BS o:=f.there x.rep
theorem St.keeps (x:St p C P m σ δ h) (k:∀b o,h.get? b=some o->h'.get? b=some o):St p C P m σ δ h':=by
 refine e1a2 x.ns fun mm hn hl=>?_;exact⟨x.base,fun b o e=>k _ _ (x.stays b o e),x.frs.keeps fun b _ o=>k b o,(Ai mm (hn.keeps k) (hl.step (.of_keeps k))),x.lP,x.rep.keeps k,x.off⟩
theorem St.turned {a:Nat} (x:St p C P m σ δ h) (f:Foot σ δ a) (hs:Heap.SameBut a h h') {σ':Store} (hr:Rep p σ' δ h') (hf:∀b,Foot σ' δ b->Foot σ δ b):St p C P m σ' δ h':=by
 refine e1a2 x.ns fun mm hn hl=>?_;refine NK (x.off a f) fun hP hfr hne=>?_;refine e1a2 (x.foot_there f) fun o ho hi=>?_;refine⟨x.base,fun b o e=>(hs.2 b fun z=>?_).trans (x.stays b o e),x.frs.keeps fun b hb o e=>(hs.2 b fun z=>?_).trans e,(Ai mm (hn.sameBut hs (Ne.symm hne)) (hl.step (.sameBut hs ho hi))),x.lP,hr,fun b fb=>x.off b (hf b fb)⟩
 ·rw[z,hP] at e;exact xNS e
 ·exact hfr (z▸hb)
theorem St.setAt {a:Nat} {c c':Cell} (x:St p C P m σ δ h) (ea:σ a=some c) (hm:c.mut) (hd:c'.hasDict↔c.hasDict) (hs:Heap.SameBut a h h') (hc:KeepI h h'->CellAt p h' a (δ a) c'):St p C P m (σ.set a c') δ h'/\KeepI h h':=by
 have f:Foot σ δ a:=.inl (Ai c ea hm);refine e1a2 (x.foot_there f) fun o ho hi=>?_;have k:KeepI h h':=.sameBut hs ho hi;exact⟨x.turned f hs (x.rep.setAt ea hd hs k (hc k)) (fun b=>Foot.setAt ea hd hm),k⟩
theorem St.setDict {a:Nat} {c c':Cell} (x:St p C P m σ δ h) (ea:σ a=some c) (hcd:c.hasDict) (hd:c'.hasDict) (hm:c.mut) (hs:Heap.SameBut (δ a) h h') (hc:KeepI h h'->CellAt p h' a (δ a) c'):St p C P m (σ.set a c') δ h'/\KeepI h h':=by
 have f:Foot σ δ (δ a):=.inr (AZ a c ea hcd rfl);refine e1a2 (x.foot_there f) fun o ho hi=>?_;have k:KeepI h h':=.sameBut hs ho hi;exact⟨x.turned f hs (x.rep.setDict ea hcd hs k (hc k)) (fun b=>Foot.setAt ea ⟨fun _=>hcd,fun _=>hd⟩ hm),k⟩
theorem St.new {a:Nat} {c:Cell} (x:St p C P m σ δ h) (hn:h.get? a=none) (hd:¬c.hasDict) (k:∀b o,h.get? b=some o->h'.get? b=some o) (hc:CellAt p h' a (δ a) c) (hfr:∀b c,σ b=some c->c.hasDict->δ b≠a):St p C P m (σ.set a c) δ h':=by
 have xa:=x.fresh hn;have y:=x.keeps k;refine⟨y.base,y.stays,y.frs,y.ns,y.lP,⟨fun b cb e=>?_,fun b cb e hb=>?_,fun b b' cb cb' e e' hb hb'=>?_⟩,fun b f=>?_⟩
 ·by_cases q:b=a
  ·subst q;rw[Aa] at e;obtain rfl:=xSS e;exact hc
  ·rw[Ab _ _ q] at e;exact y.rep.at_ b cb e
 ·by_cases q:b=a
  ·subst q;rw[Aa] at e;obtain rfl:=xSS e;exact absurd hb hd
  ·rw[Ab _ _ q] at e;rw[Ab _ _ (hfr b cb e hb)];exact x.rep.sep b cb e hb
 ·by_cases q:b=a
  ·subst q;rw[Aa] at e;obtain rfl:=xSS e;exact absurd hb hd
  ·by_cases q':b'=a
   ·subst q';rw[Aa] at e';obtain rfl:=xSS e';exact absurd hb' hd
   ·rw[Ab _ _ q] at e;rw[Ab _ _ q'] at e';exact x.rep.inj b b' cb cb' e e' hb hb'
 ·rcases f with ⟨cb,e,mb⟩ | ⟨b',cb,e,db,q⟩
  ·by_cases q:b=a
   ·subst q;refine Bk ?_ (fun hb=>?_) (fun z=>?_)
    ·cases w:P.get? b with
     | none=>rfl
     | some o=>have:=x.stays b o w;rw[hn] at this;exact xNS this
    ·refine An (x.frs.mem hb) fun _ z5_=>?_;refine e3a2 z5_ fun o _ _ ho _=>?_;clear z5_;rw[hn] at ho;exact xNS ho
    ·refine e1a2 x.ns fun mm hns _=>?_;refine e3a2 (Ns.dict hns) fun o _ _ ho _=>?_;rw[← z,hn] at ho;exact xNS ho
   ·rw[Ab _ _ q] at e;exact x.off b (.inl (Ai cb e mb))
  ·by_cases z:b'=a
   ·subst z;rw[Aa] at e;obtain rfl:=xSS e;exact absurd db hd
   ·rw[Ab _ _ z] at e;exact x.off b (.inr (AZ b' cb e db q))
theorem St.dicts_ne (x:St p C P m σ δ h) {a:Nat} (hn:h.get? a=none):∀b c,σ b=some c->c.hasDict->δ b≠a:=fun b c e hd z=>by
 refine e1a2 (x.foot_there (.inr (AZ b c e hd rfl))) fun o ho _=>?_;rw[z,hn] at ho;exact xNS ho
noncomputable def upd (δ:Nat->Nat) (a d:Nat):Nat->Nat:=fun b=>if b=a then d else δ b
theorem St.newD {a d:Nat} {c:Cell} (x:St p C P m σ δ h) (hn:h.get? a=none) (hdn:h.get? d=none) (had:a≠d) (hd:c.hasDict) (k:∀b o,h.get? b=some o->h'.get? b=some o) (hc:CellAt p h' a d c):St p C P m (σ.set a c) (upd δ a d) h':=by
 have xa:=x.fresh hn;have xd:=x.fresh hdn;have y:=x.keeps k;have ne:∀{b c},σ b=some c->b≠a:=fun e z=>by rw[z,xa] at e;exact xNS e
 have ud:∀{b},b≠a->upd δ a d b=δ b:=fun z=>by simp[upd,z]
 have ua:upd δ a d a=d:=by simp[upd]
 refine⟨y.base,y.stays,y.frs,y.ns,y.lP,⟨fun b cb e=>?_,fun b cb e hb=>?_,fun b b' cb cb' e e' hb hb'=>?_⟩,fun b f=>?_⟩
 ·by_cases q:b=a
  ·subst q;rw[Aa] at e;obtain rfl:=xSS e;rw[ua];exact hc
  ·rw[Ab _ _ q] at e;rw[ud q];exact y.rep.at_ b cb e
 ·by_cases q:b=a
  ·subst q;rw[ua,Ab _ _ (Ne.symm had)];exact xd
  ·rw[Ab _ _ q] at e;rw[ud q,Ab _ _ (x.dicts_ne hn b cb e hb)];exact x.rep.sep b cb e hb
 ·by_cases q:b=a
  ·by_cases q':b'=a
   ·intro _;rw[q,q']
   ·rw[Ab _ _ q'] at e';intro z;rw[q,ua,ud q'] at z;exact absurd z.symm (x.dicts_ne hdn b' cb' e' hb')
  ·rw[Ab _ _ q] at e;by_cases q':b'=a
   ·intro z;rw[q',ua,ud q] at z;exact absurd z (x.dicts_ne hdn b cb e hb)
   ·rw[Ab _ _ q'] at e';rw[ud q,ud q'];exact x.rep.inj b b' cb cb' e e' hb hb'
 ·have offNew:∀b,h.get? b=none->P.get? b=none/\b∉fa C.frs/\b≠C.env.locals:=fun b hb=>by
   refine Bk ?_ (fun hm=>?_) (fun z=>?_)
   ·cases w:P.get? b with
    | none=>rfl
    | some o=>have:=x.stays b o w;rw[hb] at this;exact xNS this
   ·refine An (x.frs.mem hm) fun _ z6_=>?_;refine e3a2 z6_ fun o _ _ ho _=>?_;clear z6_;rw[hb] at ho;exact xNS ho
   ·refine e1a2 x.ns fun mm hns _=>?_;refine e3a2 (Ns.dict hns) fun o _ _ ho _=>?_;rw[← z,hb] at ho;exact xNS ho
  rcases f with ⟨cb,e,mb⟩ | ⟨b',cb,e,db,q⟩
  ·by_cases q:b=a
   ·subst q;exact offNew _ hn
   ·rw[Ab _ _ q] at e;exact x.off b (.inl (Ai cb e mb))
  ·by_cases z:b'=a
   ·subst z;rw[ua] at q;subst q;exact offNew _ hdn
   ·rw[Ab _ _ z] at e;rw[ud z] at q;exact x.off b (.inr (AZ b' cb e db q))
end
end
section
set_option genCtorIdx true in
inductive Op | add | sub | mul | fdiv | mod | pow
 deriving DecidableEq
set_option genCtorIdx true in
inductive Cop | eq | ne | lt | le | gt | ge
 deriving DecidableEq
set_option genCtorIdx true in
inductive BF | len | ord | str | isTup | range
 deriving DecidableEq
set_option genCtorIdx true in
inductive BM | join | strip | lstrip | split | startswith | endswith | index | get | append | pop
 deriving DecidableEq
inductive X where
 | var (i:Nat)
 | cNone | cBool (b:Bool) | cInt (i:Int) | cStr (s:T)
 | nil | cons (a b:X)
 | tup (xs:X) | lst (xs:X) | dct0 | dct2 (k1:T) (a:X) (k2:T) (b:X)
 | bin (op:Op) (a b:X) | neg (a:X)
 | cmp (op:Cop) (a b:X) | isN (a:X) | isNN (a:X) | inn (a b:X) | nin (a b:X)
 | chain (a b c:X)
 | and (a b:X) | or (a b:X) | not (a:X) | ite (c a b:X)
 | call (f:F) (xs:X)
 | new (c:Cls) (f:F) (xs:X)
 | meth (f:F) (n:T) (o:X) (xs:X)
 | clsm (f:F) (xs:X)
 | excInit (xs:X)
 | attr (o:X) (n:T)
 | idx (a b:X) | slc (a lo hi:X) | no
 | bf (f:BF) (xs:X)
 | isT (a:X)
 | bm (f:BM) (o:X) (xs:X)
 | comp (k:Nat) (elt cond src:X) (caps:List Nat)
 | dead
inductive SS where
 | nil | cons (a b:SS)
 | asg (i:Nat) (x:X)
 | asg2 (i j:Nat) (x:X)
 | swp (i j:Nat) (x y:X)
 | setA (o:X) (n:T) (x:X)
 | setI (o k x:X)
 | aug (i:Nat) (op:Op) (x:X)
 | augA (o:X) (n:T) (op:Op) (x:X)
 | augI (o k:X) (op:Op) (x:X)
 | expr (x:X)
 | ret (x:X)
 | ret0
 | raise (x:X)
 | ite (c:X) (a b:SS)
 | whl (c:X) (b:SS)
 | for1 (i:Nat) (x:X) (b:SS)
 | for2 (i j:Nat) (x:X) (b:SS)
 | try0 (b hd:SS)
 | try1 (b:SS) (n:Nat) (hd:SS)
 | dead
set_option genCtorIdx true in
inductive Fl | next | brk | cont | ret (v:V)
noncomputable def LIM:Nat:=8000000
mutual
noncomputable def V.same:V->V->Bool
 | .none,.none=>true
 | .bool a,.bool b=>a==b
 | .int a,.int b=>a==b
 | .str a,.str b=>a==b
 | .tup a,.tup b=>MT a b
 | _,_=>false
noncomputable def MT:List V->List V->Bool
 | [],[]=>true
 | a::r,b::q=>V.same a b&&MT r q
 | _,_=>false
end
mutual
noncomputable def V.ok:Nat->V->Bool
 | _,.none=>true
 | _,.bool _=>true
 | _,.int _=>true
 | _,.str s=>s.all fun c=>decide (c < 1114112)
 | n,.tup vs=>decide (n≠0)&&B6 (n - 1) vs
 | _,.ref _=>false
 | _,.rng _ _ _=>false
noncomputable def B6:Nat->List V->Bool
 | _,[]=>true
 | n,a::r=>V.ok n a&&B6 n r
end
noncomputable def V.isStr:V->Bool
 | .str _=>true
 | _=>false
noncomputable def Dp:V->Bool
 | .int _=>true
 | _=>false
noncomputable def Ag (σ:Store):V->Option (List V)
 | .ref a=>match σ a with
  | some (.lst vs)=>some vs
  | some (.fin vs)=>some vs
  | _=>none
 | _=>none
noncomputable def dictAt (σ:Store):V->Option (List (T × V))
 | .ref a=>match σ a with
  | some (.dct _ kvs)=>some kvs
  | _=>none
 | _=>none
noncomputable def C3 (σ:Store):V->Option (List V)
 | .tup vs=>some vs
 | v=>Ag σ v
noncomputable def Cl (lo hi st:Int):List Int:=(List.range (Builtin.Range.rangeSize lo hi st).toNat).map fun (i:Nat)=>lo+st*(i:Int)
noncomputable def AW (σ:Store):V->Option (List V × Option Nat)
 | .str s=>some (s.map fun c=>.str [c],none)
 | .rng lo hi st=>if lo.natAbs < 2 ^ 40/\hi.natAbs < 2 ^ 40/\st.natAbs < 2 ^ 40/\st≠0 then some ((Cl lo hi st).map .int,none) else none
 | .ref a=>match σ a with
  | some (.lst vs)=>some (vs,none)
  | some (.fin vs)=>some (vs,none)
  | some (.dct ep kvs)=>some (kvs.map fun p=>.str p.1,some ep)
  | _=>none
 | _=>none
noncomputable abbrev QV:=V->Store->Prop
noncomputable abbrev QL:=List V->Store->Prop
noncomputable abbrev QB:=Bool->Store->Prop
noncomputable abbrev QE:=Nat->Store->Prop
noncomputable abbrev QF:=Fl->Loc->Store->Prop
noncomputable abbrev EF:=Nat->Loc->Store->Prop
noncomputable def Dv (v:V) (σ:Store) (Q:QB):Prop:=match v with
 | .bool b=>Q b σ
 | _=>False
structure newL (σ:Store) (vs:List V) (Q:QV):Prop where
 len:vs.length<=LIM
 k:∀a,σ a=none->Q (.ref a) (σ.set a (.lst vs))
section
variable (σ:Store) (Q:QV)
inductive BinR:Op->V->V->Prop
 | add_int {a b:Int}:Q (.int (a+b)) σ->BinR .add (.int a) (.int b)
 | add_str {a b:T}:a.length+b.length<=LIM->Q (.str (a++b)) σ->BinR .add (.str a) (.str b)
 | add_lst {a b:Nat} (xs ys:List V):Ag σ (.ref a)=some xs->Ag σ (.ref b)=some ys->newL σ (xs++ys) Q->BinR .add (.ref a) (.ref b)
 | sub_int {a b:Int}:Q (.int (a - b)) σ->BinR .sub (.int a) (.int b)
 | mul_int {a b:Int}:(a.natAbs < 2 ^ 63∨b.natAbs < 2 ^ 63)->Q (.int (a*b)) σ->BinR .mul (.int a) (.int b)
 | div_int {a b:Int}:0 < b->b < 2 ^ 63->Q (.int (a / b)) σ->BinR .fdiv (.int a) (.int b)
 | mod_int {a b:Int}:0 < b->Q (.int (a % b)) σ->BinR .mod (.int a) (.int b)
 | pow_int {a b:Int}:0<=b->b<=1000000->a.natAbs < 2 ^ 63->Q (.int (a ^ b.toNat)) σ->BinR .pow (.int a) (.int b)
inductive CmpR:Cop->V->V->Prop
 | eq_int {a b:Int}:Q (.bool (decide (a=b))) σ->CmpR .eq (.int a) (.int b)
 | ne_int {a b:Int}:Q (.bool (decide (a≠b))) σ->CmpR .ne (.int a) (.int b)
 | lt_int {a b:Int}:Q (.bool (decide (a < b))) σ->CmpR .lt (.int a) (.int b)
 | le_int {a b:Int}:Q (.bool (decide (a<=b))) σ->CmpR .le (.int a) (.int b)
 | gt_int {a b:Int}:Q (.bool (decide (a > b))) σ->CmpR .gt (.int a) (.int b)
 | ge_int {a b:Int}:Q (.bool (decide (a≥b))) σ->CmpR .ge (.int a) (.int b)
 | eq_str {a b:T}:Q (.bool (decide (a=b))) σ->CmpR .eq (.str a) (.str b)
 | ne_str {a b:T}:Q (.bool (decide (a≠b))) σ->CmpR .ne (.str a) (.str b)
 | eq_bool {a b:Bool}:Q (.bool (decide (a=b))) σ->CmpR .eq (.bool a) (.bool b)
 | ne_bool {a b:Bool}:Q (.bool (decide (a≠b))) σ->CmpR .ne (.bool a) (.bool b)
 | ne_tup {a:List V}:B6 8 a=true->Q (.bool false) σ->CmpR .ne (.tup a) (.tup a)
 | eq_lst {a b:Nat} (xs:List V):Ag σ (.ref a)=some xs->Ag σ (.ref b)=some []->B6 8 xs=true->Q (.bool xs.isEmpty) σ->CmpR .eq (.ref a) (.ref b)
end
noncomputable def binSem (op:Op) (v w:V) (σ:Store) (Q:QV):Prop:=BinR σ Q op v w
inductive NegR (σ:Store) (Q:QV):V->Prop
 | mk {a:Int}:Q (.int (-a)) σ->NegR σ Q (.int a)
noncomputable def negSem (v:V) (σ:Store) (Q:QV):Prop:=NegR σ Q v
noncomputable def cmpSem (op:Cop) (v w:V) (σ:Store) (Q:QV):Prop:=CmpR σ Q op v w
noncomputable def DE (v:V):Bool:=match v with
 | .none=>true
 | _=>false
noncomputable def BR (v w:V) (σ:Store):Option Bool:=match v,w with
 | .str [c],.str s=>some (s.contains c)
 | .str c,w=>match C3 σ w with
  | some vs=>if vs.all V.isStr then some (vs.any fun x=>V.same x (.str c)) else none
  | none=>(dictAt σ w).map fun kvs=>kvs.any fun p=>p.1==c
 | .int i,w=>match C3 σ w with
  | some vs=>if vs.all Dp then some (vs.any fun x=>V.same x (.int i)) else none
  | none=>none
 | _,_=>none
noncomputable def M3 (n:Nat) (i:Int):Option Nat:=if 0<=i/\i < n then some i.toNat else if -(n:Int)<=i/\i < 0 then some (i+n).toNat else none
inductive IdxR (σ:Store) (Q:QV):V->V->Prop
 | str {s:T} {i:Int} {c:Nat}:s.length<=LIM->0<=i->s[i.toNat]?=some c->Q (.str [c]) σ->IdxR σ Q (.str s) (.int i)
 | tup {vs:List V} {i:Int} {x:V}:vs.length<=LIM->0<=i->vs[i.toNat]?=some x->Q x σ->IdxR σ Q (.tup vs) (.int i)
 | lst {a j:Nat} {i:Int} {vs:List V} {x:V}:Ag σ (.ref a)=some vs->vs.length<=LIM->M3 vs.length i=some j->vs[j]?=some x->Q x σ->IdxR σ Q (.ref a) (.int i)
 | dct {a:Nat} {k:T} {kvs:List (T × V)} {x:V}:dictAt σ (.ref a)=some kvs->Da kvs k=some x->Q x σ->IdxR σ Q (.ref a) (.str k)
noncomputable def idxSem (v w:V) (σ:Store) (Q:QV):Prop:=IdxR σ Q v w
noncomputable def Bp (n:Nat) (i:Int):Nat:=if i < 0 then (i+n).toNat else min i.toNat n
noncomputable def Cr {α:Type} (s:List α) (lo hi:Option Int):List α:=(s.take ((hi.map (Bp s.length)).getD s.length)).drop ((lo.map (Bp s.length)).getD 0)
noncomputable def Fv:V->Option (Option Int)
 | .none=>some none
 | .int i=>some (some i)
 | _=>none
inductive SlcR (σ:Store) (Q:QV) (l u:V):V->Prop
 | str {s:T} {lo hi:Option Int}:Fv l=some lo->Fv u=some hi->s.length<=LIM->Q (.str (Cr s lo hi)) σ->SlcR σ Q l u (.str s)
 | lst {a:Nat} {vs:List V} {lo hi:Option Int}:Fv l=some lo->Fv u=some hi->Ag σ (.ref a)=some vs->vs.length<=LIM->newL σ (Cr vs lo hi) Q->SlcR σ Q l u (.ref a)
noncomputable def slcSem (v l u:V) (σ:Store) (Q:QV):Prop:=SlcR σ Q l u v
inductive AttrR (n:T) (σ:Store) (Q:QV):V->Prop
 | obj {a k:Nat} {c:Cls} {at_:List (T × V)} {x:V}:σ a=some (.obj c k at_)->at_.lookup n=some x->Q x σ->AttrR n σ Q (.ref a)
 | exc {a st k:Nat} {at_:List (T × V)} {x:V}:σ a=some (.exc st k at_)->at_.lookup n=some x->Q x σ->AttrR n σ Q (.ref a)
noncomputable def attrSem (v:V) (n:T) (σ:Store) (Q:QV):Prop:=AttrR n σ Q v
inductive SetAR (n:T) (x:V) (σ:Store) (Q:Store->Prop):V->Prop
 | obj {a k:Nat} {c:Cls} {at_:List (T × V)}:σ a=some (.obj c k at_)->k<=100->Q (σ.set a (.obj c (if (at_.lookup n).isSome then k else k+1) (Cf at_ n x)))->SetAR n x σ Q (.ref a)
 | exc {a st k:Nat} {at_:List (T × V)}:σ a=some (.exc st k at_)->k<=100->Q (σ.set a (.exc st (if (at_.lookup n).isSome then k else k+1) (Cf at_ n x)))->SetAR n x σ Q (.ref a)
 | nex {a:Nat}:σ a=some .nex->Q (σ.set a (.exc 0 1 [(n,x)]))->SetAR n x σ Q (.ref a)
noncomputable def setASem (v:V) (n:T) (x:V) (σ:Store) (Q:Store->Prop):Prop:=SetAR n x σ Q v
inductive SetIR (x:V) (σ:Store) (Q:Store->Prop):V->V->Prop
 | dct {a ep:Nat} {n:T} {kvs:List (T × V)}:σ a=some (.dct ep kvs)->kvs.length<=LIM->(∀ep',Q (σ.set a (.dct ep' (Cf kvs n x))))->SetIR x σ Q (.ref a) (.str n)
 | lst {a:Nat} {i:Int} {vs:List V}:σ a=some (.lst vs)->vs.length<=LIM->0<=i->i.toNat < vs.length->Q (σ.set a (.lst (vs.set i.toNat x)))->SetIR x σ Q (.ref a) (.int i)
noncomputable def setISem (v k x:V) (σ:Store) (Q:Store->Prop):Prop:=SetIR x σ Q v k
noncomputable def DIG:Nat:=10 ^ 4300
noncomputable def Cu (i:Int):T:=(toString i).toList.map Char.toNat
inductive BfR (σ:Store) (Q:QV):BF->List V->Prop
 | len_str {s:T}:s.length<=LIM->Q (.int s.length) σ->BfR σ Q .len [.str s]
 | len_tup {s:List V}:s.length<=LIM->Q (.int s.length) σ->BfR σ Q .len [.tup s]
 | len_ref {a:Nat} (s:List V):Ag σ (.ref a)=some s->s.length<=LIM->Q (.int s.length) σ->BfR σ Q .len [.ref a]
 | ord {c:Nat}:Q (.int c) σ->BfR σ Q .ord [.str [c]]
 | str {i:Int}:i.natAbs < DIG->Q (.str (Cu i)) σ->BfR σ Q .str [.int i]
 | tup_t {vs:List V}:Q (.bool true) σ->BfR σ Q .isTup [.tup vs]
 | tup_f {a:Nat} (s:List V):Ag σ (.ref a)=some s->Q (.bool false) σ->BfR σ Q .isTup [.ref a]
 | rng1 {n:Int}:n.natAbs < 2 ^ 40->Q (.rng 0 n 1) σ->BfR σ Q .range [.int n]
 | rng3 {a b c:Int}:a.natAbs < 2 ^ 40->b.natAbs < 2 ^ 40->c.natAbs < 2 ^ 40->c≠0->Q (.rng a b c) σ->BfR σ Q .range [.int a,.int b,.int c]
noncomputable def bfSem (f:BF) (vs:List V) (σ:Store) (Q:QV):Prop:=BfR σ Q f vs
noncomputable def AR (sep:T):List T->T
 | []=>[]
 | [x]=>x
 | x::y::r=>x++sep++AR sep (y::r)
noncomputable def DM:List V->Option (List T)
 | []=>some []
 | .str s::r=>(DM r).map (s::·)
 | _::_=>none
noncomputable def MI (s:T):T:=s.dropWhile (·==32)
noncomputable def AQ (s:T):T:=((s.dropWhile (·==32)).reverse.dropWhile (·==32)).reverse
noncomputable def BE:T->List T
 | []=>[[]]
 | c::r=>if c=32 then []::BE r else match BE r with
  | []=>[[c]]
  | x::q=>(c::x)::q
noncomputable def FO (s:T) (c:Nat):Option Nat:=s.findIdx? (·==c)
inductive BmR (σ:Store) (Q:QV):BM->V->List V->Prop
 | join {sep:T} {a:Nat} (xs:List V) (ts:List T):Ag σ (.ref a)=some xs->DM xs=some ts->sep.length<=64->(ts.map List.length).sum+64*ts.length<=LIM->Q (.str (AR sep ts)) σ->BmR σ Q .join (.str sep) [.ref a]
 | strip {s:T}:s.length<=LIM->Q (.str (AQ s)) σ->BmR σ Q .strip (.str s) [.str [32]]
 | lstrip {s:T}:s.length<=LIM->Q (.str (MI s)) σ->BmR σ Q .lstrip (.str s) [.str [32]]
 | split {s:T}:s.length<=LIM->(∀a,σ a=none->Q (.ref a) (σ.set a (.lst ((BE s).map .str))))->BmR σ Q .split (.str s) [.str [32]]
 | starts {s t:T}:Q (.bool (t.isPrefixOf s)) σ->BmR σ Q .startswith (.str s) [.str t]
 | ends {s t:T}:Q (.bool (t.isSuffixOf s)) σ->BmR σ Q .endswith (.str s) [.str t]
 | index {s:T} {c i:Nat}:FO s c=some i->Q (.int i) σ->BmR σ Q .index (.str s) [.str [c]]
 | get {a ep:Nat} {k:T} {d:V} {kvs:List (T × V)}:σ a=some (.dct ep kvs)->Q ((Da kvs k).getD d) σ->BmR σ Q .get (.ref a) [.str k,d]
 | append {a:Nat} {x:V} {xs:List V}:σ a=some (.lst xs)->xs.length<=LIM->Q .none (σ.set a (.lst (xs++[x])))->BmR σ Q .append (.ref a) [x]
 | pop {a ep:Nat} {k:T} {kvs:List (T × V)}:σ a=some (.dct ep kvs)->kvs.length<=LIM->(∀ep',Q ((Da kvs k).getD .none) (σ.set a (.dct ep' (Ij kvs k))))->BmR σ Q .pop (.ref a) [.str k,.none]
noncomputable def bmSem (f:BM) (o:V) (vs:List V) (σ:Store) (Q:QV):Prop:=BmR σ Q f o vs
noncomputable def BM.isStr:BM->Bool
 | .append=>false
 | .get=>false
 | .pop=>false
 | _=>true
inductive BmP (σ:Store):BM->V->Prop
 | append {a:Nat} {xs:List V}:σ a=some (.lst xs)->BmP σ .append (.ref a)
 | get {v:V} {kvs:List (T × V)}:dictAt σ v=some kvs->BmP σ .get v
 | pop {v:V} {kvs:List (T × V)}:dictAt σ v=some kvs->BmP σ .pop v
 | str {f:BM} {s:T}:f.isStr=true->BmP σ f (.str s)
noncomputable def Hg (f:BM) (v:V) (σ:Store):Prop:=BmP σ f v
noncomputable def J0:Cls->Cell
 | .raised=>.nex
 | c=>.obj c 0 []
structure WX where
 x:Loc->Store->(QV)->(QE)->Prop
 l:Loc->Store->(QL)->(QE)->Prop
 t:Loc->Store->(QB)->(QE)->Prop
noncomputable abbrev Gam:=F->List V->Store->(QV)->(QE)->Prop
noncomputable def Gw (k:Nat) (y:V) (caps:List Nat) (m:Loc):Option Loc:=match k,y with
 | 1,y=>some (some y::caps.map fun i=>(m[i]?).join)
 | 2,.tup [a,b]=>some (some a::some b::caps.map fun i=>(m[i]?).join)
 | _,_=>none
inductive ChR (T:Int->Prop) (F:Prop):V->V->Prop
 | yes {i j:Int}:i<=j->T j->ChR T F (.int i) (.int j)
 | no {i j:Int}:¬i<=j->F->ChR T F (.int i) (.int j)
inductive IntR (T:Int->Prop):V->Prop
 | mk {k:Int}:T k->IntR T (.int k)
noncomputable abbrev WS:=Loc->Store->QF->EF->Prop
noncomputable def kx (B:WX) (m:Loc) (k:V->QV) (E:QE):QV:=fun v σ=>B.x m σ (k v) E
noncomputable def kl (B:WX) (m:Loc) (k:V->QL) (E:QE):QV:=fun v σ=>B.l m σ (k v) E
noncomputable def QG (Q:QL):V->QL:=fun v vs σ=>Q (v::vs) σ
noncomputable abbrev TW (Q:QV):QL:=fun vs σ=>vs.length<=LIM/\Q (.tup vs) σ
noncomputable def SX (Q:QV):QL:=fun vs σ=>newL σ vs Q
noncomputable def Oi (op:Op) (Q:QV):V->QV:=fun v w σ=>binSem op v w σ Q
noncomputable def TH (op:Cop) (Q:QV):V->QV:=fun v w σ=>cmpSem op v w σ Q
noncomputable def Ut (Q:QV):QV:=fun v σ=>negSem v σ Q
noncomputable def isQ (Q:QV):QV:=fun v σ=>Q (.bool (DE v)) σ
noncomputable def Rp (Q:QV):QV:=fun v σ=>Q (.bool !(DE v)) σ
noncomputable def inQ (v w:V) (σ:Store) (Q:Bool->Prop):Prop:=match BR v w σ with
 | some r=>Q r
 | none=>False
noncomputable def ninQ (v w:V) (σ:Store) (Q:Bool->Prop):Prop:=match BR v w σ with
 | some r=>Q (!r)
 | none=>False
noncomputable abbrev bQ (Q:QV) (σ:Store):Bool->Prop:=fun r=>Q (.bool r) σ
noncomputable def TT (Q:QV):V->QV:=fun v w σ=>inQ v w σ (bQ Q σ)
noncomputable def US (Q:QV):V->QV:=fun v w σ=>ninQ v w σ (bQ Q σ)
noncomputable def UP (Q:QV):QB:=fun c σ=>Q (.bool !c) σ
noncomputable def UT (Q:QB):QB:=fun c σ=>Q (!c) σ
noncomputable abbrev LJ (Q:QB):QV:=fun v σ=>Dv v σ Q
noncomputable def UD (j:Int) (Q:QV):QV:=fun u σ=>IntR (fun k=>Q (.bool (decide (j<=k))) σ) u
noncomputable def kCh (c:WX) (m:Loc) (Q:QV) (E:QE):V->QV:=fun v w σ=>ChR (fun j=>c.x m σ (UD j Q) E) (Q (.bool false) σ) v w
noncomputable def ifQ (t:Bool) (a b:Prop):Prop:=match t with
 | true=>a
 | false=>b
noncomputable def UW (b:WX) (m:Loc) (Q:QV) (E:QE) (v:V):QB:=fun c σ=>ifQ c (b.x m σ Q E) (Q v σ)
noncomputable def kOr (b:WX) (m:Loc) (Q:QV) (E:QE) (v:V):QB:=fun c σ=>ifQ c (Q v σ) (b.x m σ Q E)
noncomputable def kTr (k:V->QB):QV:=fun v σ=>Dv v σ (k v)
noncomputable def Ts (b:WX) (m:Loc) (Q:QB) (E:QE):QB:=fun c σ=>ifQ c (b.t m σ Q E) (Q false σ)
noncomputable def tOr (b:WX) (m:Loc) (Q:QB) (E:QE):QB:=fun c σ=>ifQ c (Q true σ) (b.t m σ Q E)
noncomputable def TP (a b:WX) (m:Loc) (Q:QV) (E:QE):QB:=fun c σ=>ifQ c (a.x m σ Q E) (b.x m σ Q E)
noncomputable def Vb (a b:WX) (m:Loc) (Q:QB) (E:QE):QB:=fun c σ=>ifQ c (a.t m σ Q E) (b.t m σ Q E)
noncomputable def O9 (Γ:Gam) (f:F) (Q:QV) (E:QE):QL:=fun vs σ=>Γ f vs σ Q E
noncomputable abbrev SW (a:Nat) (Q:QV):QV:=fun r σ=>r=.none/\Q (.ref a) σ
noncomputable abbrev TC (Γ:Gam) (c:Cls) (f:F) (Q:QV) (E:QE):QL:=fun vs σ=>vs.length<=1000/\∀a,σ a=none->Γ f (.ref a::vs) (σ.set a (J0 c)) (SW a Q) E
noncomputable def Su (Γ:Gam) (f:F) (Q:QV) (E:QE) (v:V):QL:=fun vs σ=>Γ f (v::vs) σ Q E
noncomputable abbrev QR (Γ:Gam) (f:F) (xs:WX) (m:Loc) (Q:QV) (E:QE):QV:=fun v σ=>(∃a n at_,v=.ref a/\σ a=some (.obj .host n at_))/\xs.l m σ (Su Γ f Q E v) E
noncomputable abbrev UY (Q:QV):QL:=fun vs σ=>∃a v,vs=[.ref a,v]/\σ a=some .nex/\Q .none σ
noncomputable def QZ (n:T) (Q:QV):QV:=fun v σ=>attrSem v n σ Q
noncomputable def Ti (Q:QV):V->QV:=fun v w σ=>idxSem v w σ Q
noncomputable def SJ (v:V) (Q:QV):V->QV:=fun l u σ=>slcSem v l u σ Q
noncomputable def SQ (lo hi:WX) (m:Loc) (Q:QV) (E:QE):QV:=fun v σ=>lo.x m σ (kx hi m (SJ v Q) E) E
noncomputable def kBf (f:BF) (Q:QV):QL:=fun vs σ=>bfSem f vs σ Q
noncomputable def UU (Q:QV):QV:=fun v σ=>bfSem .isTup [v] σ Q
noncomputable def UR (f:BM) (Q:QV) (v:V):QL:=fun vs σ=>bmSem f v vs σ Q
noncomputable abbrev kBm (f:BM) (xs:WX) (m:Loc) (Q:QV) (E:QE):QV:=fun v σ=>Hg f v σ/\xs.l m σ (UR f Q v) E
noncomputable def HE:QE:=fun _ _=>False
noncomputable def Qf (I:List V->QL) (ys acc:List V):QV:=fun w σ=>I ys (acc++[w]) σ
noncomputable def Ha (elt:WX) (m:Loc) (I:List V->QL) (ys acc:List V):QB:=fun t σ=>ifQ t (elt.x m σ (Qf I ys acc) HE) (I ys acc σ)
noncomputable abbrev QN (k:Nat) (elt cond:WX) (caps:List Nat) (m:Loc) (Q:QV):QV:=fun v σ₁=>∃xs ep,AW σ₁ v=some (xs,ep)/\xs.length<=LIM/\∃I:List V->QL,I xs [] σ₁ /\
   (∀y ys acc σ',I (y::ys) acc σ'->acc.length<=LIM/\AW σ' v=some (xs,ep)/\∃m',Gw k y caps m=some m'/\cond.t m' σ' (Ha elt m' I ys acc) HE) /\
   (∀acc σ',I [] acc σ'->AW σ' v=some (xs,ep)/\∀a,σ' a=none->Q (.ref a) (σ'.set a (.lst acc)))
noncomputable def WX.ofX (f:Loc->Store->QV->QE->Prop):WX:={ x:=f,l:=fun _ _ _ _=>False,t:=fun m σ Q E=>f m σ (LJ Q) E }
noncomputable def wp (Γ:Gam):X->WX
 | .var i=>.ofX fun m σ Q _=>match (m[i]?).join with | some v=>Q v σ | none=>False
 | .cNone=>.ofX fun _ σ Q _=>Q .none σ
 | .cBool b=>.ofX fun _ σ Q _=>Q (.bool b) σ
 | .cInt i=>.ofX fun _ σ Q _=>Q (.int i) σ
 | .cStr s=>.ofX fun _ σ Q _=>Q (.str s) σ
 | .nil=>{ x:=fun _ _ _ _=>False,l:=fun _ σ Q _=>Q [] σ,t:=fun _ _ _ _=>False }
 | .cons a b=>{ x:=fun _ _ _ _=>False,l:=fun m σ Q E=>(wp Γ a).x m σ (kl (wp Γ b) m (QG Q) E) E,t:=fun _ _ _ _=>False }
 | .tup xs=>.ofX fun m σ Q E=>(wp Γ xs).l m σ (TW Q) E
 | .lst xs=>.ofX fun m σ Q E=>(wp Γ xs).l m σ (SX Q) E
 | .dct0=>.ofX fun _ σ Q _=>∀a ep,σ a=none->Q (.ref a) (σ.set a (.dct ep []))
 | .dct2 k1 a k2 b=>.ofX fun m σ Q E=>k1≠k2/\(wp Γ a).x m σ (fun v σ₁=>(wp Γ b).x m σ₁ (fun w σ₂=>∀a ep,σ₂ a=none->Q (.ref a) (σ₂.set a (.dct ep [(k1,v),(k2,w)]))) E) E
 | .bin op a b=>.ofX fun m σ Q E=>(wp Γ a).x m σ (kx (wp Γ b) m (Oi op Q) E) E
 | .neg a=>.ofX fun m σ Q E=>(wp Γ a).x m σ (Ut Q) E
 | .cmp op a b=>.ofX fun m σ Q E=>(wp Γ a).x m σ (kx (wp Γ b) m (TH op Q) E) E
 | .isN a=>.ofX fun m σ Q E=>(wp Γ a).x m σ (isQ Q) E
 | .isNN a=>.ofX fun m σ Q E=>(wp Γ a).x m σ (Rp Q) E
 | .inn a b=>.ofX fun m σ Q E=>(wp Γ a).x m σ (kx (wp Γ b) m (TT Q) E) E
 | .nin a b=>.ofX fun m σ Q E=>(wp Γ a).x m σ (kx (wp Γ b) m (US Q) E) E
 | .chain a b c=>.ofX fun m σ Q E=>(wp Γ a).x m σ (kx (wp Γ b) m (kCh (wp Γ c) m Q E) E) E
 | .and a b=>{ x:=fun m σ Q E=>(wp Γ a).x m σ (kTr (UW (wp Γ b) m Q E)) E,l:=fun _ _ _ _=>False,t:=fun m σ Q E=>(wp Γ a).t m σ (Ts (wp Γ b) m Q E) E }
 | .or a b=>{ x:=fun m σ Q E=>(wp Γ a).x m σ (kTr (kOr (wp Γ b) m Q E)) E,l:=fun _ _ _ _=>False,t:=fun m σ Q E=>(wp Γ a).t m σ (tOr (wp Γ b) m Q E) E }
 | .not a=>{ x:=fun m σ Q E=>(wp Γ a).x m σ (LJ (UP Q)) E,l:=fun _ _ _ _=>False,t:=fun m σ Q E=>(wp Γ a).t m σ (UT Q) E }
 | .ite c a b=>{ x:=fun m σ Q E=>(wp Γ c).t m σ (TP (wp Γ a) (wp Γ b) m Q E) E,l:=fun _ _ _ _=>False,t:=fun m σ Q E=>(wp Γ c).t m σ (Vb (wp Γ a) (wp Γ b) m Q E) E }
 | .call f xs=>.ofX fun m σ Q E=>(wp Γ xs).l m σ (O9 Γ f Q E) E
 | .new c f xs=>.ofX fun m σ Q E=>(wp Γ xs).l m σ (TC Γ c f Q E) E
 | .meth f _ o xs=>.ofX fun m σ Q E=>(wp Γ o).x m σ (QR Γ f (wp Γ xs) m Q E) E
 | .clsm f xs=>.ofX fun m σ Q E=>(wp Γ xs).l m σ (O9 Γ f Q E) E
 | .excInit xs=>.ofX fun m σ Q E=>(wp Γ xs).l m σ (UY Q) E
 | .attr o n=>.ofX fun m σ Q E=>(wp Γ o).x m σ (QZ n Q) E
 | .idx a b=>.ofX fun m σ Q E=>(wp Γ a).x m σ (kx (wp Γ b) m (Ti Q) E) E
 | .slc a lo hi=>.ofX fun m σ Q E=>(wp Γ a).x m σ (SQ (wp Γ lo) (wp Γ hi) m Q E) E
 | .no=>.ofX fun _ σ Q _=>Q .none σ
 | .bf f xs=>.ofX fun m σ Q E=>(wp Γ xs).l m σ (kBf f Q) E
 | .isT a=>.ofX fun m σ Q E=>(wp Γ a).x m σ (UU Q) E
 | .bm f o xs=>.ofX fun m σ Q E=>(wp Γ o).x m σ (kBm f (wp Γ xs) m Q E) E
 | .comp k elt cond src caps=>.ofX fun m σ Q E=>(caps.all fun i=>((m[i]?).join).isSome)=true/\(wp Γ src).x m σ (QN k (wp Γ elt) (wp Γ cond) caps m Q) E
 | .dead=>.ofX fun _ _ _ _=>False
noncomputable def La (hd:Option Nat) (e:Nat) (m:Loc) (σ:Store) (n:Nat) (at_:List (T × V)) (E:EF):Prop:=match hd with
 | none=>E e m (σ.set e (.exc 1 n at_))
 | some h=>h≠e/\(∃n' at',σ h=some (.exc 1 n' at'))/\E e m (σ.set e (.exc 2 n at_))
noncomputable def atE (E:EF) (m:Loc):QE:=fun e σ=>E e m σ
noncomputable def MJ (Q:QF) (m:Loc):Store->Prop:=fun σ=>Q .next m σ
noncomputable def Tp (Q:QF) (m:Loc) (i:Nat):QV:=fun v σ=>Q .next (m.set i (some v)) σ
noncomputable abbrev T6 (Q:QF) (m:Loc) (i j:Nat):QV:=fun v σ=>∃a b,v=.tup [a,b]/\Q .next ((m.set i (some a)).set j (some b)) σ
noncomputable def UA (Q:QF) (m:Loc) (i j:Nat):V->QV:=fun v w σ=>Q .next ((m.set i (some v)).set j (some w)) σ
noncomputable def SD (n:T) (Q:Store->Prop):V->QV:=fun v w σ=>setASem w n v σ Q
noncomputable def RA (v w:V) (Q:Store->Prop):QV:=fun u σ=>setISem w u v σ Q
noncomputable def Tb (k:WX) (m:Loc) (Q:Store->Prop) (E:QE):V->QV:=fun v w σ=>k.x m σ (RA v w Q) E
noncomputable abbrev T8 (Q:QF) (m:Loc) (i:Nat):QV:=fun u σ=>(∃k,u=.int k)/\Q .next (m.set i (some u)) σ
noncomputable abbrev Sw (n:T) (w:V) (Q:Store->Prop):QV:=fun r σ=>(∃k,r=.int k)/\setASem w n r σ Q
noncomputable def RV (x:WX) (n:T) (op:Op) (m:Loc) (Q:Store->Prop) (E:QE) (w:V):QV:=fun v σ=>x.x m σ (Oi op (Sw n w Q) v) E
noncomputable def TD (x:WX) (n:T) (op:Op) (m:Loc) (Q:Store->Prop) (E:QE):QV:=fun w σ=>attrSem w n σ (RV x n op m Q E w)
noncomputable abbrev Sx (w u:V) (Q:Store->Prop):QV:=fun r σ=>(∃k,r=.int k)/\setISem w u r σ Q
noncomputable def RD (x:WX) (op:Op) (m:Loc) (Q:Store->Prop) (E:QE) (w u:V):QV:=fun v σ=>x.x m σ (Oi op (Sx w u Q) v) E
noncomputable def Sp (x:WX) (op:Op) (m:Loc) (Q:Store->Prop) (E:QE) (w:V):QV:=fun u σ=>idxSem w u σ (RD x op m Q E w u)
noncomputable def T2 (k x:WX) (op:Op) (m:Loc) (Q:Store->Prop) (E:QE):QV:=fun w σ=>k.x m σ (Sp x op m Q E w) E
noncomputable def Rl (Q:QF) (m:Loc):QV:=fun _ σ=>Q .next m σ
noncomputable def Sf (Q:QF) (m:Loc):QV:=fun v σ=>Q (.ret v) m σ
noncomputable abbrev R4 (hd:Option Nat) (E:EF) (m:Loc):QV:=fun v σ=>∃e n at_,v=.ref e/\σ e=some (.exc 0 n at_)/\La hd e m σ n at_ E
noncomputable def TV (a b:WS) (m:Loc) (Q:QF) (E:EF):QB:=fun t σ=>ifQ t (a m σ Q E) (b m σ Q E)
noncomputable def SI (b:WS) (Q:QF) (E:EF):QF:=fun f m σ=>match f with
 | .next=>b m σ Q E
 | f=>Q f m σ
noncomputable def Dd (J:Loc->Store->Prop) (Q:QF):QF:=fun f m σ=>match f with
 | .next=>J m σ
 | .cont=>J m σ
 | .brk=>Q .next m σ
 | .ret v=>Q (.ret v) m σ
noncomputable abbrev U0 (I:EF) (n:Nat):Loc->Store->Prop:=fun m σ=>∃k,k < n/\I k m σ
noncomputable def UL (b:WS) (I:EF) (n:Nat) (m:Loc) (Q:QF) (E:EF):QB:=fun t σ=>ifQ t (b m σ (Dd (U0 I n) Q) E) (Q .next m σ)
noncomputable abbrev QJ (b:WS) (i:Nat) (m:Loc) (Q:QF) (E:EF):QV:=fun v σ₁=>∃xs ep,AW σ₁ v=some (xs,ep)/\xs.length<=LIM/\∃I:List V->Loc->Store->Prop,I xs m σ₁ /\
   (∀y ys m σ,I (y::ys) m σ->AW σ v=some (xs,ep)/\b (m.set i (some y)) σ (Dd (I ys) Q) E)/\(∀m σ,I [] m σ->AW σ v=some (xs,ep)/\Q .next m σ)
noncomputable abbrev Rh (b:WS) (i j:Nat) (m:Loc) (Q:QF) (E:EF):QV:=fun v σ₁=>∃xs ep,AW σ₁ v=some (xs,ep)/\xs.length<=LIM/\∃I:List V->Loc->Store->Prop,I xs m σ₁ /\
   (∀y ys m σ,I (y::ys) m σ->AW σ v=some (xs,ep)/\∃a c,y=.tup [a,c]/\b ((m.set i (some a)).set j (some c)) σ (Dd (I ys) Q) E)/\(∀m σ,I [] m σ->AW σ v=some (xs,ep)/\Q .next m σ)
noncomputable def TF (h:Nat->WS) (Q:QF) (E:EF):EF:=fun e m σ=>h e m σ Q E
noncomputable def Se (Q:QF):QF:=fun f _ σ=>Q f [] σ
noncomputable def RW (E:EF):EF:=fun e _ σ=>E e [] σ
noncomputable def Rk (h:Nat->WS) (n:Nat) (Q:QF) (E:EF):EF:=fun e m σ=>h e (m.set n (some (.ref e))) σ (Se Q) (RW E)
noncomputable def ws (Γ:Bool->Gam) (hd:Option Nat):SS->WS
 | .nil=>fun m σ Q _=>Q .next m σ
 | .cons a b=>fun m σ Q E=>ws Γ hd a m σ (SI (ws Γ hd b) Q E) E
 | .asg i x=>fun m σ Q E=>(wp (Γ hd.isSome) x).x m σ (Tp Q m i) (atE E m)
 | .asg2 i j x=>fun m σ Q E=>(wp (Γ hd.isSome) x).x m σ (T6 Q m i j) (atE E m)
 | .swp i j x y=>fun m σ Q E=>(wp (Γ hd.isSome) x).x m σ (kx (wp (Γ hd.isSome) y) m (UA Q m i j) (atE E m)) (atE E m)
 | .setA o n x=>fun m σ Q E=>(wp (Γ hd.isSome) x).x m σ (kx (wp (Γ hd.isSome) o) m (SD n (MJ Q m)) (atE E m)) (atE E m)
 | .setI o k x=>fun m σ Q E=>(wp (Γ hd.isSome) x).x m σ (kx (wp (Γ hd.isSome) o) m (Tb (wp (Γ hd.isSome) k) m (MJ Q m) (atE E m)) (atE E m)) (atE E m)
 | .aug i op x=>fun m σ Q E=>(match (m[i]?).join with | some v=>(wp (Γ hd.isSome) x).x m σ (Oi op (T8 Q m i) v) (atE E m) | none=>False)
 | .augA o n op x=>fun m σ Q E=>(wp (Γ hd.isSome) o).x m σ (TD (wp (Γ hd.isSome) x) n op m (MJ Q m) (atE E m)) (atE E m)
 | .augI o k op x=>fun m σ Q E=>(wp (Γ hd.isSome) o).x m σ (T2 (wp (Γ hd.isSome) k) (wp (Γ hd.isSome) x) op m (MJ Q m) (atE E m)) (atE E m)
 | .expr x=>fun m σ Q E=>(wp (Γ hd.isSome) x).x m σ (Rl Q m) (atE E m)
 | .ret x=>fun m σ Q E=>(wp (Γ hd.isSome) x).x m σ (Sf Q m) (atE E m)
 | .ret0=>fun m σ Q _=>Q (.ret .none) m σ
 | .raise x=>fun m σ _ E=>(wp (Γ hd.isSome) x).x m σ (R4 hd E m) (atE E m)
 | .ite c a b=>fun m σ Q E=>(wp (Γ hd.isSome) c).t m σ (TV (ws Γ hd a) (ws Γ hd b) m Q E) (atE E m)
 | .whl c b=>fun m σ Q E=>∃I:EF,(∃n,I n m σ)/\∀n m σ,I n m σ->(wp (Γ hd.isSome) c).t m σ (UL (ws Γ hd b) I n m Q E) (atE E m)
 | .for1 i x b=>fun m σ Q E=>(wp (Γ hd.isSome) x).x m σ (QJ (ws Γ hd b) i m Q E) (atE E m)
 | .for2 i j x b=>fun m σ Q E=>(wp (Γ hd.isSome) x).x m σ (Rh (ws Γ hd b) i j m Q E) (atE E m)
 | .try0 b h=>fun m σ Q E=>ws Γ hd b m σ Q (TF (fun e=>ws Γ (some e) h) Q E)
 | .try1 b n h=>fun m σ Q E=>ws Γ hd b m σ Q (Rk (fun e=>ws Γ (some e) h) n Q E)
 | .dead=>fun _ _ _ _=>False
end
variable {σ:Store}{Q:QV}{E:QE}{a:Nat}{v:V}{n:Nat}{vs:List V}{m:Loc}{h:Heap}{t:T}{w:Value}{ps:List (T × T)}{kvs:List (T × V)}{at_:List (T × V)}{xs:List V}{k:T}{i:Nat}{c:Nat}{s:T}{o:Obj}
section
noncomputable def CK:SS:=
   (.cons (.expr (.excInit (.cons (.var 0) (.cons (.var 2) .nil))))
   (.cons (.setA (.var 0) [99,111,100,101] (.var 1))
   (.cons (.setA (.var 0) [118,97,108,117,101] (.var 2))
   (.cons (.setA (.var 0) [101,114,114,111,114,99,111,100,101] (.var 3))
   (.cons (.setA (.var 0) [108,101,118,101,108] (.var 4))
   (.cons (.setA (.var 0) [114,101,116] (.var 5))
   (.cons (.setA (.var 0) [105,110,102,111] (.cStr []))
   (.cons (.setA (.var 0) [105,115,95,110,111,116,101,100] (.cBool false))
   (.cons (.setA (.var 0) [108,105,110,101] (.cInt 0))
   (.cons (.setA (.var 0) [101,120,116,114,97] (.lst .nil))
   .nil))))))))))
noncomputable def HV:SS:=
   (.cons (.ret (.new .raised .raised_init (.cons (.cInt 1) (.cons (.var 0) (.cons (.var 1) .nil)))))
   .nil)
noncomputable def EH:SS:=
   (.cons (.ret (.call .error (.cons (.bin .add (.bin .add (.cStr [119,114,111,110,103,32,35,32,97,114,103,115,58,32,115,104,111,117,108,100,32,98,101,32,34]) (.var 0)) (.cStr [34])) (.cons (.tup (.cons (.cStr [84,67,76]) (.cons (.cStr [87,82,79,78,71,65,82,71,83]) .nil))) .nil))))
   .nil)
noncomputable def Gb:SS:=
   (.cons (.ret (.inn (.var 0) (.tup (.cons (.cStr [32]) (.cons (.cStr [9]) (.cons (.cStr [10]) (.cons (.cStr [11]) (.cons (.cStr [12]) (.cons (.cStr [13]) .nil)))))))))
   .nil)
noncomputable def KI:SS:=
   (.cons (.ite (.cmp .ne (.bf .len (.cons (.var 0) .nil)) (.cInt 1))
   (.cons (.ret (.neg (.cInt 1)))
   .nil)
   .nil)
   (.cons (.asg 1 (.bf .ord (.cons (.var 0) .nil)))
   (.cons (.ite (.chain (.cInt 48) (.var 1) (.cInt 57))
   (.cons (.ret (.bin .sub (.var 1) (.cInt 48)))
   .nil)
   .nil)
   (.cons (.ite (.chain (.cInt 97) (.var 1) (.cInt 122))
   (.cons (.ret (.bin .sub (.var 1) (.cInt 87)))
   .nil)
   .nil)
   (.cons (.ite (.chain (.cInt 65) (.var 1) (.cInt 90))
   (.cons (.ret (.bin .sub (.var 1) (.cInt 55)))
   .nil)
   .nil)
   (.cons (.ret (.neg (.cInt 1)))
   .nil))))))
noncomputable def DZ:SS:=
   (.cons (.ite (.cmp .eq (.var 0) (.cStr []))
   (.cons (.ret .cNone)
   .nil)
   .nil)
   (.cons (.asg 2 (.cInt 0))
   (.cons (.for1 3 (.var 0)
   (.cons (.asg 4 (.call .digit (.cons (.var 3) .nil)))
   (.cons (.ite (.or (.cmp .lt (.var 4) (.cInt 0)) (.cmp .ge (.var 4) (.var 1)))
   (.cons (.ret .cNone)
   .nil)
   .nil)
   (.cons (.asg 2 (.bin .add (.bin .mul (.var 2) (.var 1)) (.var 4)))
   .nil))))
   (.cons (.ret (.var 2))
   .nil))))
noncomputable def GN:SS:=
   (.cons (.ite (.inn (.var 0) (.tup (.cons (.cStr [120]) (.cons (.cStr [88]) .nil))))
   (.cons (.ret (.cInt 16))
   .nil)
   .nil)
   (.cons (.ite (.inn (.var 0) (.tup (.cons (.cStr [111]) (.cons (.cStr [79]) .nil))))
   (.cons (.ret (.cInt 8))
   .nil)
   .nil)
   (.cons (.ite (.inn (.var 0) (.tup (.cons (.cStr [98]) (.cons (.cStr [66]) .nil))))
   (.cons (.ret (.cInt 2))
   .nil)
   .nil)
   (.cons (.ite (.inn (.var 0) (.tup (.cons (.cStr [100]) (.cons (.cStr [68]) .nil))))
   (.cons (.ret (.cInt 10))
   .nil)
   .nil)
   (.cons (.ret (.cInt 0))
   .nil)))))
noncomputable def Gh:SS:=
   (.cons (.swp 1 2 (.cInt 0) (.bf .len (.cons (.var 0) .nil)))
   (.cons (.whl (.and (.cmp .lt (.var 1) (.var 2)) (.call .is_blank (.cons (.idx (.var 0) (.var 1)) .nil)))
   (.cons (.aug 1 .add (.cInt 1))
   .nil))
   (.cons (.whl (.and (.cmp .lt (.var 1) (.var 2)) (.call .is_blank (.cons (.idx (.var 0) (.bin .sub (.var 2) (.cInt 1))) .nil)))
   (.cons (.aug 2 .sub (.cInt 1))
   .nil))
   (.cons (.asg 3 (.cBool false))
   (.cons (.ite (.and (.cmp .lt (.var 1) (.var 2)) (.inn (.idx (.var 0) (.var 1)) (.tup (.cons (.cStr [43]) (.cons (.cStr [45]) .nil)))))
   (.cons (.asg 3 (.cmp .eq (.idx (.var 0) (.var 1)) (.cStr [45])))
   (.cons (.aug 1 .add (.cInt 1))
   .nil))
   .nil)
   (.cons (.asg 4 (.cInt 0))
   (.cons (.ite (.and (.cmp .gt (.bin .sub (.var 2) (.var 1)) (.cInt 2)) (.cmp .eq (.idx (.var 0) (.var 1)) (.cStr [48])))
   (.cons (.asg 4 (.call .base_of (.cons (.idx (.var 0) (.bin .add (.var 1) (.cInt 1))) .nil)))
   .nil)
   .nil)
   (.cons (.ite (.cmp .gt (.var 4) (.cInt 0))
   (.cons (.asg 5 (.call .digits_value (.cons (.slc (.var 0) (.bin .add (.var 1) (.cInt 2)) (.var 2)) (.cons (.var 4) .nil))))
   .nil)
   (.cons (.asg 5 (.call .digits_value (.cons (.slc (.var 0) (.var 1) (.var 2)) (.cons (.cInt 10) .nil))))
   .nil))
   (.cons (.ite (.isN (.var 5))
   (.cons (.ret .cNone)
   .nil)
   .nil)
   (.cons (.ret (.ite (.var 3) (.neg (.var 5)) (.var 5)))
   .nil))))))))))
noncomputable def EM:SS:=
   (.cons (.asg 1 (.call .whole_of (.cons (.var 0) .nil)))
   (.cons (.ite (.isN (.var 1))
   (.cons (.raise (.call .error (.cons (.bin .add (.bin .add (.cStr [101,120,112,101,99,116,101,100,32,105,110,116,101,103,101,114,32,98,117,116,32,103,111,116,32,34]) (.var 0)) (.cStr [34])) (.cons (.tup (.cons (.cStr [84,67,76]) (.cons (.cStr [86,65,76,85,69]) (.cons (.cStr [78,85,77,66,69,82]) .nil)))) .nil))))
   .nil)
   .nil)
   (.cons (.ret (.var 1))
   .nil)))
noncomputable def DX:SS:=
   (.cons (.ite (.or (.cmp .ge (.var 1) (.bf .len (.cons (.var 0) .nil))) (.call .is_blank (.cons (.idx (.var 0) (.var 1)) .nil)))
   (.cons .ret0
   .nil)
   .nil)
   (.cons (.asg 3 (.var 1))
   (.cons (.whl (.and (.cmp .lt (.var 3) (.bf .len (.cons (.var 0) .nil))) (.and (.cmp .lt (.var 3) (.bin .add (.var 1) (.cInt 20))) (.not (.call .is_blank (.cons (.idx (.var 0) (.var 3)) .nil)))))
   (.cons (.aug 3 .add (.cInt 1))
   .nil))
   (.cons (.raise (.call .error (.cons (.bin .add (.bin .add (.bin .add (.bin .add (.cStr [108,105,115,116,32,101,108,101,109,101,110,116,32,105,110,32]) (.var 2)) (.cStr [32,102,111,108,108,111,119,101,100,32,98,121,32,34])) (.slc (.var 0) (.var 1) (.var 3))) (.cStr [34,32,105,110,115,116,101,97,100,32,111,102,32,115,112,97,99,101])) (.cons (.tup (.cons (.cStr [84,67,76]) (.cons (.cStr [86,65,76,85,69]) (.cons (.cStr [76,73,83,84]) (.cons (.cStr [74,85,78,75]) .nil))))) .nil))))
   .nil))))
noncomputable def Di:SS:=
   (.cons (.swp 2 3 (.cInt 1) (.var 1))
   (.cons (.whl (.cmp .lt (.var 3) (.bf .len (.cons (.var 0) .nil)))
   (.cons (.asg 4 (.idx (.var 0) (.var 3)))
   (.cons (.ite (.cmp .eq (.var 4) (.cStr [92]))
   (.cons (.aug 3 .add (.cInt 1))
   .nil)
   (.cons (.ite (.cmp .eq (.var 4) (.cStr [123]))
   (.cons (.aug 2 .add (.cInt 1))
   .nil)
   (.cons (.ite (.cmp .eq (.var 4) (.cStr [125]))
   (.cons (.aug 2 .sub (.cInt 1))
   (.cons (.ite (.cmp .eq (.var 2) (.cInt 0))
   (.cons (.expr (.call .check_behind (.cons (.var 0) (.cons (.bin .add (.var 3) (.cInt 1)) (.cons (.cStr [98,114,97,99,101,115]) .nil)))))
   (.cons (.ret (.tup (.cons (.slc (.var 0) (.var 1) (.var 3)) (.cons (.bin .add (.var 3) (.cInt 1)) .nil))))
   .nil))
   .nil)
   .nil))
   .nil)
   .nil))
   .nil))
   (.cons (.aug 3 .add (.cInt 1))
   .nil))))
   (.cons (.raise (.call .error (.cons (.cStr [117,110,109,97,116,99,104,101,100,32,111,112,101,110,32,98,114,97,99,101,32,105,110,32,108,105,115,116]) (.cons (.tup (.cons (.cStr [84,67,76]) (.cons (.cStr [86,65,76,85,69]) (.cons (.cStr [76,73,83,84]) (.cons (.cStr [66,82,65,67,69]) .nil))))) .nil))))
   .nil)))
noncomputable def Ec:SS:=
   (.cons (.asg 2 (.lst .nil))
   (.cons (.whl (.and (.cmp .lt (.var 1) (.bf .len (.cons (.var 0) .nil))) (.not (.call .is_blank (.cons (.idx (.var 0) (.var 1)) .nil))))
   (.cons (.asg 3 (.idx (.var 0) (.var 1)))
   (.cons (.ite (.cmp .eq (.var 3) (.cStr [92]))
   (.cons (.asg2 3 1 (.call .backslash (.cons (.var 0) (.cons (.var 1) .nil))))
   .nil)
   (.cons (.aug 1 .add (.cInt 1))
   .nil))
   (.cons (.expr (.bm .append (.var 2) (.cons (.var 3) .nil)))
   .nil))))
   (.cons (.ret (.tup (.cons (.bm .join (.cStr []) (.cons (.var 2) .nil)) (.cons (.var 1) .nil))))
   .nil)))
noncomputable def Eb:SS:=
   (.cons (.whl (.and (.cmp .lt (.var 1) (.bf .len (.cons (.var 0) .nil))) (.call .is_blank (.cons (.idx (.var 0) (.var 1)) .nil)))
   (.cons (.aug 1 .add (.cInt 1))
   .nil))
   (.cons (.ite (.cmp .ge (.var 1) (.bf .len (.cons (.var 0) .nil)))
   (.cons (.ret .cNone)
   .nil)
   .nil)
   (.cons (.ite (.cmp .eq (.idx (.var 0) (.var 1)) (.cStr [123]))
   (.cons (.ret (.call .braced_element (.cons (.var 0) (.cons (.bin .add (.var 1) (.cInt 1)) .nil))))
   .nil)
   .nil)
   (.cons (.ite (.cmp .eq (.idx (.var 0) (.var 1)) (.cStr [34]))
   (.cons (.ret (.call .quoted_element (.cons (.var 0) (.cons (.bin .add (.var 1) (.cInt 1)) .nil))))
   .nil)
   .nil)
   (.cons (.ret (.call .bare_element (.cons (.var 0) (.cons (.var 1) .nil))))
   .nil)))))
noncomputable def EI:SS:=
   (.cons (.asg 1 (.lst .nil))
   (.cons (.asg 2 (.call .find_element (.cons (.var 0) (.cons (.cInt 0) .nil))))
   (.cons (.whl (.isNN (.var 2))
   (.cons (.expr (.bm .append (.var 1) (.cons (.idx (.var 2) (.cInt 0)) .nil)))
   (.cons (.asg 2 (.call .find_element (.cons (.var 0) (.cons (.idx (.var 2) (.cInt 1)) .nil))))
   .nil)))
   (.cons (.ret (.var 1))
   .nil))))
noncomputable def HR:SS:=
   (.cons (.ite (.cmp .eq (.var 0) (.cStr []))
   (.cons (.ret (.cStr [98,114,97,99,101]))
   .nil)
   .nil)
   (.cons (.asg 2 (.idx (.var 0) (.cInt 0)))
   (.cons (.asg 3 (.inn (.var 2) (.tup (.cons (.cStr [123]) (.cons (.cStr [34]) .nil)))))
   (.cons (.asg 4 (.and (.var 1) (.cmp .eq (.var 2) (.cStr [35]))))
   (.cons (.asg 5 (.or (.var 3) (.var 4)))
   (.cons (.asg 6 (.cBool false))
   (.cons (.asg2 7 8 (.tup (.cons (.cInt 0) (.cons (.cInt 0) .nil))))
   (.cons (.whl (.cmp .lt (.var 8) (.bf .len (.cons (.var 0) .nil)))
   (.cons (.asg 9 (.idx (.var 0) (.var 8)))
   (.cons (.aug 8 .add (.cInt 1))
   (.cons (.ite (.cmp .eq (.var 9) (.cStr [123]))
   (.cons (.aug 7 .add (.cInt 1))
   .nil)
   (.cons (.ite (.cmp .eq (.var 9) (.cStr [125]))
   (.cons (.aug 7 .sub (.cInt 1))
   (.cons (.ite (.cmp .lt (.var 7) (.cInt 0))
   (.cons (.ret (.cStr [101,115,99,97,112,101]))
   .nil)
   .nil)
   .nil))
   (.cons (.ite (.inn (.var 9) (.tup (.cons (.cStr [93]) (.cons (.cStr [34]) .nil))))
   (.cons (.asg 3 (.cBool true))
   (.cons (.asg 6 (.cBool true))
   .nil))
   (.cons (.ite (.or (.inn (.var 9) (.tup (.cons (.cStr [91]) (.cons (.cStr [36]) (.cons (.cStr [59]) (.cons (.cStr [92]) .nil)))))) (.call .is_blank (.cons (.var 9) .nil)))
   (.cons (.asg 3 (.cBool true))
   (.cons (.asg 5 (.cBool true))
   (.cons (.ite (.cmp .eq (.var 9) (.cStr [92]))
   (.cons (.ite (.or (.cmp .eq (.var 8) (.bf .len (.cons (.var 0) .nil))) (.cmp .eq (.idx (.var 0) (.var 8)) (.cStr [10])))
   (.cons (.ret (.cStr [101,115,99,97,112,101]))
   .nil)
   .nil)
   (.cons (.ite (.inn (.idx (.var 0) (.var 8)) (.tup (.cons (.cStr [123]) (.cons (.cStr [125]) (.cons (.cStr [92]) .nil)))))
   (.cons (.aug 8 .add (.cInt 1))
   .nil)
   .nil)
   .nil))
   .nil)
   .nil)))
   .nil)
   .nil))
   .nil))
   .nil))
   .nil))))
   (.cons (.ite (.cmp .gt (.var 7) (.cInt 0))
   (.cons (.ret (.cStr [101,115,99,97,112,101]))
   .nil)
   .nil)
   (.cons (.ite (.var 3)
   (.cons (.ret (.ite (.and (.var 6) (.not (.var 5))) (.cStr [109,97,115,107]) (.cStr [98,114,97,99,101])))
   .nil)
   .nil)
   (.cons (.ret (.ite (.var 4) (.cStr [98,114,97,99,101]) (.cStr [110,111,110,101])))
   .nil)))))))))))
noncomputable def Lj:SS:=
   (.cons (.asg 2 (.call .mode_of (.cons (.var 0) (.cons (.var 1) .nil))))
   (.cons (.ite (.cmp .eq (.var 2) (.cStr [110,111,110,101]))
   (.cons (.ret (.var 0))
   .nil)
   .nil)
   (.cons (.ite (.cmp .eq (.var 2) (.cStr [98,114,97,99,101]))
   (.cons (.ret (.bin .add (.bin .add (.cStr [123]) (.var 0)) (.cStr [125])))
   .nil)
   .nil)
   (.cons (.asg 3 (.lst .nil))
   (.cons (.ite (.and (.var 1) (.cmp .eq (.idx (.var 0) (.cInt 0)) (.cStr [35])))
   (.cons (.expr (.bm .append (.var 3) (.cons (.cStr [92]) .nil)))
   .nil)
   .nil)
   (.cons (.for1 4 (.var 0)
   (.cons (.expr (.bm .append (.var 3) (.cons (.call .escaped (.cons (.var 4) (.cons (.cmp .eq (.var 2) (.cStr [101,115,99,97,112,101])) .nil))) .nil)))
   .nil))
   (.cons (.ret (.bm .join (.cStr []) (.cons (.var 3) .nil)))
   .nil)))))))
noncomputable def F3:SS:=
   (.cons (.asg 1 (.lst .nil))
   (.cons (.for1 2 (.var 0)
   (.cons (.expr (.bm .append (.var 1) (.cons (.call .quote (.cons (.var 2) (.cons (.cmp .eq (.bf .len (.cons (.var 1) .nil)) (.cInt 0)) .nil))) .nil)))
   .nil))
   (.cons (.ret (.bm .join (.cStr [32]) (.cons (.var 1) .nil)))
   .nil)))
noncomputable def EJ:SS:=
   (.cons (.asg 1 (.attr (.var 0) [118,97,108,117,101]))
   (.cons (.ite (.bm .startswith (.var 1) (.cons (.cStr [108,105,115,116,32]) .nil))
   (.cons (.asg 1 (.bin .add (.cStr [100,105,99,116]) (.slc (.var 1) (.cInt 4) .no)))
   .nil)
   (.cons (.ite (.bm .endswith (.var 1) (.cons (.cStr [32,108,105,115,116]) .nil))
   (.cons (.asg 1 (.bin .add (.slc (.var 1) .no (.neg (.cInt 4))) (.cStr [100,105,99,116])))
   .nil)
   .nil)
   .nil))
   (.cons (.ret (.call .error (.cons (.var 1) (.cons (.tup (.cons (.cStr [84,67,76]) (.cons (.cStr [86,65,76,85,69]) (.cons (.cStr [68,73,67,84,73,79,78,65,82,89]) (.cons (.idx (.attr (.var 0) [101,114,114,111,114,99,111,100,101]) (.cInt 3)) .nil))))) .nil))))
   .nil)))
noncomputable def GF:SS:=
   (.cons (.try1 (.cons (.asg 1 (.call .split_list (.cons (.var 0) .nil)))
   .nil)
   2
   (.cons (.raise (.call .dict_fault (.cons (.var 2) .nil)))
   .nil))
   (.cons (.ite (.cmp .eq (.bin .mod (.bf .len (.cons (.var 1) .nil)) (.cInt 2)) (.cInt 1))
   (.cons (.raise (.call .error (.cons (.cStr [109,105,115,115,105,110,103,32,118,97,108,117,101,32,116,111,32,103,111,32,119,105,116,104,32,107,101,121]) (.cons (.tup (.cons (.cStr [84,67,76]) (.cons (.cStr [86,65,76,85,69]) (.cons (.cStr [68,73,67,84,73,79,78,65,82,89]) .nil)))) .nil))))
   .nil)
   .nil)
   (.cons (.asg 3 .dct0)
   (.cons (.for1 4 (.bf .range (.cons (.cInt 0) (.cons (.bf .len (.cons (.var 1) .nil)) (.cons (.cInt 2) .nil))))
   (.cons (.setI (.var 3) (.idx (.var 1) (.var 4)) (.idx (.var 1) (.bin .add (.var 4) (.cInt 1))))
   .nil))
   (.cons (.ret (.var 3))
   .nil)))))
noncomputable def DW:SS:=
   (.cons (.asg 1 (.lst .nil))
   (.cons (.for1 2 (.var 0)
   (.cons (.expr (.bm .append (.var 1) (.cons (.var 2) .nil)))
   (.cons (.expr (.bm .append (.var 1) (.cons (.idx (.var 0) (.var 2)) .nil)))
   .nil)))
   (.cons (.ret (.call .join_list (.cons (.var 1) .nil)))
   .nil)))
noncomputable def En:SS:=
   (.cons (.ret (.call .error (.cons (.bin .add (.bin .add (.cStr [107,101,121,32,34]) (.var 0)) (.cStr [34,32,110,111,116,32,107,110,111,119,110,32,105,110,32,100,105,99,116,105,111,110,97,114,121])) (.cons (.tup (.cons (.cStr [84,67,76]) (.cons (.cStr [76,79,79,75,85,80]) (.cons (.cStr [68,73,67,84]) (.cons (.var 0) .nil))))) .nil))))
   .nil)
noncomputable def Fk:SS:=
   (.cons (.asg 2 (.lst (.cons (.call .dict_of (.cons (.var 0) .nil)) .nil)))
   (.cons (.for1 3 (.var 1)
   (.cons (.asg 4 (.idx (.var 2) (.neg (.cInt 1))))
   (.cons (.ite (.nin (.var 3) (.var 4))
   (.cons (.ret (.var 2))
   .nil)
   .nil)
   (.cons (.expr (.bm .append (.var 2) (.cons (.call .dict_of (.cons (.idx (.var 4) (.var 3)) .nil)) .nil)))
   .nil))))
   (.cons (.ret (.var 2))
   .nil)))
noncomputable def EE:SS:=
   (.cons (.for1 2 (.bf .range (.cons (.bin .sub (.bf .len (.cons (.var 0) .nil)) (.cInt 1)) (.cons (.cInt 0) (.cons (.neg (.cInt 1)) .nil))))
   (.cons (.setI (.idx (.var 0) (.bin .sub (.var 2) (.cInt 1))) (.idx (.var 1) (.bin .sub (.var 2) (.cInt 1))) (.call .text_of_dict (.cons (.idx (.var 0) (.var 2)) .nil)))
   .nil))
   (.cons (.ret (.call .text_of_dict (.cons (.idx (.var 0) (.cInt 0)) .nil)))
   .nil))
noncomputable def Gk:SS:=
   (.cons (.asg 3 (.call .open_path (.cons (.var 0) (.cons (.slc (.var 1) .no (.neg (.cInt 1))) .nil))))
   (.cons (.whl (.cmp .lt (.bf .len (.cons (.var 3) .nil)) (.bf .len (.cons (.var 1) .nil)))
   (.cons (.expr (.bm .append (.var 3) (.cons .dct0 .nil)))
   .nil))
   (.cons (.setI (.idx (.var 3) (.neg (.cInt 1))) (.idx (.var 1) (.neg (.cInt 1))) (.var 2))
   (.cons (.ret (.call .close_path (.cons (.var 3) (.cons (.var 1) .nil))))
   .nil))))
noncomputable def EK:SS:=
   (.cons (.asg 2 (.call .open_path (.cons (.var 0) (.cons (.slc (.var 1) .no (.neg (.cInt 1))) .nil))))
   (.cons (.ite (.cmp .lt (.bf .len (.cons (.var 2) .nil)) (.bf .len (.cons (.var 1) .nil)))
   (.cons (.raise (.call .unknown_key (.cons (.idx (.var 1) (.bin .sub (.bf .len (.cons (.var 2) .nil)) (.cInt 1))) .nil)))
   .nil)
   .nil)
   (.cons (.expr (.bm .pop (.idx (.var 2) (.neg (.cInt 1))) (.cons (.idx (.var 1) (.neg (.cInt 1))) (.cons .cNone .nil))))
   (.cons (.ret (.call .close_path (.cons (.var 2) (.cons (.var 1) .nil))))
   .nil))))
noncomputable def Gg:SS:=
   (.cons (.try0 (.cons (.ret (.meth .sh_read [114,101,97,100] (.var 0) (.cons (.var 1) .nil)))
   .nil)
   (.cons (.ret .cNone)
   .nil))
   .nil)
noncomputable def Hw:SS:=
   (.cons (.asg 2 (.call .value_of (.cons (.var 0) (.cons (.var 1) .nil))))
   (.cons (.ite (.isN (.var 2))
   (.cons (.ret (.cStr []))
   .nil)
   .nil)
   (.cons (.ret (.var 2))
   .nil)))
noncomputable def CO:SS:=
   (.cons (.ite (.cmp .lt (.bf .len (.cons (.var 1) .nil)) (.cInt 4))
   (.cons (.raise (.call .wrong_args (.cons (.cStr [100,105,99,116,32,97,112,112,101,110,100,32,100,105,99,116,86,97,114,78,97,109,101,32,107,101,121,32,63,118,97,108,117,101,32,46,46,46,63]) .nil)))
   .nil)
   .nil)
   (.cons (.asg 2 (.call .text_in (.cons (.var 0) (.cons (.idx (.var 1) (.cInt 2)) .nil))))
   (.cons (.asg 3 (.call .dict_of (.cons (.var 2) .nil)))
   (.cons (.asg 4 (.idx (.var 1) (.cInt 3)))
   (.cons (.ite (.or (.cmp .gt (.bf .len (.cons (.var 1) .nil)) (.cInt 4)) (.nin (.var 4) (.var 3)))
   (.cons (.setI (.var 3) (.var 4) (.bin .add (.bm .get (.var 3) (.cons (.var 4) (.cons (.cStr []) .nil))) (.bm .join (.cStr []) (.cons (.slc (.var 1) (.cInt 4) .no) .nil))))
   (.cons (.asg 2 (.call .text_of_dict (.cons (.var 3) .nil)))
   .nil))
   .nil)
   (.cons (.ret (.meth .sh_write [119,114,105,116,101] (.var 0) (.cons (.idx (.var 1) (.cInt 2)) (.cons (.var 2) .nil))))
   .nil))))))
noncomputable def C5:SS:=
   (.cons (.ite (.cmp .lt (.bf .len (.cons (.var 1) .nil)) (.cInt 4))
   (.cons (.raise (.call .wrong_args (.cons (.cStr [100,105,99,116,32,108,97,112,112,101,110,100,32,100,105,99,116,86,97,114,78,97,109,101,32,107,101,121,32,63,118,97,108,117,101,32,46,46,46,63]) .nil)))
   .nil)
   .nil)
   (.cons (.asg 2 (.call .dict_of (.cons (.call .text_in (.cons (.var 0) (.cons (.idx (.var 1) (.cInt 2)) .nil))) .nil)))
   (.cons (.asg 3 (.idx (.var 1) (.cInt 3)))
   (.cons (.ite (.nin (.var 3) (.var 2))
   (.cons (.setI (.var 2) (.var 3) (.call .join_list (.cons (.slc (.var 1) (.cInt 4) .no) .nil)))
   .nil)
   (.cons (.ite (.cmp .gt (.bf .len (.cons (.var 1) .nil)) (.cInt 4))
   (.cons (.setI (.var 2) (.var 3) (.call .join_list (.cons (.bin .add (.call .split_list (.cons (.idx (.var 2) (.var 3)) .nil)) (.slc (.var 1) (.cInt 4) .no)) .nil)))
   .nil)
   .nil)
   .nil))
   (.cons (.ret (.meth .sh_write [119,114,105,116,101] (.var 0) (.cons (.idx (.var 1) (.cInt 2)) (.cons (.call .text_of_dict (.cons (.var 2) .nil)) .nil))))
   .nil)))))
noncomputable def DF:SS:=
   (.cons (.ite (.nin (.bf .len (.cons (.var 1) .nil)) (.tup (.cons (.cInt 4) (.cons (.cInt 5) .nil))))
   (.cons (.raise (.call .wrong_args (.cons (.cStr [100,105,99,116,32,105,110,99,114,32,100,105,99,116,86,97,114,78,97,109,101,32,107,101,121,32,63,105,110,99,114,101,109,101,110,116,63]) .nil)))
   .nil)
   .nil)
   (.cons (.asg 2 (.call .dict_of (.cons (.call .text_in (.cons (.var 0) (.cons (.idx (.var 1) (.cInt 2)) .nil))) .nil)))
   (.cons (.asg 3 (.idx (.var 1) (.cInt 3)))
   (.cons (.asg 4 (.cStr [49]))
   (.cons (.ite (.cmp .eq (.bf .len (.cons (.var 1) .nil)) (.cInt 5))
   (.cons (.asg 4 (.idx (.var 1) (.cInt 4)))
   .nil)
   .nil)
   (.cons (.ite (.inn (.var 3) (.var 2))
   (.cons (.asg 5 (.call .need_whole (.cons (.idx (.var 2) (.var 3)) .nil)))
   (.cons (.setI (.var 2) (.var 3) (.bf .str (.cons (.bin .add (.var 5) (.call .need_whole (.cons (.var 4) .nil))) .nil)))
   .nil))
   (.cons (.expr (.call .need_whole (.cons (.var 4) .nil)))
   (.cons (.setI (.var 2) (.var 3) (.var 4))
   .nil)))
   (.cons (.ret (.meth .sh_write [119,114,105,116,101] (.var 0) (.cons (.idx (.var 1) (.cInt 2)) (.cons (.call .text_of_dict (.cons (.var 2) .nil)) .nil))))
   .nil)))))))
noncomputable def E6:SS:=
   (.cons (.ite (.cmp .lt (.bf .len (.cons (.var 1) .nil)) (.cInt 5))
   (.cons (.raise (.call .wrong_args (.cons (.cStr [100,105,99,116,32,115,101,116,32,100,105,99,116,86,97,114,78,97,109,101,32,107,101,121,32,63,107,101,121,32,46,46,46,63,32,118,97,108,117,101]) .nil)))
   .nil)
   .nil)
   (.cons (.ret (.meth .sh_write [119,114,105,116,101] (.var 0) (.cons (.idx (.var 1) (.cInt 2)) (.cons (.call .set_path (.cons (.call .text_in (.cons (.var 0) (.cons (.idx (.var 1) (.cInt 2)) .nil))) (.cons (.slc (.var 1) (.cInt 3) (.neg (.cInt 1))) (.cons (.idx (.var 1) (.neg (.cInt 1))) .nil)))) .nil))))
   .nil))
noncomputable def Dt:SS:=
   (.cons (.ite (.cmp .lt (.bf .len (.cons (.var 1) .nil)) (.cInt 4))
   (.cons (.raise (.call .wrong_args (.cons (.cStr [100,105,99,116,32,117,110,115,101,116,32,100,105,99,116,86,97,114,78,97,109,101,32,107,101,121,32,63,107,101,121,32,46,46,46,63]) .nil)))
   .nil)
   .nil)
   (.cons (.ret (.meth .sh_write [119,114,105,116,101] (.var 0) (.cons (.idx (.var 1) (.cInt 2)) (.cons (.call .unset_path (.cons (.call .text_in (.cons (.var 0) (.cons (.idx (.var 1) (.cInt 2)) .nil))) (.cons (.slc (.var 1) (.cInt 3) .no) .nil))) .nil))))
   .nil))
noncomputable def Gv:SS:=
   (.cons (.setA (.var 0) [107,105,110,100] (.cStr [110,111,110,101]))
   (.cons (.setA (.var 0) [118,97,108,117,101] (.cStr []))
   (.cons (.setA (.var 0) [116,114,97,99,101,115] (.lst .nil))
   (.cons (.setA (.var 0) [105,115,95,98,117,115,121] (.cBool false))
   (.cons (.setA (.var 0) [105,115,95,101,108,101,109,101,110,116] (.cBool false))
   (.cons (.setA (.var 0) [119,114,105,116,101,115] (.cInt 0))
   .nil))))))
noncomputable def Fu:SS:=
   (.cons (.setA (.var 0) [116,111,111,108,115] .dct0)
   (.cons (.setA (.var 0) [105,110,108,105,110,101] .dct0)
   (.cons (.setA (.var 0) [108,105,109,105,116] (.var 1))
   (.cons (.setA (.var 0) [102,117,101,108] (.var 2))
   (.cons (.setA (.var 0) [100,101,112,116,104] (.cInt 0))
   (.cons (.setA (.var 0) [115,112,101,110,116] (.cInt 0))
   (.cons (.setA (.var 0) [101,112,111,99,104] (.cInt 0))
   (.cons (.setA (.var 0) [102,114,97,109,101] .cNone)
   (.cons (.setA (.var 0) [99,111,114,111,117,116,105,110,101] .cNone)
   .nil)))))))))
noncomputable def El:SS:=
   (.cons (.asg 2 (.bin .add (.bin .add (.bin .add (.bin .add (.cStr [99,97,110,39,116,32]) (.var 0)) (.cStr [32,34])) (.var 1)) (.cStr [34,58,32,110,111,32,115,117,99,104,32,118,97,114,105,97,98,108,101])))
   (.cons (.ret (.call .error (.cons (.var 2) (.cons (.tup (.cons (.cStr [84,67,76]) (.cons (.cStr [76,79,79,75,85,80]) (.cons (.cStr [86,65,82,78,65,77,69]) (.cons (.var 1) .nil))))) .nil))))
   .nil))
noncomputable def Jc:SS:=
   (.cons (.ite (.nin (.var 1) (.var 0))
   (.cons (.setI (.var 0) (.var 1) (.new .var .var_init .nil))
   .nil)
   .nil)
   (.cons (.ret (.idx (.var 0) (.var 1)))
   .nil))
noncomputable def Fd:SS:=
   (.cons (.setA (.var 0) [107,105,110,100] (.var 1))
   (.cons (.setA (.var 0) [118,97,108,117,101] (.var 2))
   (.cons (.augA (.var 0) [119,114,105,116,101,115] .add (.cInt 1))
   (.cons (.ret (.var 2))
   .nil))))
noncomputable def Hd:SS:=
   (.cons (.expr (.clsm .host_init (.cons (.var 0) (.cons (.var 1) (.cons (.var 2) .nil)))))
   (.cons (.setA (.var 0) [118,97,114,115] .dct0)
   (.cons (.setA (.var 0) [99,111,109,109,97,110,100,115] .dct0)
   (.cons (.setA (.var 0) [102,105,114,115,116,115] .dct0)
   .nil))))
noncomputable def I7:SS:=
   (.cons (.ret (.and (.inn (.var 1) (.attr (.var 0) [118,97,114,115])) (.cmp .ne (.attr (.idx (.attr (.var 0) [118,97,114,115]) (.var 1)) [107,105,110,100]) (.cStr [110,111,110,101]))))
   .nil)
noncomputable def Gf:SS:=
   (.cons (.ret (.call .var_in (.cons (.attr (.var 0) [118,97,114,115]) (.cons (.var 1) .nil))))
   .nil)
noncomputable def Ep:SS:=
   (.cons (.ite (.cmp .eq (.attr (.var 1) [107,105,110,100]) (.cStr [110,111,110,101]))
   (.cons (.raise (.call .no_variable (.cons (.cStr [114,101,97,100]) (.cons (.var 2) .nil))))
   .nil)
   .nil)
   (.cons (.ret (.attr (.var 1) [118,97,108,117,101]))
   .nil))
noncomputable def Ed:SS:=
   (.cons (.ret (.call .put_value (.cons (.var 1) (.cons (.cStr [115,99,97,108,97,114]) (.cons (.var 3) .nil)))))
   .nil)
noncomputable def HK:SS:=
   (.cons (.ret (.meth .sh_read_var [114,101,97,100,95,118,97,114] (.var 0) (.cons (.meth .sh_place [112,108,97,99,101] (.var 0) (.cons (.var 1) .nil)) (.cons (.var 1) .nil))))
   .nil)
noncomputable def Gy:SS:=
   (.cons (.ret (.meth .sh_write_var [119,114,105,116,101,95,118,97,114] (.var 0) (.cons (.meth .sh_place [112,108,97,99,101] (.var 0) (.cons (.var 1) .nil)) (.cons (.var 1) (.cons (.var 2) .nil)))))
   .nil)
noncomputable def Ga:SS:=
   (.cons (.ret (.attr (.meth .sh_place [112,108,97,99,101] (.var 0) (.cons (.var 1) .nil)) [119,114,105,116,101,115]))
   .nil)
noncomputable def I1:SS:=
   (.cons (.ret (.lst (.cons (.cStr [97]) (.cons (.cStr [98]) (.cons (.cStr [35]) (.cons (.cStr [97,32,98]) (.cons (.cStr []) .nil)))))))
   .nil)
noncomputable def Gj:SS:=
   (.cons (.ret (.lst (.cons (.cStr [55]) (.cons (.cStr []) (.cons (.cStr [32,45,55,32]) (.cons (.cStr [48,120,49,102]) (.cons (.cStr [97]) (.cons (.cStr [123,97,125]) (.cons (.cStr [123,97,125,122]) (.cons (.cStr [35]) (.cons (.cStr [97,32,98]) (.cons (.cStr [97,32,123,98,32,55,125]) (.cons (.cStr [48,55]) (.cons (.cStr [43,51]) .nil))))))))))))))
   .nil)
noncomputable def Hc:SS:=
   (.cons (.ret (.lst (.cons (.cStr [55]) (.cons (.cStr []) (.cons (.cStr [45]) (.cons (.cStr [48,120]) (.cons (.cStr [97]) (.cons (.cStr [32]) (.cons (.cStr [123,97,125]) (.cons (.cStr [123,125]) (.cons (.cStr [35]) (.cons (.cStr [97,32,98]) (.cons (.cStr [97,32,123,98,32,55,125]) (.cons (.cStr [45,49,50]) .nil))))))))))))))
   .nil)
noncomputable def GS:SS:=
   (.cons (.asg 1 (.cInt 0))
   (.cons (.for1 2 (.bf .range (.cons (.bf .len (.cons (.var 0) .nil)) .nil))
   (.cons (.ite (.cmp .eq (.idx (.var 0) (.var 2)) (.cStr [123]))
   (.cons (.aug 1 .add (.cInt 1))
   .nil)
   (.cons (.ite (.cmp .eq (.idx (.var 0) (.var 2)) (.cStr [125]))
   (.cons (.aug 1 .sub (.cInt 1))
   .nil)
   .nil)
   .nil))
   (.cons (.ite (.cmp .eq (.var 1) (.cInt 0))
   (.cons (.ret (.bin .add (.var 2) (.cInt 1)))
   .nil)
   .nil)
   .nil)))
   (.cons (.ret (.cInt 0))
   .nil)))
noncomputable def IF:SS:=
   (.cons (.asg 1 (.lst .nil))
   (.cons (.asg 2 (.bm .strip (.var 0) (.cons (.cStr [32]) .nil)))
   (.cons (.whl (.cmp .ne (.var 2) (.cStr []))
   (.cons (.ite (.cmp .eq (.idx (.var 2) (.cInt 0)) (.cStr [123]))
   (.cons (.asg 3 (.call .l_close (.cons (.var 2) .nil)))
   (.cons (.ite (.cmp .eq (.var 3) (.cInt 0))
   (.cons (.ret (.tup (.cons (.cStr [117,110,109,97,116,99,104,101,100,32,111,112,101,110,32,98,114,97,99,101,32,105,110,32]) (.cons (.cStr []) (.cons (.cStr [66,82,65,67,69]) .nil)))))
   .nil)
   .nil)
   (.cons (.asg 4 (.idx (.bm .split (.slc (.var 2) (.var 3) .no) (.cons (.cStr [32]) .nil)) (.cInt 0)))
   (.cons (.ite (.cmp .ne (.var 4) (.cStr []))
   (.cons (.ret (.tup (.cons (.cStr []) (.cons (.bin .add (.bin .add (.cStr [32,101,108,101,109,101,110,116,32,105,110,32,98,114,97,99,101,115,32,102,111,108,108,111,119,101,100,32,98,121,32,34]) (.slc (.var 4) .no (.cInt 20))) (.cStr [34,32,105,110,115,116,101,97,100,32,111,102,32,115,112,97,99,101])) (.cons (.cStr [74,85,78,75]) .nil)))))
   .nil)
   .nil)
   (.cons (.expr (.bm .append (.var 1) (.cons (.slc (.var 2) (.cInt 1) (.bin .sub (.var 3) (.cInt 1))) .nil)))
   .nil)))))
   (.cons (.asg 3 (.bf .len (.cons (.idx (.bm .split (.var 2) (.cons (.cStr [32]) .nil)) (.cInt 0)) .nil)))
   (.cons (.expr (.bm .append (.var 1) (.cons (.slc (.var 2) .no (.var 3)) .nil)))
   .nil)))
   (.cons (.asg 2 (.bm .lstrip (.slc (.var 2) (.var 3) .no) (.cons (.cStr [32]) .nil)))
   .nil)))
   (.cons (.ret (.var 1))
   .nil))))
noncomputable def IQ:SS:=
   (.cons (.ite (.or (.cmp .eq (.var 0) (.cStr [])) (.or (.inn (.cStr [32]) (.var 0)) (.or (.cmp .eq (.idx (.var 0) (.cInt 0)) (.cStr [123])) (.and (.var 1) (.cmp .eq (.idx (.var 0) (.cInt 0)) (.cStr [35]))))))
   (.cons (.ret (.bin .add (.bin .add (.cStr [123]) (.var 0)) (.cStr [125])))
   .nil)
   .nil)
   (.cons (.ret (.var 0))
   .nil))
noncomputable def Ja:SS:=
   (.cons (.ret (.bm .join (.cStr [32]) (.cons (.comp 1 (.call .l_form (.cons (.idx (.var 1) (.var 0)) (.cons (.cmp .eq (.var 0) (.cInt 0)) .nil))) (.cBool true) (.bf .range (.cons (.bf .len (.cons (.var 0) .nil)) .nil)) [0]) .nil)))
   .nil)
noncomputable def KN:SS:=
   (.cons (.ite (.inn (.var 1) (.comp 2 (.var 0) (.cBool true) (.var 0) []))
   (.cons (.ret (.comp 2 (.tup (.cons (.var 0) (.cons (.ite (.cmp .eq (.var 0) (.var 3)) (.var 2) (.var 1)) .nil))) (.cBool true) (.var 0) [2,1]))
   .nil)
   .nil)
   (.cons (.ret (.bin .add (.var 0) (.lst (.cons (.tup (.cons (.var 1) (.cons (.var 2) .nil))) .nil))))
   .nil))
noncomputable def MC:SS:=
   (.cons (.for2 2 3 (.var 0)
   (.cons (.ite (.cmp .eq (.var 2) (.var 1))
   (.cons (.ret (.var 3))
   .nil)
   .nil)
   .nil))
   (.cons (.ret .cNone)
   .nil))
noncomputable def HN:SS:=
   (.cons (.asg 1 (.call .l_list (.cons (.var 0) .nil)))
   (.cons (.ite (.isT (.var 1))
   (.cons (.ret (.tup (.cons (.cInt 1) (.cons (.bin .add (.bin .add (.idx (.var 1) (.cInt 0)) (.cStr [100,105,99,116])) (.idx (.var 1) (.cInt 1))) (.cons (.tup (.cons (.cStr [84,67,76]) (.cons (.cStr [86,65,76,85,69]) (.cons (.cStr [68,73,67,84,73,79,78,65,82,89]) (.cons (.idx (.var 1) (.cInt 2)) .nil))))) .nil)))))
   .nil)
   .nil)
   (.cons (.ite (.cmp .eq (.bin .mod (.bf .len (.cons (.var 1) .nil)) (.cInt 2)) (.cInt 1))
   (.cons (.ret (.tup (.cons (.cInt 1) (.cons (.cStr [109,105,115,115,105,110,103,32,118,97,108,117,101,32,116,111,32,103,111,32,119,105,116,104,32,107,101,121]) (.cons (.tup (.cons (.cStr [84,67,76]) (.cons (.cStr [86,65,76,85,69]) (.cons (.cStr [68,73,67,84,73,79,78,65,82,89]) .nil)))) .nil)))))
   .nil)
   .nil)
   (.cons (.asg 2 (.lst .nil))
   (.cons (.for1 3 (.bf .range (.cons (.cInt 0) (.cons (.bf .len (.cons (.var 1) .nil)) (.cons (.cInt 2) .nil))))
   (.cons (.asg 2 (.call .l_put (.cons (.var 2) (.cons (.idx (.var 1) (.var 3)) (.cons (.idx (.var 1) (.bin .add (.var 3) (.cInt 1))) .nil)))))
   .nil))
   (.cons (.ret (.var 2))
   .nil))))))
noncomputable def IN:SS:=
   (.cons (.asg 1 (.lst .nil))
   (.cons (.for2 2 3 (.var 0)
   (.cons (.expr (.bm .append (.var 1) (.cons (.var 2) .nil)))
   (.cons (.expr (.bm .append (.var 1) (.cons (.var 3) .nil)))
   .nil)))
   (.cons (.ret (.call .l_text (.cons (.var 1) .nil)))
   .nil)))
noncomputable def GZ:SS:=
   (.cons (.asg 1 (.bm .strip (.var 0) (.cons (.cStr [32]) .nil)))
   (.cons (.asg 2 (.cInt 1))
   (.cons (.ite (.inn (.slc (.var 1) .no (.cInt 1)) (.lst (.cons (.cStr [43]) (.cons (.cStr [45]) .nil))))
   (.cons (.asg 2 (.ite (.cmp .eq (.idx (.var 1) (.cInt 0)) (.cStr [45])) (.neg (.cInt 1)) (.cInt 1)))
   (.cons (.asg 1 (.slc (.var 1) (.cInt 1) .no))
   .nil))
   .nil)
   (.cons (.asg 3 (.cStr [48,49,50,51,52,53,54,55,56,57]))
   (.cons (.ite (.and (.cmp .eq (.slc (.var 1) .no (.cInt 2)) (.cStr [48,120])) (.cmp .gt (.bf .len (.cons (.var 1) .nil)) (.cInt 2)))
   (.cons (.asg 3 (.cStr [48,49,50,51,52,53,54,55,56,57,97,98,99,100,101,102]))
   (.cons (.asg 1 (.slc (.var 1) (.cInt 2) .no))
   .nil))
   .nil)
   (.cons (.ite (.cmp .eq (.var 1) (.cStr []))
   (.cons (.ret .cNone)
   .nil)
   .nil)
   (.cons (.asg 4 (.cInt 0))
   (.cons (.for1 5 (.var 1)
   (.cons (.ite (.nin (.var 5) (.var 3))
   (.cons (.ret .cNone)
   .nil)
   .nil)
   (.cons (.asg 4 (.bin .add (.bin .mul (.var 4) (.bf .len (.cons (.var 3) .nil))) (.bm .index (.var 3) (.cons (.var 5) .nil))))
   .nil)))
   (.cons (.ret (.bin .mul (.var 2) (.var 4)))
   .nil)))))))))
noncomputable def GU:SS:=
   (.cons (.asg 1 (.bin .mod (.var 0) (.cInt 8)))
   (.cons (.ite (.cmp .eq (.var 1) (.cInt 0))
   (.cons (.ret .cNone)
   .nil)
   .nil)
   (.cons (.ite (.cmp .lt (.var 1) (.cInt 4))
   (.cons (.ret (.idx (.lst (.cons (.cStr [97,32,55,32,98]) (.cons (.cStr [123,97,125,122,32,55]) (.cons (.cStr [123,97,32,55]) .nil)))) (.bin .sub (.var 1) (.cInt 1))))
   .nil)
   .nil)
   (.cons (.asg 2 (.lst .nil))
   (.cons (.asg 3 (.bin .fdiv (.var 0) (.cInt 64)))
   (.cons (.for1 4 (.bf .range (.cons (.bin .mod (.bin .fdiv (.var 0) (.cInt 8)) (.cInt 4)) .nil))
   (.cons (.expr (.bm .append (.var 2) (.cons (.idx (.call .l_keys .nil) (.bin .mod (.var 3) (.cInt 5))) .nil)))
   (.cons (.expr (.bm .append (.var 2) (.cons (.idx (.call .l_values .nil) (.bin .mod (.var 3) (.cInt 12))) .nil)))
   (.cons (.asg 3 (.bin .fdiv (.var 3) (.cInt 60)))
   .nil))))
   (.cons (.ite (.cmp .eq (.bin .mod (.bin .fdiv (.var 0) (.cInt 32)) (.cInt 2)) (.cInt 1))
   (.cons (.ret (.bin .add (.cStr [32]) (.bm .join (.cStr [32,32]) (.cons (.comp 1 (.bin .add (.bin .add (.cStr [123]) (.var 0)) (.cStr [125])) (.cBool true) (.var 2) []) .nil))))
   .nil)
   .nil)
   (.cons (.ret (.call .l_text (.cons (.var 2) .nil)))
   .nil))))))))
noncomputable def FX:SS:=
   (.cons (.ite (.cmp .ge (.bin .add (.var 1) (.cInt 2)) (.bf .len (.cons (.var 0) .nil)))
   (.cons (.ret (.idx (.lst (.cons (.tup (.cons (.cStr [97,112,112,101,110,100]) (.cons (.lst (.cons (.cStr [100]) (.cons (.cStr [97]) .nil))) .nil))) (.cons (.tup (.cons (.cStr [105,110,99,114]) (.cons (.lst (.cons (.cStr [100]) (.cons (.cStr [97]) (.cons (.cStr [45,49,50]) .nil)))) .nil))) (.cons (.tup (.cons (.cStr [108,97,112,112,101,110,100]) (.cons (.lst (.cons (.cStr [100]) (.cons (.cStr [98]) (.cons (.cStr [97,32,98]) .nil)))) .nil))) (.cons (.tup (.cons (.cStr [108,97,112,112,101,110,100]) (.cons (.lst (.cons (.cStr [100]) (.cons (.cStr [35]) (.cons (.cStr []) (.cons (.cStr [55]) .nil))))) .nil))) (.cons (.tup (.cons (.cStr [97,112,112,101,110,100]) (.cons (.lst (.cons (.cStr [101]) (.cons (.cStr []) (.cons (.cStr [123,97,125]) (.cons (.cStr [35]) .nil))))) .nil))) (.cons (.tup (.cons (.cStr [115,101,116]) (.cons (.lst (.cons (.cStr [101]) (.cons (.cStr [97,32,98]) (.cons (.cStr [98]) (.cons (.cStr [55]) .nil))))) .nil))) (.cons (.tup (.cons (.cStr [105,110,99,114]) (.cons (.lst (.cons (.cStr [100]) (.cons (.cStr [98]) (.cons (.cStr [122]) .nil)))) .nil))) (.cons (.tup (.cons (.cStr [117,110,115,101,116]) (.cons (.lst (.cons (.cStr [101]) (.cons (.cStr [97,32,98]) (.cons (.cStr [35]) .nil)))) .nil))) .nil))))))))) (.var 1)))
   .nil)
   .nil)
   (.cons (.asg 2 (.idx (.var 0) (.bin .add (.var 1) (.cInt 2))))
   (.cons (.asg 3 (.idx (.lst (.cons (.cStr [97,112,112,101,110,100]) (.cons (.cStr [108,97,112,112,101,110,100]) (.cons (.cStr [105,110,99,114]) (.cons (.cStr [115,101,116]) (.cons (.cStr [117,110,115,101,116]) .nil)))))) (.bin .mod (.var 2) (.cInt 5))))
   (.cons (.asg 4 (.bin .mod (.bin .fdiv (.var 2) (.cInt 10)) (.cInt 5)))
   (.cons (.asg 5 (.bin .fdiv (.var 2) (.cInt 50)))
   (.cons (.asg 6 (.lst (.cons (.ite (.cmp .eq (.bin .mod (.bin .fdiv (.var 2) (.cInt 5)) (.cInt 2)) (.cInt 0)) (.cStr [100]) (.cStr [101])) .nil)))
   (.cons (.for1 7 (.bf .range (.cons (.cInt 4) .nil))
   (.cons (.expr (.bm .append (.var 6) (.cons (.ite (.or (.inn (.var 3) (.lst (.cons (.cStr [115,101,116]) (.cons (.cStr [117,110,115,101,116]) .nil)))) (.cmp .eq (.bf .len (.cons (.var 6) .nil)) (.cInt 1))) (.idx (.call .l_keys .nil) (.bin .mod (.var 5) (.cInt 5))) (.idx (.call .l_texts .nil) (.bin .mod (.var 5) (.cInt 12)))) .nil)))
   (.cons (.asg 5 (.bin .fdiv (.var 5) (.cInt 60)))
   .nil)))
   (.cons (.ite (.and (.cmp .eq (.var 3) (.cStr [115,101,116])) (.cmp .gt (.var 4) (.cInt 2)))
   (.cons (.setI (.var 6) (.bin .sub (.var 4) (.cInt 1)) (.idx (.call .l_texts .nil) (.bin .mod (.var 5) (.cInt 12))))
   .nil)
   .nil)
   (.cons (.ite (.and (.cmp .eq (.var 3) (.cStr [105,110,99,114])) (.cmp .eq (.bin .mod (.var 5) (.cInt 2)) (.cInt 1)))
   (.cons (.asg 8 (.bin .mod (.bin .fdiv (.var 5) (.cInt 2)) (.bin .mul (.cInt 2) (.bin .pow (.cInt 10) (.cInt 21)))))
   (.cons (.setI (.var 6) (.cInt 2) (.bf .str (.cons (.ite (.cmp .eq (.bin .mod (.var 8) (.cInt 2)) (.cInt 0)) (.bin .fdiv (.var 8) (.cInt 2)) (.bin .sub (.neg (.cInt 1)) (.bin .fdiv (.var 8) (.cInt 2)))) .nil)))
   .nil))
   .nil)
   (.cons (.ret (.tup (.cons (.var 3) (.cons (.slc (.var 6) .no (.var 4)) .nil))))
   .nil))))))))))
noncomputable def HJ:SS:=
   (.cons (.ret (.tup (.cons (.cInt 1) (.cons (.bin .add (.bin .add (.cStr [107,101,121,32,34]) (.var 0)) (.cStr [34,32,110,111,116,32,107,110,111,119,110,32,105,110,32,100,105,99,116,105,111,110,97,114,121])) (.cons (.tup (.cons (.cStr [84,67,76]) (.cons (.cStr [76,79,79,75,85,80]) (.cons (.cStr [68,73,67,84]) (.cons (.var 0) .nil))))) .nil)))))
   .nil)
noncomputable def GP:SS:=
   (.cons (.asg 3 (.call .l_pairs (.cons (.var 0) .nil)))
   (.cons (.ite (.isT (.var 3))
   (.cons (.ret (.var 3))
   .nil)
   .nil)
   (.cons (.ite (.cmp .gt (.bf .len (.cons (.var 1) .nil)) (.cInt 1))
   (.cons (.asg 4 (.call .l_at (.cons (.var 3) (.cons (.idx (.var 1) (.cInt 0)) .nil))))
   (.cons (.asg 5 (.call .l_set (.cons (.ite (.isN (.var 4)) (.cStr []) (.var 4)) (.cons (.slc (.var 1) (.cInt 1) .no) (.cons (.var 2) .nil)))))
   (.cons (.ite (.cmp .eq (.idx (.var 5) (.cInt 0)) (.cInt 1))
   (.cons (.ret (.var 5))
   .nil)
   .nil)
   (.cons (.asg 2 (.idx (.var 5) (.cInt 1)))
   .nil))))
   .nil)
   (.cons (.ret (.tup (.cons (.cInt 0) (.cons (.call .l_dict (.cons (.call .l_put (.cons (.var 3) (.cons (.idx (.var 1) (.cInt 0)) (.cons (.var 2) .nil)))) .nil)) .nil))))
   .nil))))
noncomputable def EQ:SS:=
   (.cons (.asg 2 (.call .l_pairs (.cons (.var 0) .nil)))
   (.cons (.ite (.isT (.var 2))
   (.cons (.ret (.var 2))
   .nil)
   .nil)
   (.cons (.ite (.cmp .eq (.bf .len (.cons (.var 1) .nil)) (.cInt 1))
   (.cons (.ret (.tup (.cons (.cInt 0) (.cons (.call .l_dict (.cons (.comp 1 (.var 0) (.cmp .ne (.idx (.var 0) (.cInt 0)) (.idx (.var 1) (.cInt 0))) (.var 2) [1]) .nil)) .nil))))
   .nil)
   .nil)
   (.cons (.asg 3 (.call .l_at (.cons (.var 2) (.cons (.idx (.var 1) (.cInt 0)) .nil))))
   (.cons (.ite (.isN (.var 3))
   (.cons (.ret (.call .l_lacks (.cons (.idx (.var 1) (.cInt 0)) .nil)))
   .nil)
   .nil)
   (.cons (.asg 4 (.call .l_unset (.cons (.var 3) (.cons (.slc (.var 1) (.cInt 1) .no) .nil))))
   (.cons (.ite (.cmp .eq (.idx (.var 4) (.cInt 0)) (.cInt 1))
   (.cons (.ret (.var 4))
   .nil)
   .nil)
   (.cons (.ret (.tup (.cons (.cInt 0) (.cons (.call .l_dict (.cons (.call .l_put (.cons (.var 2) (.cons (.idx (.var 1) (.cInt 0)) (.cons (.idx (.var 4) (.cInt 1)) .nil)))) .nil)) .nil))))
   .nil))))))))
noncomputable def IS:SS:=
   (.cons (.ret (.tup (.cons (.cInt 1) (.cons (.bin .add (.bin .add (.cStr [101,120,112,101,99,116,101,100,32,105,110,116,101,103,101,114,32,98,117,116,32,103,111,116,32,34]) (.var 0)) (.cStr [34])) (.cons (.tup (.cons (.cStr [84,67,76]) (.cons (.cStr [86,65,76,85,69]) (.cons (.cStr [78,85,77,66,69,82]) .nil)))) .nil)))))
   .nil)
noncomputable def Gq:SS:=
   (.cons (.ite (.cmp .eq (.var 0) (.cStr [97,112,112,101,110,100]))
   (.cons (.ret (.tup (.cons (.cInt 0) (.cons (.bin .add (.ite (.isN (.var 1)) (.cStr []) (.var 1)) (.bm .join (.cStr []) (.cons (.var 2) .nil))) .nil))))
   .nil)
   .nil)
   (.cons (.ite (.cmp .eq (.var 0) (.cStr [108,97,112,112,101,110,100]))
   (.cons (.asg 3 (.ite (.isN (.var 1)) (.lst .nil) (.call .l_list (.cons (.var 1) .nil))))
   (.cons (.ite (.and (.isNN (.var 1)) (.cmp .eq (.var 2) (.lst .nil)))
   (.cons (.ret (.tup (.cons (.cInt 0) (.cons (.var 1) .nil))))
   .nil)
   .nil)
   (.cons (.ite (.isT (.var 3))
   (.cons (.ret (.tup (.cons (.cInt 1) (.cons (.bin .add (.bin .add (.idx (.var 3) (.cInt 0)) (.cStr [108,105,115,116])) (.idx (.var 3) (.cInt 1))) (.cons (.tup (.cons (.cStr [84,67,76]) (.cons (.cStr [86,65,76,85,69]) (.cons (.cStr [76,73,83,84]) (.cons (.idx (.var 3) (.cInt 2)) .nil))))) .nil)))))
   .nil)
   .nil)
   (.cons (.ret (.tup (.cons (.cInt 0) (.cons (.call .l_text (.cons (.bin .add (.var 3) (.var 2)) .nil)) .nil))))
   .nil))))
   .nil)
   (.cons (.asg 4 (.ite (.cmp .eq (.var 2) (.lst .nil)) (.cStr [49]) (.idx (.var 2) (.cInt 0))))
   (.cons (.ite (.and (.isNN (.var 1)) (.isN (.call .l_whole (.cons (.var 1) .nil))))
   (.cons (.ret (.call .l_none (.cons (.var 1) .nil)))
   .nil)
   .nil)
   (.cons (.ite (.isN (.call .l_whole (.cons (.var 4) .nil)))
   (.cons (.ret (.call .l_none (.cons (.var 4) .nil)))
   .nil)
   .nil)
   (.cons (.ret (.tup (.cons (.cInt 0) (.cons (.ite (.isN (.var 1)) (.var 4) (.bf .str (.cons (.bin .add (.call .l_whole (.cons (.var 1) .nil)) (.call .l_whole (.cons (.var 4) .nil))) .nil))) .nil))))
   .nil))))))
noncomputable def GD:SS:=
   (.cons (.ite (.cmp .eq (.var 0) (.cStr [115,101,116]))
   (.cons (.ret (.ite (.cmp .lt (.var 1) (.cInt 3)) (.cStr [107,101,121,32,63,107,101,121,32,46,46,46,63,32,118,97,108,117,101]) (.cStr [])))
   .nil)
   .nil)
   (.cons (.ite (.cmp .eq (.var 0) (.cStr [117,110,115,101,116]))
   (.cons (.ret (.ite (.cmp .lt (.var 1) (.cInt 2)) (.cStr [107,101,121,32,63,107,101,121,32,46,46,46,63]) (.cStr [])))
   .nil)
   .nil)
   (.cons (.ite (.cmp .eq (.var 0) (.cStr [105,110,99,114]))
   (.cons (.ret (.ite (.nin (.var 1) (.lst (.cons (.cInt 2) (.cons (.cInt 3) .nil)))) (.cStr [107,101,121,32,63,105,110,99,114,101,109,101,110,116,63]) (.cStr [])))
   .nil)
   .nil)
   (.cons (.ret (.ite (.cmp .lt (.var 1) (.cInt 2)) (.cStr [107,101,121,32,63,118,97,108,117,101,32,46,46,46,63]) (.cStr [])))
   .nil))))
noncomputable def Kx:SS:=
   (.cons (.asg 3 (.call .l_usage (.cons (.var 1) (.cons (.bf .len (.cons (.var 2) .nil)) .nil))))
   (.cons (.ite (.cmp .ne (.var 3) (.cStr []))
   (.cons (.ret (.tup (.cons (.cInt 1) (.cons (.bin .add (.bin .add (.bin .add (.bin .add (.cStr [119,114,111,110,103,32,35,32,97,114,103,115,58,32,115,104,111,117,108,100,32,98,101,32,34,100,105,99,116,32]) (.var 1)) (.cStr [32,100,105,99,116,86,97,114,78,97,109,101,32])) (.var 3)) (.cStr [34])) (.cons (.tup (.cons (.cStr [84,67,76]) (.cons (.cStr [87,82,79,78,71,65,82,71,83]) .nil))) .nil)))))
   .nil)
   .nil)
   (.cons (.asg 4 (.idx (.var 0) (.idx (.var 2) (.cInt 0))))
   (.cons (.ite (.isN (.var 4))
   (.cons (.asg 4 (.cStr []))
   .nil)
   .nil)
   (.cons (.ite (.cmp .eq (.var 1) (.cStr [115,101,116]))
   (.cons (.ret (.call .l_set (.cons (.var 4) (.cons (.slc (.var 2) (.cInt 1) (.neg (.cInt 1))) (.cons (.idx (.var 2) (.neg (.cInt 1))) .nil)))))
   .nil)
   .nil)
   (.cons (.ite (.cmp .eq (.var 1) (.cStr [117,110,115,101,116]))
   (.cons (.ret (.call .l_unset (.cons (.var 4) (.cons (.slc (.var 2) (.cInt 1) .no) .nil))))
   .nil)
   .nil)
   (.cons (.asg 5 (.call .l_pairs (.cons (.var 4) .nil)))
   (.cons (.ite (.isT (.var 5))
   (.cons (.ret (.var 5))
   .nil)
   .nil)
   (.cons (.asg 6 (.call .l_at (.cons (.var 5) (.cons (.idx (.var 2) (.cInt 1)) .nil))))
   (.cons (.ite (.and (.cmp .eq (.var 1) (.cStr [97,112,112,101,110,100])) (.and (.isNN (.var 6)) (.cmp .eq (.bf .len (.cons (.var 2) .nil)) (.cInt 2))))
   (.cons (.ret (.tup (.cons (.cInt 0) (.cons (.var 4) .nil))))
   .nil)
   .nil)
   (.cons (.asg 7 (.call .l_behind (.cons (.var 1) (.cons (.var 6) (.cons (.slc (.var 2) (.cInt 2) .no) .nil)))))
   (.cons (.ite (.cmp .eq (.idx (.var 7) (.cInt 0)) (.cInt 1))
   (.cons (.ret (.var 7))
   .nil)
   .nil)
   (.cons (.ret (.tup (.cons (.cInt 0) (.cons (.call .l_dict (.cons (.call .l_put (.cons (.var 5) (.cons (.idx (.var 2) (.cInt 1)) (.cons (.idx (.var 7) (.cInt 1)) .nil)))) .nil)) .nil))))
   .nil)))))))))))))
noncomputable def IM:SS:=
   (.cons (.try1 (.cons (.ite (.cmp .eq (.idx (.var 1) (.cInt 1)) (.cStr [97,112,112,101,110,100]))
   (.cons (.ret (.tup (.cons (.cInt 0) (.cons (.call .dict_append (.cons (.var 0) (.cons (.var 1) .nil))) .nil))))
   .nil)
   .nil)
   (.cons (.ite (.cmp .eq (.idx (.var 1) (.cInt 1)) (.cStr [108,97,112,112,101,110,100]))
   (.cons (.ret (.tup (.cons (.cInt 0) (.cons (.call .dict_lappend (.cons (.var 0) (.cons (.var 1) .nil))) .nil))))
   .nil)
   .nil)
   (.cons (.ite (.cmp .eq (.idx (.var 1) (.cInt 1)) (.cStr [105,110,99,114]))
   (.cons (.ret (.tup (.cons (.cInt 0) (.cons (.call .dict_incr (.cons (.var 0) (.cons (.var 1) .nil))) .nil))))
   .nil)
   .nil)
   (.cons (.ite (.cmp .eq (.idx (.var 1) (.cInt 1)) (.cStr [115,101,116]))
   (.cons (.ret (.tup (.cons (.cInt 0) (.cons (.call .dict_set (.cons (.var 0) (.cons (.var 1) .nil))) .nil))))
   .nil)
   .nil)
   (.cons (.ret (.tup (.cons (.cInt 0) (.cons (.call .dict_unset (.cons (.var 0) (.cons (.var 1) .nil))) .nil))))
   .nil)))))
   2
   (.cons (.ret (.tup (.cons (.attr (.var 2) [99,111,100,101]) (.cons (.attr (.var 2) [118,97,108,117,101]) (.cons (.attr (.var 2) [101,114,114,111,114,99,111,100,101]) .nil)))))
   .nil))
   .nil)
noncomputable def Gl:SS:=
   (.cons (.for1 3 (.lst (.cons (.cStr [100]) (.cons (.cStr [101]) .nil)))
   (.cons (.ite (.or (.cmp .ne (.meth .sh_has [104,97,115] (.var 0) (.cons (.var 3) .nil)) (.isNN (.idx (.var 1) (.var 3)))) (.cmp .ne (.meth .sh_stamp [115,116,97,109,112] (.var 0) (.cons (.var 3) .nil)) (.idx (.var 2) (.var 3))))
   (.cons (.ret (.cBool false))
   .nil)
   .nil)
   (.cons (.ite (.and (.isNN (.idx (.var 1) (.var 3))) (.cmp .ne (.meth .sh_read [114,101,97,100] (.var 0) (.cons (.var 3) .nil)) (.idx (.var 1) (.var 3))))
   (.cons (.ret (.cBool false))
   .nil)
   .nil)
   .nil)))
   (.cons (.ret (.cBool true))
   .nil))
noncomputable def OI:SS:=
   (.cons (.asg 1 (.bin .add (.cInt 4) (.bin .mul (.cInt 8) (.bin .add (.cInt 3) (.bin .mul (.cInt 4) (.bin .add (.cInt 1) (.bin .mul (.bin .mul (.cInt 2) (.cInt 60)) (.bin .add (.cInt 56) (.bin .mul (.cInt 60) (.cInt 17))))))))))
   (.cons (.asg 2 (.dct2 [100] (.call .l_first (.cons (.ite (.cmp .gt (.bf .len (.cons (.var 0) .nil)) (.cInt 0)) (.idx (.var 0) (.cInt 0)) (.var 1)) .nil)) [101] (.call .l_first (.cons (.ite (.cmp .gt (.bf .len (.cons (.var 0) .nil)) (.cInt 1)) (.idx (.var 0) (.cInt 1)) (.cInt 0)) .nil))))
   (.cons (.asg 3 (.dct2 [100] (.cInt 0) [101] (.cInt 0)))
   (.cons (.asg 4 (.new .host .sh_init .nil))
   (.cons (.for1 5 (.lst (.cons (.cStr [100]) (.cons (.cStr [101]) .nil)))
   (.cons (.ite (.isNN (.idx (.var 2) (.var 5)))
   (.cons (.expr (.meth .sh_write [119,114,105,116,101] (.var 4) (.cons (.var 5) (.cons (.idx (.var 2) (.var 5)) .nil))))
   (.cons (.setI (.var 3) (.var 5) (.cInt 1))
   .nil))
   .nil)
   .nil))
   (.cons (.for1 6 (.bf .range (.cons (.cInt 8) .nil))
   (.cons (.asg2 7 8 (.call .l_deed (.cons (.var 0) (.cons (.var 6) .nil))))
   (.cons (.asg 9 (.call .l_due (.cons (.var 2) (.cons (.var 7) (.cons (.var 8) .nil)))))
   (.cons (.ite (.cmp .ne (.call .l_done (.cons (.var 4) (.cons (.bin .add (.lst (.cons (.cStr [100,105,99,116]) (.cons (.var 7) .nil))) (.var 8)) .nil))) (.var 9))
   (.cons (.ret (.cBool false))
   .nil)
   .nil)
   (.cons (.ite (.cmp .eq (.idx (.var 9) (.cInt 0)) (.cInt 0))
   (.cons (.setI (.var 2) (.idx (.var 8) (.cInt 0)) (.idx (.var 9) (.cInt 1)))
   (.cons (.augI (.var 3) (.idx (.var 8) (.cInt 0)) .add (.cInt 1))
   .nil))
   .nil)
   (.cons (.ite (.not (.call .l_stands (.cons (.var 4) (.cons (.var 2) (.cons (.var 3) .nil)))))
   (.cons (.ret (.cBool false))
   .nil)
   .nil)
   .nil))))))
   (.cons (.ret (.cBool true))
   .nil)))))))
structure Fn where
 qual:Str
 arity:Nat
 names:List Str
 body:SS
noncomputable abbrev fo (s:String) (n:Nat) (l:List String) (b:SS):Option Fn:=some ⟨Str.ofString s,n,l.map Str.ofString,b⟩
noncomputable def C7:F->Option Fn
 | .raised_init=>fo "Raised.__init__" 6 ["self","code","value","errorcode","level","ret"] CK
 | .error=>fo "error" 2 ["text","errorcode"] HV
 | .wrong_args=>fo "wrong_args" 1 ["usage"] EH
 | .is_blank=>fo "is_blank" 1 ["c"] Gb
 | .digit=>fo "digit" 1 ["c","n"] KI
 | .digits_value=>fo "digits_value" 2 ["text","base","value","c","n"] DZ
 | .base_of=>fo "base_of" 1 ["mark"] GN
 | .whole_of=>fo "whole_of" 1 ["text","first","behind","is_minus","base","value"] Gh
 | .need_whole=>fo "need_whole" 1 ["text","value"] EM
 | .check_behind=>fo "check_behind" 3 ["text","at","what","end"] DX
 | .braced_element=>fo "braced_element" 2 ["text","first","depth","at","c"] Di
 | .bare_element=>fo "bare_element" 2 ["text","at","out","c"] Ec
 | .find_element=>fo "find_element" 2 ["text","at"] Eb
 | .split_list=>fo "split_list" 1 ["text","items","found"] EI
 | .mode_of=>fo "mode_of" 2 ["element","is_hash","begins","is_bound","is_hashed","wants_brace","wants_escape","depth","at","c"] HR
 | .quote=>fo "quote" 2 ["element","is_hash","mode","out","c"] Lj
 | .join_list=>fo "join_list" 1 ["items","out","item"] F3
 | .dict_fault=>fo "dict_fault" 1 ["raised","words"] EJ
 | .dict_of=>fo "dict_of" 1 ["text","items","raised","pairs","at"] GF
 | .text_of_dict=>fo "text_of_dict" 1 ["pairs","items","key"] DW
 | .unknown_key=>fo "unknown_key" 1 ["key"] En
 | .open_path=>fo "open_path" 2 ["text","path","chain","key","here"] Fk
 | .close_path=>fo "close_path" 2 ["chain","path","at"] EE
 | .set_path=>fo "set_path" 3 ["text","keys","value","chain"] Gk
 | .unset_path=>fo "unset_path" 2 ["text","keys","chain"] EK
 | .value_of=>fo "value_of" 2 ["host","name"] Gg
 | .text_in=>fo "text_in" 2 ["host","name","text"] Hw
 | .dict_append=>fo "dict_append" 2 ["host","words","text","pairs","key"] CO
 | .dict_lappend=>fo "dict_lappend" 2 ["host","words","pairs","key"] C5
 | .dict_incr=>fo "dict_incr" 2 ["host","words","pairs","key","by","old"] DF
 | .dict_set=>fo "dict_set" 2 ["host","words"] E6
 | .dict_unset=>fo "dict_unset" 2 ["host","words"] Dt
 | .var_init=>fo "Var.__init__" 1 ["self"] Gv
 | .host_init=>fo "Host.__init__" 3 ["self","limit","fuel"] Fu
 | .no_variable=>fo "no_variable" 2 ["verb","name","why"] El
 | .var_in=>fo "var_in" 2 ["book","name"] Jc
 | .put_value=>fo "put_value" 3 ["var","kind","value"] Fd
 | .sh_init=>fo "SmallHost.__init__" 3 ["self","limit","fuel"] Hd
 | .sh_has=>fo "SmallHost.has" 2 ["self","name"] I7
 | .sh_place=>fo "SmallHost.place" 2 ["self","name"] Gf
 | .sh_read_var=>fo "SmallHost.read_var" 3 ["self","var","name"] Ep
 | .sh_write_var=>fo "SmallHost.write_var" 4 ["self","var","name","value"] Ed
 | .sh_read=>fo "SmallHost.read" 2 ["self","name"] HK
 | .sh_write=>fo "SmallHost.write" 3 ["self","name","value"] Gy
 | .sh_stamp=>fo "SmallHost.stamp" 2 ["self","name"] Ga
 | .l_keys=>fo "_law_keys" 0 [] I1
 | .l_values=>fo "_law_values" 0 [] Gj
 | .l_texts=>fo "_law_texts" 0 [] Hc
 | .l_close=>fo "_law_close" 1 ["text","deep","at"] GS
 | .l_list=>fo "_law_list" 1 ["text","items","rest","size","behind"] IF
 | .l_form=>fo "_law_form" 2 ["text","is_ahead"] IQ
 | .l_text=>fo "_law_text" 1 ["items"] Ja
 | .l_put=>fo "_law_put" 3 ["pairs","key","value"] KN
 | .l_at=>fo "_law_at" 2 ["pairs","key","one","other"] MC
 | .l_pairs=>fo "_law_pairs" 1 ["text","items","pairs","at"] HN
 | .l_dict=>fo "_law_dict" 1 ["pairs","items","key","value"] IN
 | .l_whole=>fo "_law_whole" 1 ["text","rest","sign","signs","value","c"] GZ
 | .l_first=>fo "_law_first" 1 ["number","kind","items","rest","_"] GU
 | .l_deed=>fo "_law_deed" 2 ["script","place","number","kind","many","rest","items","_","far"] FX
 | .l_lacks=>fo "_law_lacks" 1 ["key"] HJ
 | .l_set=>fo "_law_set" 3 ["text","keys","value","pairs","old","inner"] GP
 | .l_unset=>fo "_law_unset" 2 ["text","keys","pairs","old","inner"] EQ
 | .l_none=>fo "_law_none" 1 ["text"] IS
 | .l_behind=>fo "_law_behind" 3 ["kind","old","more","items","by"] Gq
 | .l_usage=>fo "_law_usage" 2 ["kind","many"] GD
 | .l_due=>fo "_law_due" 3 ["texts","kind","items","usage","text","pairs","old","value"] Kx
 | .l_done=>fo "_law_done" 2 ["host","words","fault"] IM
 | .l_stands=>fo "_law_stands" 3 ["host","texts","counts","name"] Gl
 | .law=>fo "law" 1 ["script","own","texts","counts","host","name","place","kind","items","due"] OI
 | _=>none
end
section
noncomputable def Off (P:Heap) (frs:List Env) (σ:Store) (δ:Nat->Nat):Prop:=∀b,Foot σ δ b->P.get? b=none/\b∉fa frs
inductive UpT (P:Heap) (e:Nat) (fl:Value) (h:Heap):Prop
 | mk (o:Obj) (vs:Array Value) (T:Nat) (oT:Obj) (ts:Array Value):h.get? e=some o->o.data=.fields vs->vs[1]?=some (.ref T)->P.get? T=none->h.get? T=some oT->oT.cls=.type "traceback"->oT.data=.fields ts->ts[3]?=some fl->UpT P e fl h
inductive Up (P:Heap) (L:Option Addr) (e:Nat) (h:Heap):Prop
 | no (o:Obj) (vs:Array Value):h.get? e=some o->o.data=.fields vs->vs[1]?=some .none->Up P L e h
 | old:UpT P e .none h->Up P L e h
 | here (l:Addr):L=some l->UpT P e (rawInt l) h->Up P L e h
theorem Hp {P P':Heap} (k:P.StaysIn P') {b:Nat} (e:P'.get? b=none):P.get? b=none:=by
 cases q:P.get? b with
 | none=>rfl
 | some o=>exact absurd (e.symm.trans (k _ _ q)) (fun z=>nomatch z)
theorem UpT.lower {P P':Heap} {e:Nat} {fl:Value} (x:UpT P' e fl h) (k:P.StaysIn P'):UpT P e fl h:=
 x.casesOn fun o vs T oT ts a b c d f g i j=>⟨o,vs,T,oT,ts,a,b,c,Hp k d,f,g,i,j⟩
theorem Up.lower {P P':Heap} {L:Option Addr} {e:Nat} (x:Up P' L e h) (k:P.StaysIn P'):Up P L e h:=
 x.casesOn .no (fun u=>.old (u.lower k)) fun l e u=>.here l e (u.lower k)
theorem Up.none {P:Heap} {L:Option Addr} {e:Nat} (x:Up P none e h):Up P L e h:=
 x.casesOn .no .old fun _ z _=>nomatch z
section
variable (p:Prm) (C:Ctx) (P:Heap) (m:Loc) (s:Shared)
inductive PV (Q:QV) (w:Value) (s':Shared):Prop
 | mk (h':Heap) (tk:Tok) (v:V) (σ':Store) (δ':Nat->Nat):s'={ s with heap:=h',toks:=tk }->KeepI s.heap h'->Rel h' w v->St p C P m σ' δ' h'->Q v σ'->PV Q w s'
inductive PL (Q:QL) (w:List Value) (s':Shared):Prop
 | mk (h':Heap) (tk:Tok) (v:List V) (σ':Store) (δ':Nat->Nat):s'={ s with heap:=h',toks:=tk }->KeepI s.heap h'->Rels h' w v->St p C P m σ' δ' h'->Q v σ'->PL Q w s'
inductive PT (Q:QB) (w:Bool) (s':Shared):Prop
 | mk (h':Heap) (tk:Tok) (σ':Store) (δ':Nat->Nat):s'={ s with heap:=h',toks:=tk }->KeepI s.heap h'->St p C P m σ' δ' h'->Q w σ'->PT Q w s'
inductive PE (E:QE) (x:Value) (s':Shared):Prop
 | mk (h':Heap) (tk:Tok) (e st n:Nat) (at_:List (T × V)) (σ':Store) (δ':Nat->Nat):x=.ref e->s'={ s with heap:=h',toks:=tk }->KeepI s.heap h'->St p C P m σ' δ' h'->σ' e=some (.exc st n at_)->1<=st->Up P C.env.frame e h'->E e σ'->PE E x s'
end
section
variable (p:Prm) (P:Heap) (frs:List Env) (rcd:List (Option Obj)) (s:Shared)
inductive CV (Q:QV) (w:Value) (s':Shared):Prop
 | mk (h':Heap) (tk:Tok) (v:V) (σ':Store) (δ':Nat->Nat):s'={ s with heap:=h',toks:=tk }->Rel h' w v->P.StaysIn h'->FrOk h' P frs rcd->Rep p σ' δ' h'->Off P frs σ' δ'->Q v σ'->CV Q w s'
inductive CE (E:QE) (x:Value) (s':Shared):Prop
 | mk (h':Heap) (tk:Tok) (e st n:Nat) (at_:List (T × V)) (σ':Store) (δ':Nat->Nat):x=.ref e->s'={ s with heap:=h',toks:=tk }->P.StaysIn h'->FrOk h' P frs rcd->Rep p σ' δ' h'->Off P frs σ' δ'->σ' e=some (.exc st n at_)->1<=st->Up P none e h'->E e σ'->CE E x s'
end
set_option backward.match.sparseCases true in
noncomputable def back (Q E:QW):Result->Shared->Prop:=fun r s'=>match r with
 | .ok (.ret v)=>Q v s'
 | .ok _=>False
 | .error e=>E e s'
noncomputable def SatAt (p:Prm) (A:Around) (f:F) (T:List V->Store->(QV)->(QE)->Prop):Prop:=
 ∀(frs:List Env) (rcd:List (Option Obj)) (P:Heap) (σ:Store) (δ:Nat->Nat) (s:Shared) (ws:List Value) (vs:List V) (Q:QV) (E:QE),
  A.frames=some frs->p.base.StaysIn P->P.StaysIn s.heap->FrOk s.heap P frs rcd->(∀q∈rcd,q≠none)->Rep p σ δ s.heap->Off P frs σ δ->Rels s.heap ws vs->T vs σ Q E ->
   codeAny (model p.prog p.w) A (.call (.ref (p.fn f)) ⟨ws,[]⟩) (back (CV p P frs rcd s Q) (CE p P frs rcd s E)) s
structure CtxOk (p:Prm) (C:Ctx) (A:Around):Prop where
 frames:A.frames=some C.frs
 kind:C.env.scope.kind=.function
 glob:C.env.globals=mainGlobals
 blt:C.env.builtins=builtinsNs
 frame:∃L,C.env.frame=some L/\L∈fa C.frs
 units:A.units+100 < cLine
 depth:A.depth+10 < recursionLimit
section
variable {p:Prm} {C:Ctx} {P:Heap} {m:Loc} {σ:Store} {δ:Nat->Nat} {A:Around} {s s₁:Shared}
theorem PV.from {s':Shared} {h₁:Heap} {tk₁:Nat} (x:PV p C P m { s with heap:=h₁,toks:=tk₁ } Q w s') (k:KeepI s.heap h₁):PV p C P m s Q w s':=
 x.casesOn fun h' tk v σ' δ' a b c d e=>⟨h',tk,v,σ',δ',a,k.trans b,c,d,e⟩
theorem PT.from {Q:QB} {w:Bool} {s':Shared} {h₁:Heap} {tk₁:Nat} (x:PT p C P m { s with heap:=h₁,toks:=tk₁ } Q w s') (k:KeepI s.heap h₁):PT p C P m s Q w s':=
 x.casesOn fun h' tk σ' δ' a b d e=>⟨h',tk,σ',δ',a,k.trans b,d,e⟩
theorem PE.from {s':Shared} {h₁:Heap} {tk₁:Nat} (x:PE p C P m { s with heap:=h₁,toks:=tk₁ } E w s') (k:KeepI s.heap h₁):PE p C P m s E w s':=
 x.casesOn fun h' tk e st n at_ σ' δ' a b c d f g u q=>⟨h',tk,e,st,n,at_,σ',δ',a,b,k.trans c,d,f,g,u,q⟩
theorem PV.here {tk:Nat} {h':Heap} (x:St p C P m σ δ s.heap) (k:∀b o,s.heap.get? b=some o->h'.get? b=some o) (r:Rel h' w v) (q:Q v σ):PV p C P m s Q w { s with heap:=h',toks:=tk }:=
 ⟨h',tk,v,σ,δ,rfl,.of_keeps k,r,x.keeps k,q⟩
theorem PV.now {tk:Nat} (x:St p C P m σ δ s.heap) (r:Rel s.heap w v) (q:Q v σ):PV p C P m s Q w { s with toks:=tk }:=
 PV.here (h':=s.heap) x (fun _ _ e=>e) r q
theorem Au (x:St p C P m σ δ s.heap) (r:Rel s.heap w v) (q:Q v σ):PV p C P m s Q w s:=
 PV.now (tk:=s.toks) x r q
noncomputable def Dh (h:Heap) (frs:List Env):List (Option Obj):=frs.map fun env=>env.frame.bind h.get?
theorem FrOk.now {h P P':Heap} {l:List Env} {qs:List (Option Obj)} (x:FrOk h P l qs) (hP:∀b∈fa l,P'.get? b=none):FrOk h P' l (Dh h l)/\∀q∈Dh h l,q≠none:=by
 induction x with
 | nil=>exact⟨.nil,fun q hq=>by cases hq⟩
 | cons a e c d f _ _ ih =>
  rename_i env q l qs L o es ep _ _;rw[DL e] at hP;refine An (ih fun b hb=>hP b (.tail _ hb)) fun i1 i2=>?_;have hr:Dh h (env::l)=some o::Dh h l:=by unfold Dh;rw[List.map_cons,e];simp[d]
  rw[hr];refine⟨.cons a e (hP L (.head _)) d f (fun o' ho'=>⟨o.slots,by obtain rfl:=xSS ho';rfl⟩) i1,fun q hq=>?_⟩;rcases List.mem_cons.mp hq with rfl | hq
  ·intro z;exact xSN z
  ·exact i2 q hq
theorem FrOk.after {h h' P P':Heap} {l:List Env} {qs:List (Option Obj)} (x:FrOk h P l qs):FrOk h' P' l (Dh h l)->FrOk h' P l qs/\∀b∈fa l,∀o,h.get? b=some o->∃sl,h'.get? b=some { o with slots:=sl }:=by
 induction x with
 | nil=>exact fun _=>⟨.nil,fun b hb=>by simp[fa] at hb⟩
 | cons a e c d f g _ ih =>
  rename_i env q l qs L o es ep _;have hr:Dh h (env::l)=some o::Dh h l:=by unfold Dh;rw[List.map_cons,e];simp[d]
  rw[hr];intro y;cases y with
  | cons a' e' c' d' f' g' r' =>
   rw[e] at e';obtain rfl:=xSS e';refine Aq (g' o rfl) fun sl z=>?_;refine An (ih r') fun i1 i2=>?_;subst z;refine⟨.cons a e c d' f' (fun o' ho'=>let ⟨s2,y⟩:=g o' ho';⟨sl,by rw[y]⟩) i1,fun b hb o' ho'=>?_⟩;rw[DL e] at hb;rcases List.mem_cons.mp hb with rfl | hb
   ·rw[d] at ho';obtain rfl:=xSS ho';exact⟨sl,d'⟩
   ·exact i2 b hb o' ho'
theorem Heap.Ns.slots {h h':Heap} {a:Addr} {mm:Str->Option Value} (n:h.Ns a mm) (k:∀o,h.get? a=some o->∃sl,h'.get? a=some { o with slots:=sl }):h'.Ns a mm:=by
 refine Rx n fun o es ep ho hd r=>?_;clear n;refine Aq (k o ho) fun sl z=>?_;exact Kn _ es ep z hd r
theorem St.ground (x:St p C P m σ δ s.heap):let P':=CX s.heap fun b=>Foot σ δ b∨b∈fa C.frs
  p.base.StaysIn P'/\P'.StaysIn s.heap/\P.StaysIn P'/\Off P' C.frs σ δ/\(∀b o,s.heap.get? b=some o->BS o->P'.get? b=some o)/\(C.env.locals∉fa C.frs->∀o,s.heap.get? C.env.locals=some o->P'.get? C.env.locals=some o):=by
 intro P';have hPP:P.StaysIn P':=fun b o e=>by
  refine(Bl ?_).trans (x.stays b o e);rintro(f | f)
  ·rw[(x.off b f).1] at e;exact xNS e
  ·rw[(x.frs.mem f).1] at e;exact xNS e
 refine UG (fun b o e=>hPP _ _ (x.base b o e)) (Ef _ _) hPP (fun b f=>⟨Ct (.inl f),(x.off b f).2.1⟩) (fun b o e i=>(Bl ?_).trans e) (fun hn o e=>(Bl ?_).trans e)
 ·rintro(f | f)
  ·refine e1a2 (x.foot_there f) fun o' ho' ni=>?_;rw[e] at ho';obtain rfl:=xSS ho';exact ni i
  ·refine An (x.frs.mem f) fun _ z1_=>?_;refine e3a2 z1_ fun o' _ _ ho' hd=>?_;clear z1_;rw[e] at ho';obtain rfl:=xSS ho';exact AJ hd i
 ·rintro(f | f)
  ·exact(x.off _ f).2.2 rfl
  ·exact hn f
theorem St.back {σ':Store} {δ':Nat->Nat} {h':Heap} (x:St p C P m σ δ s.heap) (k1:(CX s.heap fun b=>Foot σ δ b∨b∈fa C.frs).StaysIn h')
  (k2:FrOk h' (CX s.heap fun b=>Foot σ δ b∨b∈fa C.frs) C.frs (Dh s.heap C.frs)) (k3:Rep p σ' δ' h') (k4:Off (CX s.heap fun b=>Foot σ δ b∨b∈fa C.frs) C.frs σ' δ'):St p C P m σ' δ' h'/\KeepI s.heap h':=by
 refine Ty x.ground fun g1 g2 g3 g4 g5 g6=>?_;refine An (x.frs.after k2) fun f1 f2=>?_;have ki:KeepI s.heap h':=fun b o e i=>k1 _ _ (g5 b o e i);refine e1a2 x.ns fun mm hn hl=>?_;have lo:∀o,s.heap.get? C.env.locals=some o->∃sl,h'.get? C.env.locals=some { o with slots:=sl }:=fun o ho=>by
  by_cases q:C.env.locals∈fa C.frs
  ·exact f2 _ q o ho
  ·exact⟨o.slots,k1 _ _ (g6 q o ho)⟩
 refine⟨⟨x.base,fun b o e=>k1 _ _ (g3 b o e),f1,(Ai mm (Heap.Ns.slots hn lo) (hl.step ki)),x.lP,k3,fun b f=>?_⟩,ki⟩;refine An (k4 b f) fun z1 z2=>?_;refine Bk ?_ z2 (fun w=>?_)
 ·cases q:P.get? b with
  | none=>rfl
  | some o=>have:=g3 _ _ q;rw[z1] at this;exact xNS this
 ·subst w;by_cases q:C.env.locals∈fa C.frs
  ·exact z2 q
  ·refine e3a2 (Ns.dict hn) fun o es ep ho _=>?_;rw[g6 q o ho] at z1;exact xSN z1
theorem I2 {f:F} {T:List V->Store->(QV)->(QE)->Prop} {ws:List Value}
  (hs:SatAt p A f T) (hf:A.frames=some C.frs) (x:St p C P m σ δ s.heap) (r:Rels s.heap ws vs) (t:T vs σ Q E) :
  codeAny (model p.prog p.w) A (.call (.ref (p.fn f)) ⟨ws,[]⟩) (back (PV p C P m s Q) (PE p C P m s E)) s:=by
 refine Ty x.ground fun g1 g2 g3 g4 g5 g6=>?_;refine An (x.frs.now (P':=CX s.heap fun b=>Foot σ δ b∨b∈fa C.frs) fun b hb=>Ct (.inr hb)) fun n1 n2=>?_;refine codeAny_mono (hs C.frs (Dh s.heap C.frs) _ σ δ s ws vs Q E hf g1 g2 n1 n2 x.rep g4 r t) ?_;intro r s' z;cases r with
 | error e =>
  obtain⟨h',tk,e,st,n,at_,σ',δ',rfl,rfl,b,c,d,o,ee,es,u,q⟩:=z;refine An (x.back b c d o) fun z1 z2=>?_;exact⟨h',tk,e,st,n,at_,σ',δ',rfl,rfl,z2,z1,ee,es,(u.lower g3).none,q⟩
 | ok fl =>
  cases fl <;> try exact z.elim
  obtain⟨h',tk,v,σ',δ',rfl,a,b,c,d,e,q⟩:=z;refine An (x.back b c d e) fun z1 z2=>?_;exact⟨h',tk,v,σ',δ',rfl,z2,a,z1,q⟩
theorem Km {f:F} {T:List V->Store->(QV)->(QE)->Prop} {ws:List Value}
  (hs:SatAt p A f T) (hf:A.frames=some C.frs) (x:St p C P m σ δ s.heap) (r:Rels s.heap ws vs) (t:T vs σ Q E) :
  wpAny (model p.prog p.w) A (call (.ref (p.fn f)) ws) (PV p C P m s Q) (PE p C P m s E) s:=wpAny_call (I2 hs hf x r t)
end
end
section
theorem Hr (a b:T):S a++S b=S (a++b):=by
 show Str.append (S a) (S b)=_;simp[Str.append,S]
theorem Rg {x:Str} (h:x.cps.toList=t):x=S t:=by rw[← h,TE]
theorem Ly {α:Type} (l:List α) (a b:Nat) (hb:b<=l.length):(sliceRange (a:Int) (b:Int) 1).filterMap (fun i=>l[i]?)=(l.take b).drop a:=by
 unfold sliceRange;have e:((if (1:Int) > 0 then if (a:Int) < b then ((b:Int) - a+1 - 1) / 1 else 0 else if (a:Int) > b then ((a:Int) - b - 1 - 1) / -1 else 0):Int).toNat=b - a:=by
  simp only[Int.one_pos,gt_iff_lt,if_true];split <;> simp <;> exact U40 _ _ (by assumption)
 simp only[e];rw[List.filterMap_map];have e2:((fun (i:Nat)=>l[i]?) ∘ fun (k:Nat)=>((a:Int)+1*(k:Int)).toNat)=fun k=>l[a+k]?:=by
  funext k;have:((a:Int)+1*(k:Int)).toNat=a+k:=by exact lin 2 0 [] (.e (.t (.a (.o Z0) (.m 1 (.o Z1)))) (.a Z0 Z1)) [[0,1],[0,1]] R0 _ _
  show l[((a:Int)+1*(k:Int)).toNat]?=l[a+k]?;rw[this]
 rw[e2];apply List.ext_getElem?;intro i;have key:∀n,a+n<=l.length->(List.range n).filterMap (fun k=>l[a+k]?)=(l.drop a).take n:=by
  intro n;induction n with
  | zero=>intro _;simp
  | succ n ih =>
   intro h;have hlt:a+n < l.length:=by exact lin 3 0 [.l (.a Z0 (.a Z1 (.c 1))) Z2] (.t (.a Z0 Z1) Z2) [] R0 _ _ _ h
   rw[List.range_succ,List.filterMap_append,ih (by exact lin 3 0 [.l (.a Z0 (.a Z1 (.c 1))) Z2] (.l (.a Z0 Z1) Z2) [] R0 _ _ _ h),List.take_add_one];simp[hlt]
 by_cases hab:a<=b
 ·rw[key (b - a) (by exact lin 3 0 [.l Z0 Z1,.l Z1 Z2] (.l (.a Z0 (.s Z1 Z0)) Z2) [[0,1,0,1],[1,0,1,0]] R0 _ _ _ hab hb),← List.drop_take]
 ·have:b - a=0:=by exact lin 2 0 [.n (.l Z0 Z1)] (.e (.s Z1 Z0) (.c 0)) [[1,1,0],[1,1,0],[0,0,1],[0,0,1]] R0 _ _ hab
  have h3:(l.take b).length<=a:=by simp;exact lin 3 0 [.n (.l Z0 Z1)] (.l (.n Z1 Z2) Z0) [[1,0,1]] R0 _ _ _ hab
  rw[this,List.drop_eq_nil_of_le h3];rfl
theorem JJ (n:Nat) (i:Int):max (0:Int) (min (if i < 0 then i+(n:Int) else i) (n:Int))=(Bp n i:Nat):=by
 unfold Bp;split
 ·rename_i h;rw[Int.min_eq_left (Int.add_le_of_le_sub_right (by rw[Int.sub_self];exact Int.le_of_lt h)),Int.max_comm,← Int.toNat_eq_max]
 ·rename_i h;have h:=Int.not_lt.1 h;rw[Int.max_eq_right (Int.le_min.2 ⟨h,Int.natCast_nonneg n⟩)];cases Int.le_total i n with
  | inl z=>rw[Int.min_eq_left z,Nat.min_eq_left (Int.toNat_le.2 z),Int.toNat_of_nonneg h]
  | inr z=>rw[Int.min_eq_right z,Nat.min_eq_right ((Int.le_toNat h).2 z)]
theorem I4 (n:Nat) (i:Int):Bp n i<=n:=by unfold Bp;split <;> first | exact lin 1 1 [.T (.v 0) (.c 0)] (.l (.t (.a (.v 0) (.o Z0))) Z0) [[1,0,1],[0,0,1]] R0 _ _ (by assumption) | exact lin 1 1 [] (.l (.n (.t (.v 0)) Z0) Z0) [[0,1,1],[0,0,1],[0,1,1],[0,0,1]] R0 _ _
theorem IP (lo hi:Option Int) (n:Nat):sliceBounds lo hi none n=((((lo.map (Bp n)).getD 0:Nat):Int),(((hi.map (Bp n)).getD n:Nat):Int),1):=by
 unfold sliceBounds;cases lo <;> cases hi <;> simp <;> try exact⟨JJ _ _,JJ _ _⟩
 all_goals exact JJ _ _
theorem KV {α:Type} (l:List α) (lo hi:Option Int):(sliceRange (sliceBounds lo hi none l.length).1 (sliceBounds lo hi none l.length).2.1 (sliceBounds lo hi none l.length).2.2).filterMap (fun i=>l[i]?)=Cr l lo hi:=by
 rw[IP];exact Ly l _ _ (by cases hi <;> simp[I4])
theorem Io (l:List Value) (lo hi:Option Int):slicePick l.toArray lo hi none=(Cr l lo hi).toArray:=by
 unfold slicePick;congr 1;have:=KV l lo hi;simpa using this
theorem Iu (lo hi:Option Int) (n:Nat):Builtin.Str.strSliceIndices lo hi 1 n=sliceRange (sliceBounds lo hi none n).1 (sliceBounds lo hi none n).2.1 (sliceBounds lo hi none n).2.2:=rfl
theorem PI (s:T) (lo hi:Option Int):Txt.slice (S s) lo hi=S (Cr s lo hi):=by
 have h:=KV s lo hi;unfold Txt.slice;rw[Iu,CP];split
 ·rename_i hc;have hlen:(sliceRange (sliceBounds lo hi none s.length).1 (sliceBounds lo hi none s.length).2.1 (sliceBounds lo hi none s.length).2.2).length=s.length:=by simpa using hc
  have:Cr s lo hi=s:=by
   rw[IP] at hlen;have hb:(hi.map (Bp s.length)).getD s.length<=s.length:=by cases hi <;> simp[I4]
   have e2:(sliceRange (((lo.map (Bp s.length)).getD 0:Nat):Int) (((hi.map (Bp s.length)).getD s.length:Nat):Int) 1).length=(hi.map (Bp s.length)).getD s.length - (lo.map (Bp s.length)).getD 0:=by
    generalize (hi.map (Bp s.length)).getD s.length=b;generalize (lo.map (Bp s.length)).getD 0=a;unfold sliceRange;simp only[Int.one_pos,gt_iff_lt,if_true,List.length_map,List.length_range];split <;> simp <;> exact U40 _ _ (by assumption)
   rw[e2] at hlen;unfold Cr;generalize (hi.map (Bp s.length)).getD s.length=b at *;generalize (lo.map (Bp s.length)).getD 0=a at *;by_cases hs:s.length=0
   ·have:s=[]:=List.length_eq_zero_iff.mp hs;subst this;simp
   ·have ha:a=0:=by exact lin 3 0 [.e (.s Z0 Z1) Z2,.l Z0 Z2,.n (.e Z2 (.c 0))] (.e Z1 (.c 0)) [[],[],[0,0,0,0,0,1],[0,0,1,1,0,1],[],[0,1,0,0,1,0],[0,0,0,0,0,1],[0,0,1,0,1,0]] R0 _ _ _ hlen hb hs
    have hb':b=s.length:=by exact lin 3 0 [.e (.s Z0 Z1) Z2,.e Z1 (.c 0)] (.e Z0 Z2) [[0,0,1,0,1,1],[0,1,0,1,0,1],[1,0,0,1,0,0],[1,0,0,1,0,0]] R0 _ _ _ hlen ha
    subst ha hb';simp
  rw[this]
 ·congr 1;rw[← h];simp
theorem MH (s:T) (c:Nat):(!(Builtin.Str.occurrences (S s) (S [c]) 0 (S s).length 1).isEmpty)=s.contains c:=by
 have:=StrLaws.found_one (S s) c;rw[show (S [c])=({ cps:=#[c] }:Str) from rfl,this];rw[Bool.eq_iff_iff];simp[S];exact decide_eq_true_iff
theorem Pt (sep:T):∀ts:List T,Txt.join (S sep) (ts.map S)=S (AR sep ts):=by
 intro ts;unfold Txt.join;rw[StrLaws.glued_eq_join];induction ts with
 | nil=>rfl
 | cons a r ih =>
  cases r with
  | nil=>rfl
  | cons b r =>
   have e:Str.join (S sep) ((a::b::r).map S)=S a++S sep++Str.join (S sep) ((b::r).map S):=rfl;rw[e,ih,Hr,Hr];simp only[AR]
theorem CJ {α:Type} (p:α->Bool) (l:List α):l.drop (l.takeWhile p).length=l.dropWhile p:=by
 induction l with
 | nil=>rfl
 | cons a r ih=>by_cases h:p a=true <;> simp[h,ih]
theorem Ks (s:T) (i j:Nat):Builtin.Str.strSub (S s) i j=S ((s.take j).drop i):=by
 apply Rg;simp[Builtin.Str.strSub,S,List.drop_take]
theorem HU:(#[32]:Array Nat).contains=fun c=>c==32:=by
 funext c;by_cases h:c=32 <;> simp[h]
theorem PP (s:T):Txt.stripChars (S s) (S [32])=S (AQ s):=by
 have hg:(S [32]).cps.contains=fun c=>c==32:=HU;unfold Txt.stripChars;rw[PySem.W.stripBy_eq,hg];unfold W.stripped;rw[Ks];congr 1;simp only[if_true,MM,CP];rw[CJ];unfold AQ;have hl:(s.takeWhile (fun c=>c==32)).length+(s.dropWhile (fun c=>c==32)).length=s.length:=by
  have:=congrArg List.length (List.takeWhile_append_dropWhile (p:=fun c=>c==32) (l:=s));rw[List.length_append] at this;exact this
 rw[List.drop_take,CJ];generalize s.dropWhile (fun c=>c==32)=d at *;have hl2:(d.reverse.takeWhile (fun c=>c==32)).length+(d.reverse.dropWhile (fun c=>c==32)).length=d.length:=by
  have:=congrArg List.length (List.takeWhile_append_dropWhile (p:=fun c=>c==32) (l:=d.reverse));rw[List.length_append,List.length_reverse] at this;exact this
 have hk:s.length - (d.reverse.takeWhile (fun c=>c==32)).length - (s.takeWhile (fun c=>c==32)).length=(d.reverse.dropWhile (fun c=>c==32)).length:=by exact lin 5 0 [.e (.a Z0 Z1) Z2,.e (.a Z3 Z2) Z4] (.e (.s (.s Z4 Z0) Z3) Z1) [[1,0,1,0,0,0,1],[0,1,0,1,0,0,1],[1,0,1,0,0,1,1],[0,0,0,0,0,0,1],[1,0,1,0,1,0,1],[0,0,0,0,0,0,1],[1,0,1,0,1,1,1],[0,0,0,0,0,0,1]] R0 _ _ _ _ _ hl2 hl
 rw[hk];have hd:d=(d.reverse.dropWhile (fun c=>c==32)).reverse++(d.reverse.takeWhile (fun c=>c==32)).reverse:=by
  rw[← List.reverse_append,List.takeWhile_append_dropWhile,List.reverse_reverse]
 conv=>lhs;rw[hd]
 rw[List.take_append_of_le_length (by simp)];rw[List.take_of_length_le (by simp)]
theorem OQ (s:T):Txt.lstripChars (S s) (S [32])=S (MI s):=by
 have hg:(S [32]).cps.contains=fun c=>c==32:=HU;unfold Txt.lstripChars;rw[PySem.W.stripBy_eq,hg];unfold W.stripped;rw[Ks];congr 1;simp only[if_true,MM,CP,Bool.false_eq_true,if_false];rw[List.take_length,CJ];rfl
theorem HP:∀ts:List T,ts≠[]->(∀t∈ts,32∉t)->BE (AR [32] ts)=ts
 | [],h,_=>absurd rfl h
 | [x],_,hf=>by
  have:∀x:T,32∉x->BE x=[x]:=by
   intro x;induction x with
   | nil=>intro _;rfl
   | cons c r ih =>
    intro hx;have hc:c≠32:=fun z=>hx (z▸.head _);simp only[BE,hc,if_false];rw[ih (fun z=>hx (.tail _ z))]
  exact this x (hf x (.head _))
 | x::y::r,_,hf=>by
  have ih:=HP (y::r) (by simp) (fun t ht=>hf t (.tail _ ht));have:∀x:T,32∉x->BE (x++[32]++AR [32] (y::r))=x::y::r:=by
   intro x;induction x with
   | nil=>intro _;simp only[List.nil_append,List.singleton_append,BE,if_true];rw[ih]
   | cons c q ihx =>
    intro hx;have hc:c≠32:=fun z=>hx (z▸.head _);simp only[List.cons_append,BE,hc,if_false];rw[ihx (fun z=>hx (.tail _ z))]
  exact this x (hf x (.head _))
theorem Qh (s:T):Txt.split (S s) (S [32])=(BE s).map S:=by
 have h1:=StrLaws.join_split (S s) (S [32]);have h2:=StrLaws.split_free (S s) 32;rw[show ({ cps:=#[32] }:Str)=S [32] from rfl] at h2;generalize hx:Txt.split (S s) (S [32])=ps at *;obtain⟨ts,rfl⟩ : ∃ts:List T,ps=ts.map S:=⟨ps.map (·.cps.toList),by simp[TE,Function.comp_def]⟩;have hj:Str.join (S [32]) (ts.map S)=S (AR [32] ts):=by rw[← Pt];unfold Txt.join;rw[StrLaws.glued_eq_join]
 rw[hj] at h1;have e:=F4 h1;have hne:ts≠[]:=by
  rintro rfl;simp at hx;unfold Txt.split at hx;split at hx
  ·exact xCN hx
  ·split at hx
   ·exact xCN hx
   ·rw[StrLaws.partsBetween_eq] at hx;refine NS (StrLaws.partsFrom_ne (S s) (S [32]).length 0 (Builtin.Str.occurrences (S s) (S [32]) 0 (S s).length ((S s).length+1))) fun p r e=>?_;rw[e] at hx;exact xCN hx
 rw[← e,HP ts hne];intro t ht;have:=h2 (S t) (List.mem_map.mpr (Ai t ht rfl));simpa [S] using this
theorem Pb (s t:T):Txt.startswith (S s) (S t)=t.isPrefixOf s:=by
 unfold Txt.startswith;rw[StrLaws.subAt_eq];simp only[CP,MM,List.drop_zero];rw[Bool.eq_iff_iff];simp only[Bool.and_eq_true,decide_eq_true_eq,beq_iff_eq,List.isPrefixOf_iff_prefix];constructor
 ·intro z1_;refine An z1_ fun _ h=>?_;clear z1_;rw[← h];exact List.take_prefix _ _
 ·intro z2_;refine Aq z2_ fun r z3_=>?_;clear z2_;subst z3_;simp
theorem Ss (s t:T):Txt.endswith (S s) (S t)=t.isSuffixOf s:=by
 unfold Txt.endswith;rw[StrLaws.subAt_eq];simp only[CP,MM];rw[Bool.eq_iff_iff];simp only[Bool.and_eq_true,decide_eq_true_eq,beq_iff_eq,List.isSuffixOf_iff_suffix];constructor
 ·intro z1_;refine An z1_ fun h1 h=>?_;clear z1_;have:(s.drop (s.length - t.length)).length=t.length:=by simp;exact lin 2 0 [.l (.a (.c 0) Z0) Z1] (.e (.s Z1 (.s Z1 Z0)) Z0) [[0,0,0,1],[0,0,0,1],[0,0,1,1],[0,0,1,0],[1,1,0,0],[1,1,0,0],[1,1,0,0]] R0 _ _ h1
  rw[List.take_of_length_le (by exact lin 2 0 [.e Z0 Z1] (.l Z0 Z1) [[1,0,1]] R0 _ _ this)] at h;rw[← h];exact List.drop_suffix _ _
 ·intro z2_;refine Aq z2_ fun r z3_=>?_;clear z2_;subst z3_;simp
theorem L9 (s:T) (c i:Nat):StrLaws.At (S s) (S [c]) (S s).length i↔s[i]?=some c:=by
 have:=StrLaws.subAt_one (S s) c i;unfold StrLaws.At;rw[show (S [c])=({ cps:=#[c] }:Str) from rfl,this];simp[S]
theorem Sj {c i:Nat} (h:FO s c=some i):Txt.find (S s) (S [c])=i/\(Builtin.Str.occurrences (S s) (S [c]) 0 (S s).length 1).isEmpty=false:=by
 unfold FO at h;rw[List.findIdx?_eq_some_iff_getElem] at h;refine e1a2 h fun hl h1 h2=>?_;clear h;have hi:s[i]?=some c:=by rw[List.getElem?_eq_getElem hl];congr 1;simpa using h1
 rcases StrLaws.occ_head (S s) (S [c]) 1 (by exact lin 0 0 [] (.l (.c 1) (.c 1)) [] R0) with ⟨_,hn⟩ | ⟨j,r,e,ha,hb⟩
 ·exact absurd ((L9 s c i).mpr hi) (hn i)
 ·have hj:=(L9 s c j).mp ha;have:j=i:=by
   rcases Nat.lt_trichotomy j i with q | q | q
   ·have:=h2 j q;have hjl:=(List.getElem?_eq_some_iff.mp hj);refine Aq hjl fun hjl hje=>?_;rw[hje] at this;simp at this
   ·exact q
   ·exact absurd ((L9 s c i).mpr hi) (hb i q)
  subst this;exact⟨by unfold Txt.find;rw[e],by rw[e];rfl⟩
theorem Uf (i:Int):Str.ofString (toString i)=S (Cu i):=Rg (signs_ofString _)
end
section
noncomputable def Iw:Op->Operator
 | .add=>.Add
 | .sub=>.Sub
 | .mul=>.Mult
 | .fdiv=>.FloorDiv
 | .mod=>.Mod
 | .pow=>.Pow
noncomputable def Pw:Cop->CmpOp
 | .eq=>.Eq
 | .ne=>.NotEq
 | .lt=>.Lt
 | .le=>.LtE
 | .gt=>.Gt
 | .ge=>.GtE
structure POk (p:Prm):Prop where
 frag:p.K.In p.base
 sysM:∃o,p.base.get? sysModules=some o
 dig:p.base.NoDigits
theorem Bd (h:Heap):h.get? h.objs.size=none:=by unfold Heap.get?;simp
theorem Hf {n k:Nat} (hk:0 < k) (h:n < 2 ^ k):n.log2 < k:=by
 by_cases z:n=0
 ·subst z;simpa using hk
 ·exact(Nat.log2_lt z).mpr h
theorem Mp {i:Int} (h:i.natAbs < 2 ^ 63):Builtin.Int.intBits i<=64:=by
 unfold Builtin.Int.intBits;split
 ·exact lin 0 0 [] (.l (.c 0) (.c 64)) [] R0
 ·have:=Hf (by decide:0 < 63) h;exact lin 1 0 [.t Z0 (.c 63)] (.l (.a Z0 (.c 1)) (.c 64)) [] R0 _ this
theorem Br:LIM<=sizeLine:=by unfold LIM sizeLine;decide
section
variable {p:Prm} {C:Ctx} {P:Heap} {m:Loc} {σ:Store} {δ:Nat->Nat} {A:Around} {s:Shared} {E:QW}
theorem DV {ws:List Value} {tk n:Nat} (x:St p C P m σ δ s.heap) (r:Rels s.heap ws vs) (q:∀a,σ a=none->Q (.ref a) (σ.set a (.lst vs))) :
  PV p C P m s Q (.ref s.heap.objs.size) { s with heap:=s.heap.push { cls:=.type "list",data:=.seq ws.toArray n },toks:=tk }:=by
 have k:∀b o,s.heap.get? b=some o->(s.heap.push { cls:=.type "list",data:=.seq ws.toArray n }).get? b=some o:=fun b o e=>Heap.get?_push_of_some _ e;have hn:s.heap.get? s.heap.objs.size=none:=Bd _;refine⟨_,tk,.ref s.heap.objs.size,_,δ,rfl,.of_keeps k,.ref _,x.new (c:=.lst vs) hn (fun z=>z) k (BD ws n (Heap.get?_push_size _ rfl) (r.keeps k)) (x.dicts_ne hn),q _ (x.fresh hn)⟩
theorem BL (x:St p C P m σ δ s.heap) {a:Nat} {vs:List V} (h:Ag σ (.ref a)=some vs):∃ws,s.heap.IsList a ws.toArray/\Rels s.heap ws vs:=by
 have h:(match σ a with | some (.lst vs)=>some vs | some (.fin vs)=>some vs | _=>none)=some vs:=h;have y:=x.rep.at_ a;generalize σ a=c at h y;cases c with
 | none=>exact xNS h
 | some c =>
  have y:=y c rfl;cases c with
  | lst vs'=>obtain rfl:=xSS h;exact Exists.elim y fun ws y=>Exists.elim y fun n y=>(Ai ws (B9 _ y.1 rfl ⟨n,rfl⟩) y.2)
  | fin vs'=>obtain rfl:=xSS h;exact Exists.elim y fun ws y=>(Ai ws (Exists.elim y.1 fun o z=>(Ai o (x.stays _ _ (x.base _ _ z.1)) z.2)) (y.2.keeps fun b o e=>x.stays _ _ (x.base _ _ e)))
  | _=>exact xNS h
theorem Fg (K:POk p) (x:St p C P m σ δ s.heap) {a:Nat} {kvs:List (T × V)} {ep:Nat} (h:σ a=some (.dct ep kvs)):(a==sysModules)=false:=by
 rw[beq_eq_false_iff_ne];rintro rfl;refine Aq K.sysM fun o ho=>?_;have:=(x.off sysModules (.inl (Ai _ h trivial))).1;cases q:P.get? sysModules with
 | none =>
  have:=x.base _ _ ho;rw[q] at this;exact xNS this
 | some o'=>rw[this] at q;exact xNS q
theorem Qy {a b:Nat} {xs ys:List V} (x:St p C P m σ δ s.heap) (e1:Ag σ (.ref a)=some xs) (e2:Ag σ (.ref b)=some ys) (h:newL σ (xs++ys) Q) :
  wpAny (model p.prog p.w) A (binaryOp .Add (.ref a) (.ref b)) (PV p C P m s Q) E s:=by
 refine e1a2 (BL x e1) fun ws1 z1_ r1=>?_;refine B2 z1_ fun z2_ ho hc z3_=>?_;clear z1_;obtain⟨cls,dd,data,sl⟩:=z2_;refine Aq z3_ fun n hd=>?_;clear z3_;refine e1a2 (BL x e2) fun ws2 z4_ r2=>?_;refine B2 z4_ fun z5_ ho2 hc2 z6_=>?_;clear z4_;obtain⟨cls2,dd2,data2,sl2⟩:=z5_;refine Aq z6_ fun n2 hd2=>?_;clear z6_;simp only at hc hd hc2 hd2;subst hc hd hc2 hd2;refine concat_meets (Ai _ ho rfl) (Ai _ ho2 rfl) noFill_list_add seq_list_add PySem.F.slot_list_add PySem.F.entry_list_add (PySem.F.args_list_add_2 _ _)
  (list_addW _ _ ws1.toArray ws2.toArray n n2 dd dd2 sl sl2 (by have:=h.1;have:=r1.length;have:=r2.length;have:=Br;simp only[List.length_append] at *;simp only[List.size_toArray];exact lin 6 0 [.e Z0 Z1,.e Z2 Z3,.l (.a Z3 Z1) Z4,.l Z4 Z5] (.l (.a Z2 Z0) Z5) [[1,0,1,0,1,1,1]] R0 _ _ _ _ _ _ (by assumption) (by assumption) this (by assumption))) (Bk ho ho2 ?_)
 rw[show ws1.toArray++ws2.toArray=(ws1++ws2).toArray by simp];exact DV x (r1.append r2) h.2
theorem Si {op:Op} {a b:Value} {v w:V} (x:St p C P m σ δ s.heap) (ra:Rel s.heap a v) (rb:Rel s.heap b w) (h:binSem op v w σ Q) :
  wpAny (model p.prog p.w) A (binaryOp (Iw op) a b) (PV p C P m s Q) E s:=by
 cases h with
 | add_int h=>exact ra.e_int fun t=>rb.e_int fun u=>add_int (PV.now x (.int _ _) h)
 | add_str l h =>
  exact ra.e_str fun t=>rb.e_str fun u=>add_str (fun t' tk=>PV.now x (Hr _ _▸Rel.str _ _) h) (by have:=Br;simp only[CP];exact lin 4 0 [.l (.a Z0 Z1) Z2,.l Z2 Z3] (.l (.a Z0 Z1) Z3) [] R0 _ _ _ _ l this)
 | add_lst xs ys e1 e2 h=>exact ra.e_ref (rb.e_ref (Qy x e1 e2 h))
 | sub_int h=>exact ra.e_int fun t=>rb.e_int fun u=>sub_int (PV.now x (.int _ _) h)
 | mul_int l h=>exact ra.e_int fun t=>rb.e_int fun u=>mul_int (PV.now x (.int _ _) h) (l.elim (fun h=>.of_left (Mp h)) fun h=>.of_right (Mp h))
 | div_int h0 h1 h =>
  exact ra.e_int fun t=>rb.e_int fun u=>floordiv_int (Int.ne_of_gt h0) (PV.now x (.int _ _) (Int.fdiv_eq_ediv_of_nonneg _ (Int.le_of_lt h0)▸h)) (.inl (PyProof.noPylong_of_log2 (Nat.lt_trans (Hf (k:=63) (by decide) (by exact lin 0 1 [.T (.c 0) (.v 0),.T (.v 0) (.c 9223372036854775808)] (.t (.b (.v 0)) (.c 9223372036854775808)) [[0,1,0,1],[1,0,1,0]] R0 _ h0 h1)) (by decide))))
 | mod_int h0 h=>exact ra.e_int fun t=>rb.e_int fun u=>mod_int' (Int.ne_of_gt h0) (PV.now x (.int _ _) (Int.fmod_eq_emod_of_nonneg _ (Int.le_of_lt h0)▸h))
 | pow_int h0 h1 h2 h=>exact ra.e_int fun t=>rb.e_int fun u=>pow_int_small h0 h1 (Nat.lt_trans h2 (by decide)) (PV.now x (.int _ _) h)
theorem R1 {a:Value} (x:St p C P m σ δ s.heap) (ra:Rel s.heap a v) (h:negSem v σ Q) :
  wpAny (model p.prog p.w) A (unaryOp .USub a) (PV p C P m s Q) E s:=by
 cases h with
 | mk h=>exact ra.e_int fun t=>neg_int (PV.now x (.int _ _) h)
mutual
noncomputable def EN:V->PyData
 | .none=>.none
 | .bool b=>.bool b
 | .int i=>.int i
 | .str s=>.str (S s)
 | .tup vs=>.tuple (Cm vs)
 | .ref _=>.none
 | .rng _ _ _=>.none
noncomputable def Cm:List V->List PyData
 | []=>[]
 | a::r=>EN a::Cm r
end
theorem HI:(∀{w:Value} {v:V},Rel h w v->∀n,V.ok n v=true->∃as,Reads h w (EN v) as)/\(∀{ws:List Value} {vs:List V},Rels h ws vs->∀n,B6 n vs=true->∃as,ReadsAll h ws (Cm vs) as):=by
 have t:∀{a:Nat} {ws:List Value} {vs:List V},IsTup h a ws.toArray->(∀n,B6 n vs=true->∃as,ReadsAll h ws (Cm vs) as)->∀n,V.ok n (.tup vs)=true->∃as,Reads h (.ref a) (EN (.tup vs)) as:=fun {a ws vs} ht ih n e=>by
  have e:(decide (n≠0)&&B6 (n - 1) vs)=true:=e;rw[Bool.and_eq_true] at e;refine Aq (ih _ e.2) fun as r=>?_;refine B2 ht fun o ho hc z1_=>?_;clear ht;refine Aq z1_ fun k hd=>?_;clear z1_;exact⟨as,.tuple ho hc hd (by simpa using r)⟩
 have c:∀{w:Value} {v:V} {ws:List Value} {vs:List V},(∀n,V.ok n v=true->∃as,Reads h w (EN v) as)->(∀n,B6 n vs=true->∃as,ReadsAll h ws (Cm vs) as)->∀n,B6 n (v::vs)=true->∃as,ReadsAll h (w::ws) (Cm (v::vs)) as:=fun {w v ws vs} a b n e=>by
  have e:(V.ok n v&&B6 n vs)=true:=e;rw[Bool.and_eq_true] at e;refine Aq (a _ e.1) fun as r=>?_;refine Aq (b _ e.2) fun bs q=>?_;exact⟨_,.cons r q⟩
 constructor
 ·intro w v r;exact Rel.rec (motive_1:=fun w v _=>∀n,V.ok n v=true->∃as,Reads h w (EN v) as) (motive_2:=fun ws vs _=>∀n,B6 n vs=true->∃as,ReadsAll h ws (Cm vs) as)
   (fun _ _=>⟨_,.none⟩) (fun b _ _=>⟨_,.bool b⟩) (fun i t _ _=>⟨_,.int i t⟩) (fun _ t _ _=>⟨_,.str _ t⟩) (fun _ n e=>by exact xFT e) (fun a _ ih=>t a ih) (fun _ n e=>by exact xFT e) (fun _ _=>⟨_,.nil⟩) (fun _ _ a b=>c a b) r
 ·intro ws vs r;exact Rels.rec (motive_1:=fun w v _=>∀n,V.ok n v=true->∃as,Reads h w (EN v) as) (motive_2:=fun ws vs _=>∀n,B6 n vs=true->∃as,ReadsAll h ws (Cm vs) as)
   (fun _ _=>⟨_,.none⟩) (fun b _ _=>⟨_,.bool b⟩) (fun i t _ _=>⟨_,.int i t⟩) (fun _ t _ _=>⟨_,.str _ t⟩) (fun _ n e=>by exact xFT e) (fun a _ ih=>t a ih) (fun _ n e=>by exact xFT e) (fun _ _=>⟨_,.nil⟩) (fun _ _ a b=>c a b) r
theorem IA (r:Rel h w v) (e:V.ok n v=true):∃as,Reads h w (EN v) as:=HI.1 r n e
theorem Mm {ws:List Value} (r:Rels h ws vs) (e:B6 n vs=true):∃as,ReadsAll h ws (Cm vs) as:=HI.2 r n e
mutual
theorem MR:∀(v:V) {n:Nat},V.ok n v=true->(EN v).canLay0=true/\(EN v).depth<=n
 | .none,_,_=>⟨rfl,Nat.zero_le _⟩
 | .bool _,_,_=>⟨rfl,Nat.zero_le _⟩
 | .int _,_,_=>⟨rfl,Nat.zero_le _⟩
 | .str s,_,e=>by
  have e:(s.all fun c=>decide (c < 1114112))=true:=e;refine⟨?_,Nat.zero_le _⟩;show PyData.strOk (S s)=true;rw[PyData.strOk];simpa [S] using e
 | .tup vs,n,e=>by
  have e:(decide (n≠0)&&B6 (n - 1) vs)=true:=e;rw[Bool.and_eq_true,decide_eq_true_eq] at e;have a:=dats_lay vs e.2;show PyData.canLayAll0 (Cm vs)=true/\PyData.depthAll (Cm vs)+1<=n;exact⟨a.1,by have:=a.2;have:=e.1;omega⟩
 | .ref _,_,e=>nomatch e
 | .rng _ _ _,_,e=>nomatch e
theorem dats_lay:∀(vs:List V) {n:Nat},B6 n vs=true->PyData.canLayAll0 (Cm vs)=true/\PyData.depthAll (Cm vs)<=n
 | [],_,_=>⟨rfl,Nat.zero_le _⟩
 | v::vs,n,e=>by
  have e:(V.ok n v&&B6 n vs)=true:=e;rw[Bool.and_eq_true] at e;have a:=MR v e.1;have b:=dats_lay vs e.2;exact⟨(Bool.and_eq_true _ _).mpr ⟨a.1,b.1⟩,Nat.max_le.mpr ⟨a.2,b.2⟩⟩
end
theorem K7 {ws:List Value} (r:Rels h ws vs):vs.all V.isStr=true->∃ys:List T,vs=ys.map V.str/\StrsAre ws (ys.map S):=
 r.ind (M:=fun ws vs=>vs.all V.isStr=true->∃ys:List T,vs=ys.map V.str/\StrsAre ws (ys.map S)) (fun _=>(Ai [] rfl .nil)) fun {w v ws vs} a _ ih e=>by
  rw[List.all_cons,Bool.and_eq_true] at e;refine e1a2 (ih e.2) fun ys z1_ q=>?_;subst z1_;have e:=e.1;cases v <;> try (first | exact xFT e | clear e)
  exact a.e_str fun t=>(Ai (_::ys) rfl (.cons _ t q))
theorem Kg {ws:List Value} (r:Rels h ws vs):vs.all Dp=true->∃ys:List Int,vs=ys.map V.int/\IntsAre ws ys:=
 r.ind (M:=fun ws vs=>vs.all Dp=true->∃ys:List Int,vs=ys.map V.int/\IntsAre ws ys) (fun _=>(Ai [] rfl .nil)) fun {w v ws vs} a _ ih e=>by
  rw[List.all_cons,Bool.and_eq_true] at e;refine e1a2 (ih e.2) fun ys z1_ q=>?_;subst z1_;have e:=e.1;cases v <;> try (first | exact xFT e | clear e)
  exact a.e_int fun t=>(Ai (_::ys) rfl (.cons _ t q))
theorem Fe (ys:List T) (c:T):((ys.map V.str).any fun x=>V.same x (.str c))=(ys.map S).any fun x=>x==S c:=by
 induction ys with
 | nil=>rfl
 | cons y ys ih=>rw[List.map_cons,List.any_cons,List.map_cons,List.any_cons,ih];congr 1;show (y==c)=(S y==S c);rw[Bool.eq_iff_iff];simp[Hv]
theorem Fx (ys:List Int) (c:Int):((ys.map V.int).any fun x=>V.same x (.int c))=ys.any fun x=>x==c:=by
 induction ys with
 | nil=>rfl
 | cons y ys ih=>rw[List.map_cons,List.any_cons,List.any_cons,ih];congr 1
theorem QH (a b:T):(S a==S b)=decide (a=b):=by rw[Bool.eq_iff_iff];simp[Hv]
theorem T3 (a b:T):(S a != S b)=decide (a≠b):=by rw[bne,QH];simp
theorem M0 {α:Type} [DecidableEq α] (a b:α):(a != b)=decide (a≠b):=by rw[Bool.eq_iff_iff];simp
theorem M1 {α:Type} [DecidableEq α] (a b:α):(a==b)=decide (a=b):=by rw[Bool.eq_iff_iff];simp
theorem EB (kvs:List (T × V)) (k:T):(Da kvs k).isSome=kvs.any fun p=>p.1==k:=by
 unfold Da;induction kvs with
 | nil=>rfl
 | cons p r ih =>
  rw[List.lookup_cons,List.any_cons];by_cases e:p.1=k
  ·simp[e]
  ·have e2:(k==p.1)=false:=by simpa using fun z=>e z.symm
   have e3:(p.1==k)=false:=by simpa using e
   rw[e2,e3,Bool.false_or];exact ih
theorem GJ {ws:List (Str × Value)} (r:Prs h ws kvs) (k:T):(valueAt ws (S k)).isSome=kvs.any fun p=>p.1==k:=by
 have:=r.get k;rw[← EB];cases q:Da kvs k with
 | none=>rw[q] at this;rw[this];rfl
 | some v=>rw[q] at this;refine e1a2 this fun w e _=>?_;clear this;rw[e];rfl
theorem DG (p:Prm) (k:T) (t:Tok):(PySem.strKind p.prog p.w).is (S k) (.str (S k) t)=true:=by
 show Value.isStrOf (S k) (.str (S k) t)=true;exact beq_self_eq_true _
theorem Rq {a b:Value} {tv:List V} (x:St p C P m σ δ s.heap) (ra:Rel s.heap a (.tup tv)) (rb:Rel s.heap b (.tup tv)) (hu:A.units+100 < cLine) (ok:B6 8 tv=true) (h:Q (.bool false) σ) :
  wpAny (model p.prog p.w) A (compareOp .NotEq a b) (PV p C P m s Q) E s:=by
 have ok':V.ok 9 (.tup tv)=true:=ok;refine Aq (IA ra ok') fun as r1=>?_;refine Aq (IA rb ok') fun bs r2=>?_;have c:=MR _ ok';have sh:SeqAt.shaped (EN (.tup tv))=true:=by have:=c.2;unfold SeqAt.shaped;rw[c.1];simp;omega
 refine ne_dataH r1 r2 sh sh (by have:=c.2;exact U41 _ _ hu) (Au x (.bool _) ?_);rw[SeqAt.eqv_refl _ c.1];exact h
theorem R3 {a b:Nat} (x:St p C P m σ δ s.heap) (hu:A.units+100 < cLine) (e1:Ag σ (.ref a)=some xs) (e2:Ag σ (.ref b)=some []) (ok:B6 8 xs=true) (h:Q (.bool xs.isEmpty) σ) :
  wpAny (model p.prog p.w) A (compareOp .Eq (.ref a) (.ref b)) (PV p C P m s Q) E s:=by
 refine e1a2 (BL x e1) fun ws1 z1_ r1=>?_;refine B2 z1_ fun o ho hc z2_=>?_;clear z1_;refine Aq z2_ fun n hd=>?_;clear z2_;refine e1a2 (BL x e2) fun ws2 l2 r2=>?_;have z:ws2=[]:=r2.inv;subst z;refine B2 l2 fun o2 ho2 hc2 z3_=>?_;clear l2;refine Aq z3_ fun n2 hd2=>?_;clear z3_;refine Aq (Mm r1 ok) fun as q1=>?_;have c:=dats_lay _ ok;have sh:SeqAt.shaped (.list (Cm xs))=true:=by have:=c.2;unfold SeqAt.shaped;rw[PyData.canLay0,PyData.depth,c.1];simp;omega
 refine eq_dataH (.list ho hc hd (by simpa using q1)) (.list ho2 hc2 hd2 (by simpa using .nil)) sh (by rfl) (by have:=c.2;exact U41 _ _ hu) (Au x (.bool _) ?_);cases xs <;> exact h
theorem RB {op:Cop} {a b:Value} {v w:V} (x:St p C P m σ δ s.heap) (ra:Rel s.heap a v) (rb:Rel s.heap b w) (hu:A.units+100 < cLine) (h:cmpSem op v w σ Q) :
  wpAny (model p.prog p.w) A (compareOp (Pw op) a b) (PV p C P m s Q) E s:=by
 cases h with
 | eq_int h=>exact ra.e_int fun t=>rb.e_int fun u=>eq_int (Au x (.bool _) (by rw[M1];exact h))
 | ne_int h=>exact ra.e_int fun t=>rb.e_int fun u=>ne_int (Au x (.bool _) (by rw[M0];exact h))
 | lt_int h=>exact ra.e_int fun t=>rb.e_int fun u=>lt_int (Au x (.bool _) h)
 | le_int h=>exact ra.e_int fun t=>rb.e_int fun u=>le_int (Au x (.bool _) h)
 | gt_int h=>exact ra.e_int fun t=>rb.e_int fun u=>gt_int (Au x (.bool _) h)
 | ge_int h=>exact ra.e_int fun t=>rb.e_int fun u=>ge_int (Au x (.bool _) h)
 | eq_str h=>exact ra.e_str fun t=>rb.e_str fun u=>eq_str (Au x (.bool _) (by rw[QH];exact h))
 | ne_str h=>exact ra.e_str fun t=>rb.e_str fun u=>ne_str (Au x (.bool _) (by rw[T3];exact h))
 | eq_bool h=>exact ra.e_bool (rb.e_bool (eq_bool (Au x (.bool _) (by rw[M1];exact h))))
 | ne_bool h=>exact ra.e_bool (rb.e_bool (ne_bool (Au x (.bool _) (by rw[M0];exact h))))
 | ne_tup ok h=>exact Rq x ra rb hu ok h
 | eq_lst xs e1 e2 ok h=>exact ra.e_ref (rb.e_ref (R3 x hu e1 e2 ok h))
theorem HC {a:Value} (r:Rel h a v):PySem.plainIs a .none=true/\(a==Value.none)=DE v:=
 Rel.casesOn (motive_1:=fun a v _=>PySem.plainIs a .none=true/\(a==Value.none)=DE v) r ⟨rfl,rfl⟩ (fun _=>⟨rfl,rfl⟩) (fun _ _=>⟨rfl,rfl⟩) (fun _ _=>⟨rfl,rfl⟩) (fun _=>⟨rfl,rfl⟩) (fun _ _=>⟨rfl,rfl⟩) fun _=>⟨rfl,rfl⟩
theorem RK {a:Value} (x:St p C P m σ δ s.heap) (ra:Rel s.heap a v) (h:Q (.bool (DE v)) σ) :
  wpAny (model p.prog p.w) A (compareOp .Is a .none) (PV p C P m s Q) E s:=by
 refine An (HC ra) fun h1 h2=>?_;exact wpAny_is_plain h1 (Au x (.bool _) (by rw[h2];exact h))
theorem Qw {a:Value} (x:St p C P m σ δ s.heap) (ra:Rel s.heap a v) (h:Q (.bool !(DE v)) σ) :
  wpAny (model p.prog p.w) A (compareOp .IsNot a .none) (PV p C P m s Q) E s:=by
 refine An (HC ra) fun h1 h2=>?_;exact wpAny_isNot_plain h1 (Au x (.bool _) (by rw[h2];exact h))
theorem JT (x:St p C P m σ δ s.heap) {b:Value} {w:V} {vs:List V} (rb:Rel s.heap b w) (h:C3 σ w=some vs) :
  ∃a ws,b=.ref a/\Rels s.heap ws vs/\(IsTup s.heap a ws.toArray∨s.heap.IsList a ws.toArray):=by
 cases w <;> try cases h
 ·exact rb.e_tup fun a ws ht hs=>(AZ _ _ rfl hs (.inl ht))
 ·exact rb.e_ref (Exists.elim (BL x h) fun ws l=>(AZ _ ws rfl l.2 (.inr l.1)))
theorem RH (h:dictAt σ (.ref a)=some kvs):∃ep,σ a=some (.dct ep kvs):=by
 have h:(match σ a with | some (.dct _ kvs)=>some kvs | _=>none)=some kvs:=h;generalize σ a=c at h;cases c with
 | none=>exact xNS h
 | some c=>cases c <;> (first | exact xNS h | obtain rfl:=xSS h);exact⟨_,rfl⟩
inductive DictIs (p:Prm) (σ:Store) (h:Heap) (kvs:List (T × V)):Value->Prop
 | mk (a:Nat) (ws:List (Str × Value)) (ep:Nat):σ a=some (.dct ep kvs)->h.DictOf (PySem.strKind p.prog p.w) a ws->Prs h ws kvs->DictIs p σ h kvs (.ref a)
theorem F1 (x:St p C P m σ δ s.heap) {b:Value} {w:V} {kvs:List (T × V)} (rb:Rel s.heap b w) (h:dictAt σ w=some kvs):DictIs p σ s.heap kvs b:=by
 cases w <;> try cases h
 exact rb.e_ref (Exists.elim (RH h) fun ep e=>Exists.elim (x.rep.at_ _ _ e) fun ws y=>⟨_,ws,ep,e,y.1.dictOf,y.2⟩)
inductive InR (σ:Store):V->V->Bool->Prop
 | chr {c:Nat} {s:T}:InR σ (.str [c]) (.str s) (s.contains c)
 | stl {c:T} {w:V} (vs:List V):C3 σ w=some vs->vs.all V.isStr=true->InR σ (.str c) w (vs.any fun x=>V.same x (.str c))
 | key {c:T} {w:V} (kvs:List (T × V)):dictAt σ w=some kvs->InR σ (.str c) w (kvs.any fun p=>p.1==c)
 | itl {i:Int} {w:V} (vs:List V):C3 σ w=some vs->vs.all Dp=true->InR σ (.int i) w (vs.any fun x=>V.same x (.int i))
theorem InR.str {c:T} {w:V} {r:Bool} (h:(match C3 σ w with
  | some vs=>if vs.all V.isStr then some (vs.any fun x=>V.same x (.str c)) else none
  | none=>(dictAt σ w).map fun kvs=>kvs.any fun p=>p.1==c)=some r):InR σ (.str c) w r:=by
 cases q:C3 σ w with
 | some vs =>
  rw[q] at h;cases k:vs.all V.isStr with
  | true=>dsimp only at h;rw[k] at h;obtain rfl:=xSS h;exact .stl vs q k
  | false=>dsimp only at h;rw[k] at h;exact xNS h
 | none =>
  rw[q] at h;refine e1a2 (Option.map_eq_some_iff.mp h) fun kvs e z1_=>?_;subst z1_;exact .key kvs e
theorem InR.of {v w:V} {r:Bool} (h:BR v w σ=some r):InR σ v w r:=by
 cases v with
 | str c =>
  cases c with
  | nil=>exact .str h
  | cons c r =>
   cases r with
   | cons _ _=>exact .str h
   | nil=>cases w <;> first | exact .str h | (obtain rfl:=xSS h;exact .chr)
 | int i =>
  have h:(match C3 σ w with
   | some vs=>if vs.all Dp then some (vs.any fun x=>V.same x (.int i)) else none
   | none=>none)=some r:=h
  cases q:C3 σ w with
  | none=>rw[q] at h;exact xNS h
  | some vs =>
   rw[q] at h;cases k:vs.all Dp with
   | true=>dsimp only at h;rw[k] at h;obtain rfl:=xSS h;exact .itl vs q k
   | false=>dsimp only at h;rw[k] at h;exact xNS h
 | _=>exact xNS h
theorem Um {a b:Value} {v w:V} {r:Bool} (K:POk p) (x:St p C P m σ δ s.heap) (ra:Rel s.heap a v) (rb:Rel s.heap b w) (h:BR v w σ=some r) (q:Q (.bool r) σ) :
  wpAny (model p.prog p.w) A (compareOp .In a b) (PV p C P m s Q) E s:=by
 cases InR.of h with
 | chr=>exact ra.e_str fun t=>rb.e_str fun u=>in_str (Au x (.bool _) (MH _ _▸q))
 | stl vs e hs =>
  refine ra.e_str fun t=>?_;refine Cc (JT x rb e) fun a ws z1_ rs hl=>?_;subst z1_;refine e1a2 (K7 rs hs) fun ys z2_ sa=>?_;subst z2_;rw[Fe] at q;exact hl.elim (fun hl=>in_tuple_strs hl sa (Au x (.bool _) q)) fun hl=>in_list_strs hl sa (Au x (.bool _) q)
 | itl vs e hs =>
  refine ra.e_int fun t=>?_;refine Cc (JT x rb e) fun a ws z3_ rs hl=>?_;subst z3_;refine e1a2 (Kg rs hs) fun ys z4_ sa=>?_;subst z4_;rw[Fx] at q;exact hl.elim (fun hl=>in_tuple_ints hl sa (Au x (.bool _) q)) fun hl=>in_list_ints hl sa (Au x (.bool _) q)
 | key kvs e =>
  refine ra.e_str fun t=>?_;obtain⟨a,ws,ep,hσ,d,pr⟩:=F1 x rb e;exact wpAny_in_of (knd:=PySem.strKind p.prog p.w) (DG p _ _) (Fg K x hσ) d.mapOf (PV.now x (.bool _) (GJ pr _▸q))
theorem RM {a b:Value} {v w:V} {r:Bool} (K:POk p) (x:St p C P m σ δ s.heap) (ra:Rel s.heap a v) (rb:Rel s.heap b w) (h:BR v w σ=some r) (q:Q (.bool !r) σ) :
  wpAny (model p.prog p.w) A (compareOp .NotIn a b) (PV p C P m s Q) E s:=by
 cases InR.of h with
 | chr=>exact ra.e_str fun t=>rb.e_str fun u=>notIn_str (Au x (.bool _) (MH _ _▸q))
 | stl vs e hs =>
  refine ra.e_str fun t=>?_;refine Cc (JT x rb e) fun a ws z1_ rs hl=>?_;subst z1_;refine e1a2 (K7 rs hs) fun ys z2_ sa=>?_;subst z2_;rw[Fe] at q;exact hl.elim (fun hl=>notin_tuple_strs hl sa (Au x (.bool _) q)) fun hl=>notin_list_strs hl sa (Au x (.bool _) q)
 | itl vs e hs =>
  refine ra.e_int fun t=>?_;refine Cc (JT x rb e) fun a ws z3_ rs hl=>?_;subst z3_;refine e1a2 (Kg rs hs) fun ys z4_ sa=>?_;subst z4_;rw[Fx] at q;exact hl.elim (fun hl=>notin_tuple_ints hl sa (Au x (.bool _) q)) fun hl=>notin_list_ints hl sa (Au x (.bool _) q)
 | key kvs e =>
  refine ra.e_str fun t=>?_;obtain⟨a,ws,ep,hσ,d,pr⟩:=F1 x rb e;exact wpAny_notIn_of (knd:=PySem.strKind p.prog p.w) (DG p _ _) (Fg K x hσ) d.mapOf (PV.now x (.bool _) (GJ pr _▸q))
end
end
section
section
variable {p:Prm} {C:Ctx} {P:Heap} {m:Loc} {σ:Store} {δ:Nat->Nat} {A:Around} {s:Shared} {E:QW}
theorem Aw (h:Heap) (o:Obj):∀b ob,h.get? b=some ob->(h.push o).get? b=some ob:=fun _ _ e=>Heap.get?_push_of_some _ e
theorem Hs {a b:Value} {v w:V} (x:St p C P m σ δ s.heap) (ra:Rel s.heap a v) (rb:Rel s.heap b w) (h:idxSem v w σ Q) :
  (∃T id,s.TypeIs a T/\typeLookup (.type T) "__getitem__"=pure (some (.builtin id)))/\wpAny (model p.prog p.w) A (getItem a b) (PV p C P m s Q) E s:=by
 have line:=Br;cases h with
 | @str l i c hlen h0 h1 h =>
  refine ra.e_str fun t=>rb.e_int fun u=>?_;have hl:i.toNat < l.length:=(List.getElem?_eq_some_iff.mp h1).1;unfold LIM at hlen;refine⟨(BD _ _ (typeIs_str _ _ _) PySem.F.slot_str_getitem.lookup),PyProof.Rows.getItem_str (c:=c) ?_ ?_ (PV.now x (.str [c] _) h)⟩
  ·simp;exact lin 1 1 [.L (.c 0) (.v 0),.l Z0 (.c 8000000),.t (.t (.v 0)) Z0] (.a (.L (.c (-9223372036854775808)) (.v 0)) (.T (.v 0) (.c 9223372036854775808))) [[],[0,1,0,1,1],[1,0,0,0,1],[0,0,1,0,1]] (by kernel_rfl) _ _ h0 hlen hl
  ·rw[CP,StrLaws.seqIndex_nonneg h0 (by exact lin 1 1 [.t (.t (.v 0)) Z0] (.T (.v 0) (.o Z0)) [[0,1,1]] R0 _ _ hl)];simpa [S] using h1
 | @tup l i y hlen h0 h1 h =>
  refine rb.e_int fun u=>ra.e_tup fun a ws ht hs=>?_;refine e1a2 (hs.get h1) fun z hz rz=>?_;have hl:i.toNat < l.length:=(List.getElem?_eq_some_iff.mp h1).1;have hlw:=hs.length;unfold LIM at hlen;exact⟨(BD _ _ (Exists.elim ht fun o q=>(Ai o q.1 q.2.1)) PySem.F.slot_tuple_getitem.lookup),getItem_tuple ht (by exact lin 0 1 [.L (.c 0) (.v 0)] (.L (.c (-9223372036854775808)) (.v 0)) [] (by kernel_rfl) _ h0) (by exact U42 _ _ hlen hl) (StrLaws.seqIndex_nonneg h0 (by rw[List.size_toArray];exact U43 _ _ _ hlw hl)) (List.getElem?_toArray.trans hz) (Au x rz h)⟩
 | @lst a j i vs y e hlen hj hy h =>
  refine ra.e_ref (rb.e_int fun u=>?_);refine e1a2 (BL x e) fun ws hl rs=>?_;refine e1a2 (rs.get hy) fun z hz rz=>?_;have hlw:=rs.length;refine⟨(BD _ _ hl.typeIs PySem.F.slot_list_getitem.lookup),?_⟩;unfold M3 at hj;by_cases q:0<=i/\i < vs.length
  ·rw[if_pos q] at hj;obtain rfl:=xSS hj;unfold LIM at hlen;exact wpAny_getItem_list hl q.1 (by exact lin 1 1 [.a (.L (.c 0) (.v 0)) (.T (.v 0) (.o Z0)),.l Z0 (.c 8000000)] (.T (.v 0) (.c 9223372036854775808)) [[0,1,1,1]] R0 _ _ q hlen) (List.getElem?_toArray.trans hz) (Au x rz h)
  ·rw[if_neg q] at hj;by_cases q:-(vs.length:Int)<=i/\i < 0
   ·rw[if_pos q] at hj;obtain rfl:=xSS hj;refine wpAny_getItem_list_neg hl q.2 (by simp;exact lin 2 1 [.a (.L (.n (.o Z0)) (.v 0)) (.T (.v 0) (.c 0)),.e Z1 Z0] (.L (.n (.o Z1)) (.v 0)) [[1,0,0,1,1]] (by kernel_rfl) _ _ _ q hlw) (by unfold LIM at hlen;exact lin 1 1 [.a (.L (.n (.o Z0)) (.v 0)) (.T (.v 0) (.c 0)),.l Z0 (.c 8000000)] (.L (.c (-9223372036854775808)) (.v 0)) [[1,0,1,1]] (by kernel_rfl) _ _ q hlen) (x:=z) ?_ (Au x rz h);rw[List.size_toArray,hlw];exact List.getElem?_toArray.trans hz
   ·rw[if_neg q] at hj;exact xNS hj
 | dct e hy h =>
  refine rb.e_str fun u=>?_;obtain⟨a,ws,ep,hσ,d,pr⟩:=F1 x ra e;have:=pr.get ‹_›;rw[hy] at this;refine e1a2 this fun z hz rz=>?_;clear this;exact⟨(BD _ _ d.typeIs PySem.F.slot_dict_getitem.lookup),wpAny_getItem_of (knd:=PySem.strKind p.prog p.w) (DG p _ _) d.mapOf hz (PV.now x rz h)⟩
theorem G5 {z:Value} {vz:V} {o:Option Int} (r:Rel h z vz) (e:Fv vz=some o):∃q:Option (Int × Tok),z=partValue q/\q.map (·.1)=o/\IsPart z o:=by
 cases vz <;> (first | exact xNS e | obtain rfl:=xSS e | obtain rfl:=xSS e)
 ·exact r.e_none (B9 none rfl rfl .none)
 ·exact r.e_int fun t=>(B9 (some (_,t)) rfl rfl (.int _ _))
theorem Sz {a l u:Value} {v vl vu:V} (x:St p C P m σ δ s.heap) (ra:Rel s.heap a v) (rl:Rel s.heap l vl) (ru:Rel s.heap u vu) (h:slcSem v vl vu σ Q) :
  let s':Shared:={ s with heap:=s.heap.push { cls:=.type "slice",data:=.fields #[l,u,.none] } }
  (∃T id,s'.TypeIs a T/\typeLookup (.type T) "__getitem__"=pure (some (.builtin id)))/\wpAny (model p.prog p.w) A (getItem a (.ref s.heap.objs.size)) (PV p C P m s Q) E s':=by
 have k1:=Aw s.heap { cls:=.type "slice",data:=.fields #[l,u,.none] };have sl:(s.heap.push { cls:=.type "slice",data:=.fields #[l,u,.none] }).get? s.heap.objs.size=some { cls:=.type "slice",data:=.fields #[l,u,.none] }:=Heap.get?_push_size _ rfl;have line:=Br;cases h with
 | @str c lo hi h1 h2 hlen h =>
  refine ra.e_str fun t=>?_;refine B2 (G5 rl h1) fun ql el ml pl=>?_;refine B2 (G5 ru h2) fun qu eu mu pu=>?_;have kept:KeptH fun h'=>∀b o,s.heap.get? b=some o->h'.get? b=some o:=fun h ob z b o e=>Heap.get?_push_of_some _ (z b o e);have hsz:(S c).length<=sizeLine:=by rw[CP];exact Nat.le_trans hlen line
  have fin:∀(a b:Option Int),a=lo->b=hi->∀(h':Heap) (t':Tok) (k:Nat),(∀b o,s.heap.get? b=some o->h'.get? b=some o)->PV p C P m s Q (.str (Txt.slice (S c) a b) t') { s with heap:=h',toks:=k }:=by
   rintro a b rfl rfl h' t' k kk;rw[PI];exact PV.here x kk (.str _ _) h
  have out:ItemOn (model p.prog p.w) A E (.str (S c) t) (.ref s.heap.objs.size) (PV p C P m s Q) { s with heap:=s.heap.push { cls:=.type "slice",data:=.fields #[l,u,.none] } }:=by
   subst el eu;rcases ql with _ | ⟨i,ti⟩ <;> rcases qu with _ | ⟨j,tj⟩
   ·exact SBH.sliceItem_nn kept (fun _ _ e=>e) (fun h' t' k z=>fin _ _ ml mu h' t' k z) hsz
   ·exact SBH.sliceItem_ns kept (fun _ _ e=>e) (fun h' t' k z=>fin _ _ ml mu h' t' k z) hsz
   ·exact SBH.sliceItem_sn kept (fun _ _ e=>e) (fun h' t' k z=>fin _ _ ml mu h' t' k z) hsz
   ·exact SBH.sliceItem_ss kept (fun _ _ e=>e) (fun h' t' k z=>fin _ _ ml mu h' t' k z) hsz
  refine Cc out fun T id h1 h2 h3=>?_;clear out;exact⟨(BD T id h2 h1),h3⟩
 | @lst a vs lo hi h1 h2 e hlen h =>
  refine ra.e_ref ?_;refine e1a2 (BL x e) fun ws hl rs=>?_;have hl':(s.heap.push { cls:=.type "slice",data:=.fields #[l,u,.none] }).IsList a ws.toArray:=Exists.elim hl fun o q=>(Ai o (k1 _ _ q.1) q.2);have rc:Rels s.heap (Cr ws lo hi) (Cr vs lo hi):=by unfold Cr;rw[rs.length];exact(rs.take _).drop _
  have:=rs.length;refine⟨(BD _ _ hl'.typeIs PySem.F.slot_list_getitem.lookup),wpAny_getItem_list_slice hl' (B9 _ sl rfl rfl) (Exists.elim (G5 rl h1) fun _ q=>q.2.2) (Exists.elim (G5 ru h2) fun _ q=>q.2.2) .none (by simp) ?_ (by rw[List.size_toArray];exact U44 _ _ _ _ this line hlen)⟩;rw[Io];exact(DV (s:={ s with heap:=s.heap.push { cls:=.type "slice",data:=.fields #[l,u,.none] } }) (x.keeps k1) (rc.keeps k1) h.2).from (.of_keeps k1)
theorem Jx {l:Addr} {items:Array Value} {k:Int} {t:Tok} {v:Value} {Q:QU} (ho:s.heap.get? l=some { cls:=.type "list",data:=.seq items n })
  (h0:0<=k) (hfit:k < 2 ^ 63) (hn:k < items.size)
  (hQ:∀h' n',h'.get? l=some { cls:=.type "list",data:=.seq (items.setIfInBounds k.toNat v) n' }->Heap.SameBut l s.heap h'->Q () { s with heap:=h' }) :
  wpAny (model p.prog p.w) A (setItem (.ref l) (.int k t) v) Q E s:=by
 have hl:s.heap.IsList l items:=(B9 _ ho rfl ⟨n,rfl⟩);unfold setItem
 try with_reducible refine wpAny_holding ?_
 first | refine wpAny_bind (wpAny_pure ?_) | skip
 refine wpAny_bind (wpAny_sequenceKey hl.typeIs (by decide) ?_);refine wpAny_bind (wpAny_callSpecial?_slot (name:=Str.ofString "__setitem__") hl.typeIs slot_list_setitem
  (wpAny_call_entry slot_list_setitem hl.typeIs entry_list_setitem ?_ (args_list_setitem _ _ _)))
 show wpAny _ _ (Builtin.List.listSubscript? (.int k t) >>= _) _ _ s;refine wpAny_bind (wpAny_listSubscript_int (fitsIndex_of h0 hfit) ?_);clear hfit;refine Aq (Int.eq_ofNat_of_zero_le h0) fun j z1_=>?_;subst z1_;have hj:j < items.size:=by exact U5 _ _ hn
 have hx':items[j]?=some items[j]:=Array.getElem?_eq_getElem hj;show wpAny _ _ ((seqItemAt l j >>= fun r=>pure (r.map (j,·))) >>= _) _ _ s;refine wpAny_bind (wpAny_bind (wpAny_seqItemAt ho rfl (wpAny_pure ?_)));rw[hx'];show wpAny _ _ (setSeqItemAt l j v >>= _) _ _ s;have hfin:(s.heap.update l (Obj.mapSeq (·.setIfInBounds j v))).get? l=some { cls:=.type "list",data:=.seq (items.setIfInBounds j v) n }:=by
  rw[Heap.get?_update_self _ ho (by simp[Obj.mapSeq];rfl)];simp[Obj.mapSeq]
 refine wpAny_bind (wpAny_setSeqItemAt ho rfl ?_)
 first
  | exact wpAny_bind (wpAny_pure (wpAny_pure (Ai .none rfl (wpAny_pure (hQ _ _ hfin (Heap.SameBut.update ..))))))
  | exact wpAny_pure ⟨.none,rfl,wpAny_pure (hQ _ _ hfin (Heap.SameBut.update ..))⟩
theorem Rels.set (r:Rel h w v) {ws:List Value} {vs:List V} (q:Rels h ws vs):∀i,Rels h (ws.set i w) (vs.set i v):=
 q.ind (M:=fun ws vs=>∀i,Rels h (ws.set i w) (vs.set i v)) (fun _=>.nil) fun a b ih i=>Nat.casesOn (motive:=fun i=>Rels h (List.set (_::_) i w) (List.set (_::_) i v)) i (.cons r b) fun i=>.cons a (ih i)
inductive setPost (p:Prm) (C:Ctx) (P:Heap) (m:Loc) (s:Shared) (Q:Store->Prop) (s':Shared):Prop
 | mk (h':Heap) (tk:Tok) (σ':Store) (δ':Nat->Nat):s'={ s with heap:=h',toks:=tk }->KeepI s.heap h'->St p C P m σ' δ' h'->Q σ'->setPost p C P m s Q s'
theorem HD {a b c:Value} {v w u:V} {Q:Store->Prop} (x:St p C P m σ δ s.heap) (ra:Rel s.heap a v) (rb:Rel s.heap b w) (rc:Rel s.heap c u) (h:setISem v w u σ Q) :
  wpAny (model p.prog p.w) A (setItem a b c) (fun _=>setPost p C P m s Q) E s:=by
 have line:=Br;cases h with
 | @dct a ep k kvs e hlen h =>
  refine ra.e_ref (rb.e_str fun t=>?_);refine e1a2 (x.rep.at_ _ _ e) fun ws d pr=>?_;refine wpAny_setItem_pairs (knd:=PySem.strKind p.prog p.w) (DG p _ _) d.dictOf (fun h' d' hs=>?_) (by have:=pr.length;exact U44 _ _ _ _ this line hlen);refine Aq d'.dictAt fun ep' d'=>?_;have z:=x.setAt e trivial (c':=.dct ep' (Cf kvs k u)) ⟨fun z=>z,fun z=>z⟩ hs (fun ki=>(Ai _ d' ((pr.put rc).inert ki)));exact⟨h',_,_,δ,rfl,z.2,z.1,h ep'⟩
 | @lst a i vs e hlen h0 hj h =>
  refine ra.e_ref (rb.e_int fun t=>?_);refine Be (x.rep.at_ _ _ e) fun ws n ho rs=>?_;have:=rs.length;unfold LIM at hlen;refine Jx ho h0 (by exact U42 _ _ hlen hj) (by simp;exact U43 _ _ _ this hj) (fun h' n' ho' hs=>?_);have z:=x.setAt e trivial (c':=.lst (vs.set i.toNat u)) ⟨fun z=>z,fun z=>z⟩ hs (fun ki=>(BD (ws.set i.toNat c) n' (by rw[ho'];simp) ((rs.set rc _).inert ki)));exact⟨h',_,_,δ,rfl,z.2,z.1,h⟩
end
end
section
noncomputable def Pa:BF->Value
 | .len=>.builtin "len"
 | .ord=>.builtin "ord"
 | .str=>.type "str"
 | .isTup=>.builtin "isinstance"
 | .range=>.type "range"
noncomputable def P1:BF->List Value
 | .isTup=>[.type "tuple"]
 | _=>[]
noncomputable def Qg:BM->String
 | .join=>"str.join"
 | .strip=>"str.strip"
 | .lstrip=>"str.lstrip"
 | .split=>"str.split"
 | .startswith=>"str.startswith"
 | .endswith=>"str.endswith"
 | .index=>"str.index"
 | .get=>"dict.get"
 | .append=>"list.append"
 | .pop=>"dict.pop"
noncomputable def FY:BM->Str
 | .join=>"join"
 | .strip=>"strip"
 | .lstrip=>"lstrip"
 | .split=>"split"
 | .startswith=>"startswith"
 | .endswith=>"endswith"
 | .index=>"index"
 | .get=>"get"
 | .append=>"append"
 | .pop=>"pop"
section
variable {p:Prm} {C:Ctx} {P:Heap} {m:Loc} {σ:Store} {δ:Nat->Nat} {A:Around} {s:Shared} {E:QW}
theorem QD {f:BF} {ws:List Value} (K:POk p) (hA:f=.str->A.handled=none) (x:St p C P m σ δ s.heap) (r:Rels s.heap ws vs) (h:bfSem f vs σ Q) :
  wpAny (model p.prog p.w) A (call (Pa f) (ws++P1 f)) (PV p C P m s Q) E s:=by
 have line:=Br;unfold LIM at line;cases h with
 | len_str l h=>exact r.e1 fun a r=>r.e_str fun t=>SBL.len (by unfold LIM at l;rw[CP];exact lin 1 0 [.l Z0 (.c 8000000)] (.T (.o Z0) (.c 9223372036854775808)) [] R0 _ l) (PV.now x (CP _▸Rel.int _ _) h)
 | len_tup l h =>
  exact r.e1 fun a r=>r.e_tup fun b ws ht hs=>len_tuple ht (by unfold LIM at l;have:=hs.length;rw[List.size_toArray];exact U45 _ _ this l) (PV.now x (by rw[List.size_toArray,hs.length];exact .int _ _) h)
 | len_ref xs e l h =>
  refine r.e1 fun a r=>r.e_ref ?_;refine e1a2 (BL x e) fun ws l2 rs=>?_;have e:=rs.length;exact len_list l2 (by unfold LIM at l;rw[List.size_toArray];exact U45 _ _ e l) (PV.now x (by rw[List.size_toArray,e];exact .int _ _) h)
 | ord h=>exact r.e1 fun a r=>r.e_str fun t=>PySem.P.ord_of_char (PV.now x (.int _ _) h)
 | str l h =>
  exact r.e1 fun a r=>r.e_int fun t=>PyProof.Rows.str_of_int_or (hA rfl) (K.dig.keeps fun b o e=>x.stays _ _ (x.base _ _ e)) (fun _=>PV.now x (by rw[Uf];exact .str _ _) h) fun z=>absurd z (Nat.not_le.mpr l)
 | tup_t h =>
  exact r.e1 fun a r=>r.e_tup fun b ws ht hs=>call_isinstance_yes (Tx:="tuple") (Exists.elim ht fun o q=>(Ai o q.1 q.2.1)) PySem.F.isi_meta_tuple PySem.F.sub_tuple_tuple (Au x (.bool _) h)
 | tup_f xs e h =>
  refine r.e1 fun a r=>r.e_ref ?_;refine e1a2 (BL x e) fun ws z1_ rs=>?_;refine B2 z1_ fun o ho hc _=>?_;clear z1_;exact IsiPair.list_tuple ho hc (PV.now x (.bool _) h)
 | rng1 l h=>exact r.e1 fun a r=>r.e_int fun t=>call_range_1 (PV.here x (Aw _ _) (.rng (IsRange.new ..)) h)
 | rng3 h1 h2 h3 h4 h =>
  exact r.e_cons fun a _ ra r=>r.e2 fun b c rb rc=>ra.e_int fun t=>rb.e_int fun u=>rc.e_int fun v=>PySem.call_range_3 h4 (PV.here x (Aw _ _) (.rng (IsRange.new ..)) h) (.inl (PyProof.noPylong_of_log2 (Nat.lt_trans (Hf (k:=40) (by decide) h3) (by decide))))
theorem PD {f:BM} {a:Value} {pl:Sem Bool} {Q:Value × List Value->Shared->Prop} (x:St p C P m σ δ s.heap) (ra:Rel s.heap a v) (h:Hg f v σ) (q:Q (.builtin (Qg f),[a]) s) :
  wpAny (model p.prog p.w) A (getMethod a (FY f) pl) Q E s:=by
 cases h with
 | append h =>
  refine ra.e_ref (M:=fun a=>Q (.builtin (Qg .append),[a]) s->wpAny _ A (getMethod a (FY .append) pl) Q E s) (fun q=>?_) q;refine Be (x.rep.at_ _ _ h) fun ws n ho rs=>?_;exact getMethod_list_of slot_list_append type_list_append (B9 _ ho rfl ⟨n,rfl⟩) (Ai _ ho rfl) q
 | get h =>
  obtain⟨a,ws,ep,hσ,d,pr⟩:=F1 x ra h;exact getMethod_builtin d.typeIs PySem.F.plainAttrs_dict PySem.F.slot_dict_get PySem.F.type_dict_get d.mapOf.noDict q
 | pop h =>
  obtain⟨a,ws,ep,hσ,d,pr⟩:=F1 x ra h;exact getMethod_builtin d.typeIs PySem.F.plainAttrs_dict PySem.F.slot_dict_pop PySem.F.type_dict_pop d.mapOf.noDict q
 | str h =>
  refine ra.e_str (M:=fun a=>Q (.builtin (Qg f),[a]) s->wpAny _ A (getMethod a (FY f) pl) Q E s) (fun t q=>?_) q;cases f with
  | join=>exact GM.join q
  | strip=>exact GM.strip q
  | lstrip=>exact GM.lstrip q
  | split=>exact GM.split q
  | startswith=>exact GM.startswith q
  | endswith=>exact GM.endswith q
  | index=>exact GM.index q
  | _=>exact xFT h
theorem DU {c:Cell} (e:σ a=some c):σ.set a c=σ:=by
 funext b;unfold Store.set;split
 ·rename_i q;rw[q,e]
 ·rfl
theorem NT (h:Heap) (l:List (Str × Tok)):∀ts:List T,l.map (·.1)=ts.map S->Rels h (strValues l) (ts.map .str):=by
 induction l with
 | nil=>intro ts e;cases ts <;> (first | exact xNC e | clear e);exact .nil
 | cons x l ih =>
  intro ts e;cases ts with
  | nil=>exact xCN e
  | cons a ts =>
   have e1:x.1=S a:=(List.cons.inj e).1;obtain⟨x,t⟩:=x;subst e1;exact .cons (.str a t) (ih ts (List.cons.inj e).2)
theorem Rr {c y:Str} {t u:Tok} {Q:QW} (hy:(y.length==0)=false)
  (h:∀l k,l.map (·.1)=Txt.split c y->Q (.ref s.heap.objs.size) { s with heap:=s.heap.push { cls:=.type "list",data:=.seq (strValues l).toArray },toks:=k })
  (hsz:c.length+2<=sizeLine) :
  wpAny (model p.prog p.w) A (call (.builtin "str.split") [.str c t,.str y u]) Q E s:=by
 have hn:(Builtin.Str.partsBetween c (Builtin.Str.occurrences c y 0 c.length (c.length+1)) y.length).length<=sizeLine:=by
  have e1:=StrLaws.occ_length_le c y 0 c.length (c.length+1);rw[length_partsBetween];exact lin 3 0 [.l (.a Z0 (.c 2)) Z1,.l Z2 (.a Z0 (.c 1))] (.l (.a Z2 (.c 1)) Z1) [] R0 _ _ _ hsz e1
 cases h1:(decide (c.length < y.length)||decide (Builtin.Str.strKind c < Builtin.Str.strKind y))
 ·cases hf:(Builtin.Str.occurrences c y 0 c.length (c.length+1)).isEmpty
  ·refine call_meets PySem.F.slot_str_split (typeIs_str _ _ _) PySem.F.entry_str_split (PySem.F.args_str_split_2 _ _) (meets_str_split_sep c y t u h1 hy hf (by exact lin 2 0 [.l (.a Z0 (.c 2)) Z1] (.l Z0 Z1) [] R0 _ _ hsz) hn) ?_;rw[strsFrom_eq];exact h (numbered s.toks _) _ ((numbered_texts _ _).trans ((if_neg (ne_true_of_eq_false h1)).trans (if_neg (ne_true_of_eq_false hf))).symm)
  ·exact call_meets PySem.F.slot_str_split (typeIs_str _ _ _) PySem.F.entry_str_split (PySem.F.args_str_split_2 _ _) (meets_str_split_not_found c y t u h1 hy hf)
    (h [(c,t)] s.toks ((if_neg (ne_true_of_eq_false h1)).trans (if_pos hf)).symm)
 ·exact call_meets PySem.F.slot_str_split (typeIs_str _ _ _) PySem.F.entry_str_split (PySem.F.args_str_split_2 _ _) (meets_str_split_cannot_occur c y t u h1)
   (h [(c,t)] s.toks (if_pos h1).symm)
theorem LU {ws:List Value} (r:Rels h ws vs):∀{ts:List T},DM vs=some ts->StrsAre ws (ts.map S):=
 r.ind (M:=fun ws vs=>∀{ts:List T},DM vs=some ts->StrsAre ws (ts.map S)) (fun e=>by obtain rfl:=xSS e;exact .nil) fun {w v ws vs} a _ ih {ts} e=>by
  cases v <;> try cases e
  refine a.e_str fun t=>?_;have e:(DM vs).map _=some ts:=e;refine e1a2 (Option.map_eq_some_iff.mp e) fun q e2 z1_=>?_;subst z1_;exact .cons _ t (ih e2)
theorem OB {ws:List (Str × Value)} (r:Prs h ws kvs) (k:T) {w:Value} {v:V} (rd:Rel h w v):Rel h ((valueAt ws (S k)).getD w) ((Da kvs k).getD v):=by
 have:=r.get k;cases q:Da kvs k with
 | none=>rw[q] at this;rw[this];exact rd
 | some u=>rw[q] at this;refine e1a2 this fun z e rz=>?_;clear this;rw[e];exact rz
theorem PK {a ep:Nat} {t:Tok} (K:POk p) (x:St p C P m σ δ s.heap) (e:σ a=some (.dct ep kvs)) (hl:kvs.length<=LIM) (h:∀ep',Q ((Da kvs k).getD .none) (σ.set a (.dct ep' (Ij kvs k)))) :
  wpAny (model p.prog p.w) A (call (.builtin "dict.pop") [.ref a,.str (S k) t,.none]) (PV p C P m s Q) E s:=by
 have line:=Br;refine e1a2 (x.rep.at_ _ _ e) fun ws d pr=>?_;have d:=d.dictOf;have hlen:=pr.length;have g:=pr.get k;cases q:Da kvs k with
 | none =>
  rw[q] at g;simp only[q] at h;refine call_meetsIn PySem.F.slot_dict_pop d.typeIs PySem.F.entry_dict_pop (PySem.F.args_dict_pop_3 _ _ _) (meets_dict_pop_default (PySem.strKind p.prog p.w) _ (DG p _ _) (Fg K x e) rfl _) (B9 _ d g ?_);have e2:Ij kvs k=kvs:=by
   unfold Ij;rw[List.filter_eq_self];intro y hy;have hn:kvs.any (fun p=>p.1==k)=false:=by rw[← EB,q];rfl
   rw[List.any_eq_false] at hn;simpa using hn y hy
  have h:=h ep;rw[e2,DU e] at h;exact PV.now x .none h
 | some u =>
  rw[q] at g;simp only[q] at h;refine e1a2 g fun z hz rz=>?_;clear g;refine call_meetsIn PySem.F.slot_dict_pop d.typeIs PySem.F.entry_dict_pop (PySem.F.args_dict_pop_3 _ _ _) (meets_dict_pop_there (PySem.strKind p.prog p.w) _ (DG p _ _) _ (.inr ⟨_,rfl⟩) rfl) (Gz _ z d (by exact U22 _ _ _ _ hlen hl line) hz (fun h' d' hs=>?_));refine Aq d'.dictAt fun ep' d'=>?_;have y:=x.setAt e trivial (c':=.dct ep' (Ij kvs k)) ⟨fun z=>z,fun z=>z⟩ hs (fun ki=>(Ai _ d' ((pr.del k).inert ki)));exact⟨h',_,_,_,δ,rfl,y.2,rz.inert y.2,y.1,h ep'⟩
theorem Ot {sep:T} {t:Tok} {ts:List T} (x:St p C P m σ δ s.heap) (e1:Ag σ (.ref a)=some xs) (e2:DM xs=some ts) (h1:sep.length<=64) (h2:(ts.map List.length).sum+64*ts.length<=LIM) (h:Q (.str (AR sep ts)) σ) :
  wpAny (model p.prog p.w) A (call (.builtin "str.join") [.str (S sep) t,.ref a]) (PV p C P m s Q) E s:=by
 refine e1a2 (BL x e1) fun ws l rs=>?_;have sa:=LU rs e2;refine join_listC l sa (by rw[CP];exact h1) ?_ (fun t' k=>PV.now x (by rw[Pt];exact .str _ _) h);unfold LIM at h2;rw[List.map_map,List.length_map];have:((fun (x:Str)=>x.length) ∘ S)=List.length:=by funext t;exact CP t
 rw[this];exact lin 2 0 [.l (.a Z0 (.m 64 Z1)) (.c 8000000)] (.l (.a Z0 (.r Z1 64)) (.c 16777216)) [] R0 _ _ h2
theorem L7 (x:St p C P m σ δ s.heap) (r:Rel s.heap w v) (e:σ a=some (.lst xs)) (hl:xs.length<=LIM) (h:Q .none (σ.set a (.lst (xs++[v])))) :
  wpAny (model p.prog p.w) A (call (.builtin "list.append") [.ref a,w]) (PV p C P m s Q) E s:=by
 have line:=Br;refine Be (x.rep.at_ _ _ e) fun ws n ho rs=>?_;have:=rs.length;refine append_at ho (fun h' hs ho'=>?_) (by rw[List.size_toArray];exact U22 _ _ _ _ this hl line);have y:=x.setAt e trivial (c':=.lst (xs++[v])) ⟨fun z=>z,fun z=>z⟩ hs (fun ki=>(BD (ws++[w]) _ (by rw[ho'];simp;rfl) ((rs.append (.cons r .nil)).inert ki)));exact⟨h',s.toks,.none,_,δ,rfl,y.2,.none,y.1,h⟩
theorem Ub {f:BM} {a:Value} {ws:List Value} (K:POk p) (hA:f=.index->A.handled=none) (x:St p C P m σ δ s.heap) (ra:Rel s.heap a v) (r:Rels s.heap ws vs) (h:bmSem f v vs σ Q) :
  wpAny (model p.prog p.w) A (call (.builtin (Qg f)) (a::ws)) (PV p C P m s Q) E s:=by
 have line:=Br;cases h with
 | join xs ts e1 e2 h1 h2 h=>exact ra.e_str fun t=>r.e1 fun b rb=>rb.e_ref (Ot x e1 e2 h1 h2 h)
 | strip l h=>exact ra.e_str fun t=>r.e1 fun b rb=>rb.e_str fun u=>SCL.stripChars (fun t' k _=>PV.now x (by rw[PP];exact .str _ _) h) (by rw[CP];exact U46 _ _ _ l line)
 | lstrip l h=>exact ra.e_str fun t=>r.e1 fun b rb=>rb.e_str fun u=>SCL.lstripChars (fun t' k _=>PV.now x (by rw[OQ];exact .str _ _) h) (by rw[CP];exact U46 _ _ _ l line)
 | split l h =>
  refine ra.e_str fun t=>r.e1 fun b rb=>rb.e_str fun u=>Rr rfl (fun l k e=>?_) (by unfold LIM at l;rw[CP];unfold sizeLine;exact lin 1 0 [.l Z0 (.c 8000000)] (.l (.a Z0 (.c 2)) (.c 16777216)) [] R0 _ l);rw[Qh] at e;exact DV x (NT _ _ _ e) h
 | starts h=>exact ra.e_str fun t=>r.e1 fun b rb=>rb.e_str fun u=>SC.startswith (Au x (by rw[Pb];exact .bool _) h)
 | ends h=>exact ra.e_str fun t=>r.e1 fun b rb=>rb.e_str fun u=>SC.endswith (Au x (by rw[Ss];exact .bool _) h)
 | index e h =>
  have f:=Sj e;exact ra.e_str fun t=>r.e1 fun b rb=>rb.e_str fun u=>index_or (hA rfl) (fun z=>by rw[f.1] at z;exact(lin 1 0 [.E (.o Z0) (.c (-1))] .f [[1,0]] (by kernel_rfl) _ z).elim) (fun _ _=>PV.now x (by rw[f.1];exact .int _ _) h)
 | get e h =>
  refine ra.e_ref (r.e2 fun b c rb rc=>rb.e_str fun u=>?_);refine e1a2 (x.rep.at_ _ _ e) fun ws d pr=>?_;have d:=d.dictOf;exact call_meetsIn PySem.F.slot_dict_get d.typeIs PySem.F.entry_dict_get (PySem.F.args_dict_get_3 _ _ _) (meets_dict_get_default (PySem.strKind p.prog p.w) _ (DG p _ _) (Fg K x e) _) (Ai _ d.mapOf (PV.now x (OB pr _ rc) h))
 | append e l h=>exact ra.e_ref (r.e1 fun b rb=>L7 x rb e l h)
 | pop e l h=>exact ra.e_ref (r.e2 fun b c rb rc=>rb.e_str fun u=>rc.e_none (PK K x e l h))
end
end
section
noncomputable def tyN:Value->Option String
 | .type n=>some n
 | _=>none
noncomputable def N7:List Value->Option (List String)
 | []=>some []
 | v::r=>(tyN v).bind fun n=>(N7 r).map (n::·)
noncomputable def PH:Value->Option Addr
 | .ref a=>some a
 | _=>none
noncomputable def GB:List Value->Bool
 | []=>false
 | v::r=>if (PH v).isSome then GB r else (N7 (v::r)==some ["object"])||(N7 (v::r)==some ["Exception","BaseException","object"])
noncomputable def K8 (K:Frag) (C:Addr):Bool:=(clsIn K C).any fun cd=>GB cd.mro
structure MroOk (l:List Value):Prop where
 ne:l.isEmpty=false
 has:l.contains (.type "object")=true
 ref:∀v,refuseLoop v "__setattr__" l=pure ()
theorem RI {v:Value} {n:String} (h:tyN v=some n):v=.type n:=by
 cases v <;> (first | exact xNS h | obtain rfl:=xSS h);rfl
theorem M2:∀{l:List Value} {ns:List String},N7 l=some ns->l=ns.map .type:=by
 intro l;induction l with
 | nil=>intro ns h;obtain rfl:=xSS h;rfl
 | cons v r ih =>
  intro ns h;refine e1a2 (Option.bind_eq_some_iff.mp (show (tyN v).bind _=some ns from h)) fun n e h=>?_;refine e1a2 (Option.map_eq_some_iff.mp h) fun q e2 z1_=>?_;subst z1_;rw[RI e,ih e2];rfl
theorem Q6 {v:Value} (h:(PH v).isSome=true):∃a,v=.ref a:=by
 cases v <;> first | exact⟨_,rfl⟩ | exact xFT h
theorem Lr {l:List Value} (h:GB l=true):MroOk l:=by
 induction l with
 | nil=>exact xFT h
 | cons v r ih =>
  have h:(if (PH v).isSome then GB r else (N7 (v::r)==some ["object"])||(N7 (v::r)==some ["Exception","BaseException","object"]))=true:=h;by_cases q:(PH v).isSome=true
  ·rw[if_pos q] at h;refine Aq (Q6 q) fun c z1_=>?_;subst z1_;have y:=ih h;exact⟨rfl,by rw[List.contains_cons,y.has,Bool.or_true],fun v=>by rw[refuseLoop_ref];exact y.ref v⟩
  ·rw[if_neg q,Bool.or_eq_true,beq_iff_eq,beq_iff_eq] at h;rcases h with h | h
   ·rw[M2 h];exact⟨rfl,rfl,PySem.F.store_object.passes⟩
   ·rw[M2 h];exact⟨rfl,rfl,PySem.F.store_Exception.passes⟩
theorem HM {prog:Program} {w:World} {A:Around} {K:Frag} {C x:Addr} {s:Shared} {R:Result->Shared->Prop} {ox:Obj} {od:Option Obj} {n:Str} {tk:Tok} {v:Value} (X:K.In s.heap) (I:W.InstAt s.heap x ox C od) (ho:K8 K C=true) (hf:findIn K (.ref C) n=some none)
  (h:∀b,wpAny (model prog w) A.in1 (Builtin.ObjectAttr.storeInOwnDict (.ref x) (.ref C) (.str n tk) n v b)
   (fun fin s'=>match fin with | .done f=>R (.ok f) s' | .again c'=>c'.quiet=true/\codeAny (model prog w) A c' R s') (fun e s'=>R (.error e) s') s) :
  codeAny (model prog w) A (.call (.builtin "object.__setattr__") ⟨[.ref x,.str n tk,v],[]⟩) R s:=by
 unfold K8 at ho;refine e1a2 (any_some ho) fun cd hc hp=>?_;have mo:=Lr hp;have LF:=looks_findIn (M:=model prog w) X hf;have LM:Looks (model prog w) s.heap (mroOf (.ref C)) cd.mro:=(looks_clsIn X hc).andThen .now;have hb:mroIn K C (.type "object")=some true:=by
  rw[mroIn,hc,Option.bind_some,mo.ne,mo.has];rfl
 have F:=PySem.F.store_object;refine codeAny_call_builtin F.slot.plain F.entry (check_slot (i:="object.__setattr__") (owner:="object") (n:="__setattr__") F.kind F.split (I.type.andThen (looks_mroIn X hb)) (F.args _ _ _) ?_);rw[osa_eq,refuse_eq];refine wpAny_bind (wpAny_bind (I.type.here (wpAny_bind (LM.here ?_))));rw[mo.ref];exact wpAny_pure (wpAny_bind (I.type.here (wpAny_bind (LF.here (wpAny_bind (wpAny_pure (h _)))))))
structure AOk (p:Prm):Prop where
 none_:∀c n,n∈attrNames->findIn p.K (.ref (p.cls c)) (S n)=some none
 ga:∀c,c≠.raised->findIn p.K (.ref (p.cls c)) "__getattribute__"=some (some (.builtin "object.__getattribute__"))
 gaX:findIn p.K (.ref (p.cls .raised)) "__getattribute__"=some (some (.builtin "BaseException.__getattribute__"))
 ghX:findIn p.K (.ref (p.cls .raised)) "__getattr__"=some none
 sa:∀c,findIn p.K (.ref (p.cls c)) "__setattr__"=some (some (.builtin "object.__setattr__"))
 over:∀c,K8 p.K (p.cls c)=true
 hasD:∀c,hasDictIn p.K (p.cls c)=true
 sup:mroIn p.K (p.cls .raised) (.type "BaseException")=some true
section
variable {p:Prm} {C:Ctx} {P:Heap} {m:Loc} {σ:Store} {δ:Nat->Nat} {A:Around} {s:Shared} {E:QW}
theorem Hz {K:Frag} {x C:Addr} {ox:Obj} {od:Option Obj} {name:Str} {expr:Bool} {Q:QW} {v:Value} (X:K.In s.heap) (I:W.InstAt s.heap x ox C od)
  (hga:findIn K (.ref C) "__getattribute__"=some (some (.builtin "BaseException.__getattribute__"))) (hgh:findIn K (.ref C) "__getattr__"=some none)
  (hsup:mroIn K C (.type "BaseException")=some true) (hf:findObj K C od name=some (.value v)) (hh:handedIn v=true) (h:Q v { s with toks:=s.toks+1 }) :
  wpAny (model p.prog p.w) A (getAttr (.ref x) name expr) Q E s:=by
 obtain⟨hp,g,d,t,os⟩:=s;have L0:=I.type (M:=model p.prog p.w);have L1:=looks_findIn (M:=model p.prog p.w) X hga;have L2:=looks_findIn (M:=model p.prog p.w) X hgh;have L3:=looks_find (M:=model p.prog p.w) X I hf;have FB:=PySem.F.attrBase_Exception;have sub:Looks (model p.prog p.w) hp (isInstance (.ref x) (.type "BaseException")) true:=L0.andThen (looks_mroIn X hsup);have hx0:(expr&&onTheHeap (Value.builtin "BaseException.__getattribute__"))=false:=by cases expr <;> rfl
 unfold getAttr getAttrBy;refine wpAny_bind (wpAny_mkText (wpAny_holding (wpAny_bind (L0.at (wpAny_bind (L1.at ?_))))));show wpAny _ _ (getAttrByItsOwn _ _ _ _ _ _) _ _ _;unfold getAttrByItsOwn;refine wpAny_bind (L2.at (wpAny_bind (wpAny_attempt (wpAny_holding ?_))));unfold callGetattribute;rw[hx0];simp only[Bool.false_eq_true,if_false];unfold boundAndCalled;rw[FB.ga.bind];refine wpAny_bind (wpAny_pure ?_);refine wpAny_call (codeAny_call_builtin FB.ga.plain PySem.F.entry_bexc_ga (check_slot (i:="BaseException.__getattribute__") (owner:="BaseException") (n:="__getattribute__") (by decide +kernel) (by decide +kernel) sub (PySem.F.args_bexc_ga _ _) ?_));unfold Builtin.«object.__getattribute__»;refine wpAny_bind (wpAny_pure (wpAny_bind (wpAny_pure (wpAny_bind (L0.at (wpAny_bind (L3.at ?_)))))));refine wpAny_pure ?_;show wpAny _ _ (handedOut v) _ _ _;rw[handedOut_of hh];exact wpAny_pure h
theorem EU (r:Rel h w v):handedIn w=true:=
 Rel.casesOn (motive_1:=fun w _ _=>handedIn w=true) r rfl (fun _=>rfl) (fun _ _=>rfl) (fun _ _=>rfl) (fun _=>rfl) (fun _ _=>rfl) fun _=>rfl
theorem NE {od:Obj} {es:Array DictEntry} {ep:Nat} {n:Str} (hd:od.data=.dict es ep) (e:nsFind es n=some w):lookIn n od=some (some w):=by
 unfold lookIn;rw[hd];unfold nsFind findBy at e;rw[Option.map_eq_some_iff] at e;obtain⟨q,e,rfl⟩:=e;have:List.find? (fun (x:DictEntry)=>x.key.isStr n) es.toList=some q:=by rw[← e];simp
 simp only[this]
theorem Mz {a:Value} {n:T} {expr:Bool} (K:POk p) (KA:AOk p) (hn:n∈attrNames) (x:St p C P m σ δ s.heap) (ra:Rel s.heap a v) (h:attrSem v n σ Q) :
  wpAny (model p.prog p.w) A (getAttr a (S n) expr) (PV p C P m s Q) E s:=by
 have X:p.K.In s.heap:=fun a o e=>x.stays _ _ (x.base _ _ (K.frag a o e));have fo:∀{c:Cls} {od:Obj} {es:Array DictEntry} {ep:Nat} {w:Value},od.data=.dict es ep->nsFind es (S n)=some w->findObj p.K (p.cls c) (some od) (S n)=some (.value w):=fun h3 hw=>findObj_own (KA.hasD _) (KA.none_ _ n hn) rfl (NE h3 hw);cases h with
 | @obj b k c at_ u e hu h =>
  refine ra.e_ref ?_;refine e1a2 (x.rep.at_ _ _ e) fun sl ho z1_=>?_;obtain⟨od,es,ep,h1,h2,h3,h4,h5,h7,h6⟩:=z1_;refine e1a2 (h6 n u hu) fun w hw rw'=>?_;have I:W.InstAt s.heap b ⟨.ref (p.cls c),some (δ b),.plain,sl⟩ (p.cls c) (some od):=⟨ho,rfl,rfl,h1⟩;by_cases q:c=.raised
  ·subst q;exact Hz X I KA.gaX KA.ghX KA.sup (fo h3 hw) (EU rw') (PV.now x rw' h)
  ·exact get_value X I (KA.ga c q) (fo h3 hw) (EU rw') (PV.now x rw' h)
 | @exc b st k at_ u e hu h =>
  refine ra.e_ref ?_;refine Cc (x.rep.at_ _ _ e) fun vs sl ho hf z2_=>?_;obtain⟨od,es,ep,h1,h2,h3,h4,h5,h7,h6⟩:=z2_;refine e1a2 (h6 n u hu) fun w hw rw'=>?_;exact Hz X (x:=b) (C:=p.cls .raised) (ox:=⟨.ref (p.cls .raised),some (δ b),.fields vs,sl⟩) (od:=some od) ⟨ho,rfl,rfl,h1⟩ KA.gaX KA.ghX KA.sup (fo h3 hw) (EU rw') (PV.now x rw' h)
theorem FE {es:Array DictEntry} {ep:Nat} (hk:StrKeys es) (name:Str) (hash:Int) (tok:Tok) (v:Value) :
  ∃es' ep',Obj.putName name hash (.str name tok) v { cls:=.type "dict",data:=.dict es ep }={ cls:=.type "dict",data:=.dict es' ep' }/\StrKeys es'/\es'.size<=es.size+1 /\
   ((nsFind es name).isSome=true->es'.size=es.size)/\∀x,nsFind es' x=if x=name then some v else nsFind es x:=by
 cases hi:es.findIdx? (·.key.isStr name) with
 | some i =>
  refine Ol _ _ (by simp only[Obj.putName_eq,Obj.putNameByArray,hi];rfl) (hk.modify _ _) (by simp) (fun _=>by simp) (fun x=>?_);exact findBy_modify (fun n v=>v.isStr n) Value.isStr_inj es name x v i hi
 | none =>
  refine Ol _ _ (by simp only[Obj.putName_eq,Obj.putNameByArray,hi];rfl) (hk.push _ _ _ _) (by simp) (fun z=>?_) (fun x=>?_)
  ·exfalso;unfold nsFind at z;rw[findBy_of_findIdx?,hi] at z;exact xFT z
  ·exact findBy_push (fun n v=>v.isStr n) es name x _ _ v (fun y=>by
    show (name==y)=decide (y=name);by_cases h:y=name
    ·subst h;simp
    ·have:¬name=y:=fun e=>h e.symm;simp[h,this]) hi
theorem K9 (kvs:List (T × V)) (k:T) (v:V) (x:T):(Cf kvs k v).lookup x=if x=k then some v else kvs.lookup x:=by
 unfold Cf;split
 ·rename_i h;have gen:∀l:List (T × V),(l.map (fun p=>if p.1==k then (p.1,v) else p)).lookup x=if x=k then (l.lookup x).map (fun _=>v) else l.lookup x:=by
   intro l;induction l with
   | nil=>simp
   | cons p r ih =>
    rw[List.map_cons,List.lookup_cons,List.lookup_cons];by_cases e:p.1=k
    ·have e1:(p.1==k)=true:=by simpa using e
     rw[e1];simp only[if_true];by_cases q:x=p.1
     ·have:(x==p.1)=true:=by simpa using q
      rw[this];simp[q.trans e]
     ·have q':(x==p.1)=false:=by simpa using q
      rw[q'];exact ih
    ·have e1:(p.1==k)=false:=by simpa using e
     rw[e1];simp only[Bool.false_eq_true,if_false];by_cases q:x=p.1
     ·have:(x==p.1)=true:=by simpa using q
      have nk:¬x=k:=fun z=>e (q▸z);rw[this];simp[nk]
     ·have q':(x==p.1)=false:=by simpa using q
      rw[q'];exact ih
  rw[gen];split
  ·rename_i e;subst e;have:=EB kvs x;rw[h] at this;unfold Da at this;cases q:kvs.lookup x with
   | none=>rw[q] at this;exact xFT this
   | some _=>rfl
  ·rfl
 ·rename_i h;rw[List.lookup_append];by_cases e:x=k
  ·subst e;have:=EB kvs x;rw[eq_false_of_ne_true h] at this;unfold Da at this;cases q:kvs.lookup x with
   | none=>simp
   | some _=>rw[q] at this;exact xTF this
  ·have e2:(x==k)=false:=by simpa using e
   simp[e,List.lookup_cons,e2]
theorem KK {es:Array DictEntry} {ep:Nat} (h:o.ExactDict) (d:o.data=.dict es ep):o={ cls:=.type "dict",data:=.dict es ep }:=by
 refine NK h fun a b c=>?_;clear h;obtain⟨w,x,y,z⟩:=o;simp only at a b c d;subst a b c d;rfl
theorem Attrs.put {h h':Heap} {da k:Nat} {n:T} {hash:Int} {tk:Tok} {od:Obj} {es:Array DictEntry} {ep:Nat}
  (h2:od.ExactDict) (h3:od.data=.dict es ep) (h4:StrKeys es) (h5:es.size<=k) (hn:n∈attrNames) (h7:∀x,(nsFind es x).isSome=true->∃k∈attrNames,x=S k) (h6:∀k v,at_.lookup k=some v->∃w,nsFind es (S k)=some w/\Rel h w v)
  (ki:KeepI h h') (r:Rel h w v) (e:h'.get? da=some (Obj.putName (S n) hash (.str (S n) tk) w od)):Attrs h' da (if (at_.lookup n).isSome then k else k+1) (Cf at_ n v):=by
 rw[KK h2 h3] at e;refine Lh (FE (ep:=ep) h4 (S n) hash tk w) fun es' ep' p1 p2 p3 p4 p5=>?_;rw[p1] at e;refine⟨_,es',ep',e,(Bk rfl rfl rfl),rfl,p2,?_,fun x hx=>?_,fun k' v' hk=>?_⟩
 ·split
  ·rename_i q;refine Aq (Option.isSome_iff_exists.mp q) fun v' hv=>?_;refine e1a2 (h6 n v' hv) fun w' hw _=>?_;rw[p4 (by rw[hw];rfl)];exact h5
  ·exact lin 3 0 [.l Z0 (.a Z1 (.c 1)),.l Z1 Z2] (.l Z0 (.a Z2 (.c 1))) [] R0 _ _ _ p3 h5
 ·rw[p5] at hx;split at hx
  ·exact Ai n hn (by assumption)
  ·exact h7 x hx
 ·rw[K9] at hk;rw[p5];split at hk
  ·rename_i q;subst q;obtain rfl:=xSS hk;exact Ai w (by simp) (r.inert ki)
  ·rename_i q;refine e1a2 (h6 k' v' hk) fun w' hw r'=>?_;have:¬S k'=S n:=fun z=>q (F4 z);exact Ai w' (by rw[if_neg this];exact hw) (r'.inert ki)
theorem I6 {d:Addr} {name:Str} {v:Value} {od:Obj} {es:Array DictEntry} {ep:Nat} {Q:QU} (ho:s.heap.get? d=some od) (hd:od.data=.dict es ep) (hk:StrKeys es)
  (h:Q () { s with heap:=s.heap.update d (Obj.putName name (hashStr p.w name) (.str name s.toks) v),toks:=s.toks+1 }):wpAny (model p.prog p.w) A (nsSet d name v) Q E s:=by
 have hany:es.any (·.refKey)=false:=by
  rw[Array.any_eq_false'];intro e he;refine NS (hk e he) fun n t h=>?_;simp[DictEntry.refKey,h]
 unfold nsSet;refine wpAny_bind (wpAny_bind (wpAny_askSetting (wpAny_pure (wpAny_bind (wpAny_mkText (wpAny_bind (wpAny_loadPart ho ?_)))))));rw[hd];dsimp only;rw[aRefKeyMayBeTheName_at];have c:(!es.any (·.key.isStr name)&&es.any (·.refKey))=false:=by rw[hany,Bool.and_false]
 rw[c];exact wpAny_updatePart ho h
end
end
section
section
variable {p:Prm} {C:Ctx} {P:Heap} {m:Loc} {σ:Store} {δ:Nat->Nat} {A:Around} {s:Shared} {E:QW} {h h':Heap}
theorem St.gain {a d:Nat} {c c':Cell} (x:St p C P m σ δ h) (ea:σ a=some c) (hm:c.mut) (hdn:h.get? d=none) (k:∀b o,b≠a->h.get? b=some o->h'.get? b=some o)
  (hc:CellAt p h' a d c'):St p C P m (σ.set a c') (upd δ a d) h'/\KeepI h h':=by
 have xd:=x.fresh hdn;have had:a≠d:=fun z=>by rw[← z,ea] at xd;exact xSN xd
 refine e1a2 (x.foot_there (.inl (Ai c ea hm))) fun oa hoa hia=>?_;have offa:=x.off a (.inl (Ai c ea hm));have ki:KeepI h h':=fun b o e i=>k b o (fun z=>by subst z;rw[hoa] at e;obtain rfl:=xSS e;exact hia i) e;have ud:∀{b},b≠a->upd δ a d b=δ b:=fun z=>by simp[upd,z]
 have ua:upd δ a d a=d:=by simp[upd]
 have dne:∀b cb,σ b=some cb->cb.hasDict->δ b≠a:=fun b cb e hb z=>by have:=x.rep.sep b cb e hb;rw[z,ea] at this;exact xSN this
 refine e1a2 x.ns fun mm hn hl=>?_;refine⟨⟨x.base,fun b o e=>k _ _ (fun z=>by subst z;rw[offa.1] at e;exact xNS e) (x.stays b o e),x.frs.keeps fun b hb o=>k b o (fun z=>offa.2.1 (z▸hb)),(Ai mm ?_ (hl.step ki)),x.lP,
  ⟨fun b cb e=>?_,fun b cb e hb=>?_,fun b b' cb cb' e e' hb hb'=>?_⟩,fun b f=>?_⟩,ki⟩
 ·refine e3a2 hn fun o es ep ho r=>?_;clear hn;exact O0 o es ep (k _ _ (Ne.symm offa.2.2) ho) r
 ·by_cases q:b=a
  ·subst q;rw[Aa] at e;obtain rfl:=xSS e;rw[ua];exact hc
  ·rw[Ab _ _ q] at e;rw[ud q];exact(x.rep.at_ b cb e).step (fun _ o ho=>k _ _ q ho) (fun hb o ho=>k _ _ (dne b cb e hb) ho) ki
 ·by_cases q:b=a
  ·subst q;rw[ua,Ab _ _ (Ne.symm had)];exact xd
  ·rw[Ab _ _ q] at e;rw[ud q,Ab _ _ (dne b cb e hb)];exact x.rep.sep b cb e hb
 ·by_cases q:b=a
  ·by_cases q':b'=a
   ·intro _;rw[q,q']
   ·rw[Ab _ _ q'] at e';intro z;rw[q,ua,ud q'] at z;exact absurd z.symm (x.dicts_ne hdn b' cb' e' hb')
  ·rw[Ab _ _ q] at e;by_cases q':b'=a
   ·intro z;rw[q',ua,ud q] at z;exact absurd z (x.dicts_ne hdn b cb e hb)
   ·rw[Ab _ _ q'] at e';rw[ud q,ud q'];exact x.rep.inj b b' cb cb' e e' hb hb'
 ·have offNew:∀b,h.get? b=none->P.get? b=none/\b∉fa C.frs/\b≠C.env.locals:=fun b hb=>by
   refine Bk ?_ (fun hm=>?_) (fun z=>?_)
   ·cases w:P.get? b with
    | none=>rfl
    | some o=>have:=x.stays b o w;rw[hb] at this;exact xNS this
   ·refine An (x.frs.mem hm) fun _ z1_=>?_;refine e3a2 z1_ fun o _ _ ho _=>?_;clear z1_;rw[hb] at ho;exact xNS ho
   ·refine e1a2 x.ns fun mm hns _=>?_;refine e3a2 (Ns.dict hns) fun o _ _ ho _=>?_;rw[← z,hb] at ho;exact xNS ho
  rcases f with ⟨cb,e,mb⟩ | ⟨b',cb,e,db,q⟩
  ·by_cases q:b=a
   ·subst q;exact offa
   ·rw[Ab _ _ q] at e;exact x.off b (.inl (Ai cb e mb))
  ·by_cases z:b'=a
   ·subst z;rw[ua] at q;subst q;exact offNew _ hdn
   ·rw[Ab _ _ z] at e;rw[ud z] at q;exact x.off b (.inr (AZ b' cb e db q))
theorem KM {K:Frag} {C:Addr} (h:hasDictIn K C=true):∃cd,clsIn K C=some cd/\cd.hasDict=true:=any_some h
theorem K0 {b d:Nat} {n:T} {ox od:Obj} {es:Array DictEntry} {ep:Nat} {c:Cls} {Q:QU} (KA:AOk p) (hn:n∈attrNames) (X:p.K.In s.heap)
  (ho:s.heap.get? b=some ox) (hcl:ox.cls=.ref (p.cls c)) (hno:notCls ox=true) (hd:ox.dict=some d) (h1:s.heap.get? d=some od) (h2:od.ExactDict) (h3:od.data=.dict es ep) (h4:StrKeys es) (h5:es.size<=200)
  (q:∀h' tk hash t2,Heap.SameBut d s.heap h'->h'.get? d=some (Obj.putName (S n) hash (.str (S n) t2) w od)->Q () { s with heap:=h',toks:=tk }) :
  wpAny (model p.prog p.w) A (setAttr (.ref b) (S n) w) Q E s:=by
 have I:W.InstAt s.heap b ox (p.cls c) (some od):=⟨ho,hcl,hno,by rw[hd];exact h1⟩;refine set_plain X I (KA.sa c) ?_;have X':p.K.In { s with toks:=s.toks+1 }.heap:=X;refine HM X' I (KA.over c) (KA.none_ c n hn) fun b=>?_;refine e1a2 (KM (KA.hasD c)) fun cd hc hcd=>?_;unfold Builtin.ObjectAttr.storeInOwnDict;refine wpAny_bind (wpAny_pure (wpAny_bind ?_));unfold Builtin.ObjectAttr.ownDictForStores instanceDict;obtain⟨ocl,odi,oda,osl⟩:=ox;dsimp only at hcl hd;subst hcl hd;refine wpAny_bind (wpAny_loadPart ho (wpAny_bind ((looks_clsIn X' hc).here ?_)));rw[hcd];refine wpAny_pure (a:=some d) ?_;unfold Builtin.ObjectAttr.storeInDict;refine wpAny_bind (wpAny_pure (wpAny_bind (I6 (p:=p) h1 h3 h4 ?_)));refine Lh (FE (ep:=ep) h4 (S n) (hashStr p.w (S n)) (s.toks+1) w) fun es' ep' p1 p2 p3 p4 p5=>?_;have e:=KK h2 h3;have ng:(s.heap.update d (Obj.putName (S n) (hashStr p.w (S n)) (.str (S n) (s.toks+1)) w)).get? d=some (Obj.putName (S n) (hashStr p.w (S n)) (.str (S n) (s.toks+1)) w od):=
  Heap.get?_update_self _ h1 (by rw[e,p1];rfl)
 refine wpAny_bind (wpAny_lookBehind ng (by rw[e,p1];exact pastItsLine_dict (by rw[sizeLine_eq];exact lin 2 0 [.l Z0 (.a Z1 (.c 1)),.l Z1 (.c 200)] (.l Z0 (.a (.c 16777216) (.c 1))) [] R0 _ _ p3 h5)) ?_);exact wpAny_pure (q _ _ _ _ (Heap.SameBut.update ..) ng)
theorem Nd {b:Nat} {y:Value} {u:V} {n:T} {Q:Store->Prop} (KA:AOk p) (hn:n∈attrNames) (X:p.K.In s.heap) (x:St p C P m σ δ s.heap) (ry:Rel s.heap y u) (e:σ b=some .nex) (h:Q (σ.set b (.exc 0 1 [(n,u)]))) :
  wpAny (model p.prog p.w) A (setAttr (.ref b) (S n) y) (fun _=>setPost p C P m s Q) E s:=by
 refine Be (x.rep.at_ _ _ e) fun vs sl ho hf=>?_;have I:W.InstAt s.heap b ⟨.ref (p.cls .raised),none,.fields vs,sl⟩ (p.cls .raised) none:=⟨ho,rfl,rfl,trivial⟩;refine set_plain X I (KA.sa _) ?_;have X':p.K.In { s with toks:=s.toks+1 }.heap:=X;refine HM X' I (KA.over _) (KA.none_ _ n hn) fun onT=>?_;refine e1a2 (KM (KA.hasD .raised)) fun cd hc hcd=>?_;unfold Builtin.ObjectAttr.storeInOwnDict;refine wpAny_bind (wpAny_pure (wpAny_bind ?_));unfold Builtin.ObjectAttr.ownDictForStores instanceDict;refine wpAny_bind (wpAny_loadPart ho (wpAny_bind ((looks_clsIn X' hc).here ?_)));rw[hcd];obtain⟨hp,g,d,t,os⟩:=s;dsimp only at *;have hdn:=Bd hp;have hb:b < hp.objs.size:=Heap.lt_size ho;show wpAny _ _ (alloc emptyDict >>= _) _ _ _;refine wpAny_bind (wpAny_alloc (wpAny_bind ?_));have ho1:=Heap.get?_push_of_some emptyDict ho;refine wpAny_update ho1 ?_;unfold dictMade;refine wpAny_pure ?_;unfold Builtin.ObjectAttr.storeInDict;have hd1:(hp.push emptyDict).get? hp.objs.size=some emptyDict:=Heap.get?_push_size _ rfl;have sb1:=Heap.SameBut.update (hp.push emptyDict) b (fun o=>{ o with dict:=some hp.objs.size });have hd2:=(sb1.2 hp.objs.size (Nat.ne_of_gt hb)).trans hd1;have ob1:=Heap.get?_update_self (f:=fun o=>{ o with dict:=some hp.objs.size }) ho1 rfl;have keep1:∀c o,c≠b->hp.get? c=some o->((hp.push emptyDict).update b (fun o=>{ o with dict:=some hp.objs.size })).get? c=some o:=fun c o hne hc=>(sb1.2 c hne).trans (Heap.get?_push_of_some emptyDict hc);clear hd1 sb1;generalize (hp.push emptyDict).update b (fun o=>{ o with dict:=some hp.objs.size })=H2 at *;refine wpAny_bind (wpAny_pure (wpAny_bind (I6 (p:=p) hd2 rfl (fun e he=>by simp at he) ?_)));refine Lh (FE (ep:=0) (es:=#[]) (fun e he=>by simp at he) (S n) (hashStr p.w (S n)) (t+1) y) fun es' ep' p1 p2 p3 p4 p5=>?_;have ng:=Heap.get?_update_self (f:=Obj.putName (S n) (hashStr p.w (S n)) (.str (S n) (t+1)) y) hd2 (by rw[show emptyDict={ cls:=.type "dict",data:=.dict #[] } from rfl,p1];rfl);refine wpAny_bind (wpAny_lookBehind ng (by rw[show emptyDict={ cls:=.type "dict",data:=.dict #[] } from rfl,p1];exact pastItsLine_dict (by rw[sizeLine_eq];simp at p3;exact lin 1 0 [.l Z0 (.c 1)] (.l Z0 (.a (.c 16777216) (.c 1))) [] R0 _ p3)) ?_);have sb2:=Heap.SameBut.update H2 hp.objs.size (Obj.putName (S n) (hashStr p.w (S n)) (.str (S n) (t+1)) y);have ob:=(sb2.2 b (Nat.ne_of_lt hb)).trans ob1;have keep:∀c o,c≠b->hp.get? c=some o->(H2.update hp.objs.size (Obj.putName (S n) (hashStr p.w (S n)) (.str (S n) (t+1)) y)).get? c=some o:=fun c o hne hc=>(sb2.2 c (Nat.ne_of_lt (Heap.lt_size hc))).trans (keep1 c o hne hc);have ki:KeepI hp _:=fun c o hc hi=>keep c o (fun z=>by subst z;rw[ho] at hc;obtain rfl:=xSS hc;exact(Cj rfl) hi) hc;have z:=x.gain e trivial (d:=hp.objs.size) (c':=.exc 0 1 [(n,u)]) hdn keep (AZ vs sl ob hf (Attrs.put (k:=0) (at_:=[]) (n:=n) (v:=u) (Bk rfl rfl rfl) rfl (fun e he=>by simp at he) (Nat.le_refl _) hn (fun x hx=>by simp[nsFind,findBy] at hx) (fun k v hk=>by exact xNS hk) ki ry ng));exact wpAny_pure ⟨_,_,_,_,rfl,z.2,z.1,h⟩
theorem MA {a y:Value} {v u:V} {n:T} {Q:Store->Prop} (K:POk p) (KA:AOk p) (hn:n∈attrNames) (x:St p C P m σ δ s.heap) (ra:Rel s.heap a v) (ry:Rel s.heap y u) (h:setASem v n u σ Q) :
  wpAny (model p.prog p.w) A (setAttr a (S n) y) (fun _=>setPost p C P m s Q) E s:=by
 have X:p.K.In s.heap:=fun a o e=>x.stays _ _ (x.base _ _ (K.frag a o e));have ne:∀{b:Nat} {c:Cell},σ b=some c->c.hasDict->b≠δ b:=fun {b c} e hd z=>by have:=x.rep.sep b _ e hd;rw[← z,e] at this;exact xSN this
 cases h with
 | @obj b k c at_ e hk h =>
  refine ra.e_ref ?_;refine e1a2 (x.rep.at_ _ _ e) fun sl ho z1_=>?_;obtain⟨od,es,ep,h1,h2,h3,h4,h5,h7,h6⟩:=z1_;refine K0 KA hn X ho rfl rfl rfl h1 h2 h3 h4 (by exact U47 _ _ hk h5) fun h' tk hash t2 hs ng=>?_;have z:=x.setDict e trivial trivial trivial (c':=.obj c (if (at_.lookup n).isSome then k else k+1) (Cf at_ n u)) hs (fun ki=>(Ai sl ((hs.2 b (ne e trivial)).trans ho) (Attrs.put h2 h3 h4 h5 hn h7 h6 ki ry ng)));exact⟨h',tk,_,δ,rfl,z.2,z.1,h⟩
 | @exc b st k at_ e hk h =>
  refine ra.e_ref ?_;refine Cc (x.rep.at_ _ _ e) fun vs sl ho hf z2_=>?_;obtain⟨od,es,ep,h1,h2,h3,h4,h5,h7,h6⟩:=z2_;refine K0 (c:=.raised) KA hn X ho rfl rfl rfl h1 h2 h3 h4 (by exact U47 _ _ hk h5) fun h' tk hash t2 hs ng=>?_;have z:=x.setDict e trivial trivial trivial (c':=.exc st (if (at_.lookup n).isSome then k else k+1) (Cf at_ n u)) hs (fun ki=>(AZ vs sl ((hs.2 b (ne e trivial)).trans ho) hf (Attrs.put h2 h3 h4 h5 hn h7 h6 ki ry ng)));exact⟨h',tk,_,δ,rfl,z.2,z.1,h⟩
 | nex e h=>exact ra.e_ref (Nd KA hn X x ry e h)
end
end
section
noncomputable def bltVal:List (Str × Value):=[("len",.builtin "len"),("ord",.builtin "ord"),("str",.type "str"),("isinstance",.builtin "isinstance"),("range",.type "range"),("tuple",.type "tuple"),("Exception",.type "Exception")]
noncomputable def Dz:F->Option Str
 | .sh_has=>some "has"
 | .sh_place=>some "place"
 | .sh_read_var=>some "read_var"
 | .sh_write_var=>some "write_var"
 | .sh_read=>some "read"
 | .sh_write=>some "write"
 | .sh_stamp=>some "stamp"
 | _=>none
noncomputable def Ka:Cls->Str
 | .host=>"SmallHost"
 | .var=>"Var"
 | .raised=>"Raised"
noncomputable def Dr:Cls->F
 | .host=>.sh_init
 | .var=>.var_init
 | .raised=>.raised_init
noncomputable def Dc (f:F):Option Str:=match f with
 | .raised_init | .var_init | .host_init | .sh_init | .sh_has | .sh_place | .sh_read_var | .sh_write_var | .sh_read | .sh_write | .sh_stamp=>none
 | .quoted_element=>some "quoted_element"
 | .escaped=>some "escaped"
 | .backslash=>some "backslash"
 | f=>(C7 f).map (·.qual)
inductive RObj (p:Prm):Prop
 | mk (nm q N bs hdct sn sub ab col dd k0 k1 k2 k3 k5 mN oI):p.base.get? (p.cls .raised)=some (excClassObj nm q (p.cls .raised) N bs [.type "Exception",.type "BaseException",.type "object"] hdct sn sub ab col dd k0 k1 k2 k3 k5 "Exception.__new__") ->
  p.base.Ns N mN->mN "__init__"=some (.ref (p.fn .raised_init))->p.base.get? (p.fn .raised_init)=some oI->oI.cls=.type "function"->RObj p
structure NOk (p:Prm):Prop where
 g:p.base.Ns mainGlobals p.mg
 b:p.base.Ns builtinsNs p.mb
 blt:∀y∈bltVal,p.mg y.1=none/\p.mb y.1=some y.2
 fn:∀f x,Dc f=some x->p.mg x=some (.ref (p.fn f))
 cl:∀c,p.mg (Ka c)=some (.ref (p.cls c))
 host:p.mg "Host"=some (.ref p.hcls)
 keepF:∀f,((C7 f).isSome||(Dc f).isSome)=true->keepIn p.K (.ref (p.fn f))=true
 keepC:∀c,keepIn p.K (.ref (p.cls c))=true
 meth:∀f n,Dz f=some n->findIn p.K (.ref (p.cls .host)) n=some (some (.ref (p.fn f)))/\typeIn p.K (.ref (p.fn f))=some (.type "function")
 gh:findIn p.K (.ref (p.cls .host)) "__getattr__"=some none
 hReads:readsIn p.K p.hcls (.type "type")=true
 hFind:findCls p.K (.ref p.hcls) (.type "type") "__init__"=some (.val (.ref (p.fn .host_init)))
 hGa:specialIn p.K (.ref p.hcls) "__getattribute__"=some (some (.builtin "type.__getattribute__"))
 makes:∀c,c≠.raised->makesIn p.K (p.cls c)=true
 init:∀c,findIn p.K (.ref (p.cls c)) "__init__"=some (some (.ref (p.fn (Dr c))))/\typeIn p.K (.ref (p.fn (Dr c)))=some (.type "function")
 rObj:RObj p
 eFind:findCls p.K (.type "Exception") (.type "type") "__init__"=some (.val (.builtin "Exception.__init__"))
noncomputable def KO (p:Prm) (Γ:Gam) (A:Around):Prop:=∀A':Around,A'.frames=A.frames->A'.handled=A.handled->A'.depth<=A.depth+1->A'.units<=A.units+8->∀f,SatAt p A' f (Γ f)
section
variable {p:Prm} {C:Ctx} {P:Heap} {m:Loc} {σ:Store} {δ:Nat->Nat} {A:Around} {s:Shared} {E:QW}
theorem St.toBase (x:St p C P m σ δ s.heap):p.base.StaysIn s.heap:=fun _ _ e=>x.stays _ _ (x.base _ _ e)
theorem St.inK (K:POk p) (x:St p C P m σ δ s.heap):p.K.In s.heap:=fun a o e=>x.toBase _ _ (K.frag a o e)
theorem G8 {n:Str} {pos:Pos} {v:Value} {Q:QW} (N:NOk p) (K:CtxOk p C A) (x:St p C P m σ δ s.heap) (hk:C.env.kindOf n=some .globalImplicit) (hd:(n==("__debug__" : Str))=false) (hv:p.mg n=some v) (q:Q v s) :
  wpAny (model p.prog p.w) A (eval (.Name n pos) C.env) Q E s:=
 Name_function_global K.kind hk (loadGlobal_global (by rw[K.glob];exact N.g.keeps x.toBase) hv q) hd
theorem J7 {n:Str} {pos:Pos} {v:Value} {Q:QW} (N:NOk p) (K:CtxOk p C A) (x:St p C P m σ δ s.heap) (hk:C.env.kindOf n=some .globalImplicit) (hd:(n==("__debug__" : Str))=false) (hv:(n,v)∈bltVal) (q:Q v s) :
  wpAny (model p.prog p.w) A (eval (.Name n pos) C.env) Q E s:=
 Name_function_global K.kind hk (loadGlobal_builtin (by rw[K.glob];exact N.g.keeps x.toBase) (N.blt _ hv).1 (by rw[K.blt];exact N.b.keeps x.toBase) (N.blt _ hv).2 q) hd
theorem Pj {n:Str} {pos:Pos} (K:CtxOk p C A) (x:St p C P m σ δ s.heap) (hn:C.names[i]?=some n) (hd:(n==("__debug__" : Str))=false) (hcd:(n==("__classdict__" : Str))=false)
  (hm:m[i]?=some (some v)) (q:Q v σ):wpAny (model p.prog p.w) A (eval (.Name n pos) C.env) (PV p C P m s Q) E s:=by
 refine e1a2 x.ns fun mm hns hl=>?_;refine e1a2 (hl i n v hn hm) fun w r h=>?_;refine wpAny_Name ?_ hd;rcases h with ⟨h1,h2⟩ | ⟨h1 | h1,ca,o,h2,h3,h4,h5⟩
 ·exact wpAny_loadName_local K.kind h1 hns h2 (Au x r q)
 ·exact wpAny_loadName_cell K.kind h1 h2 (Ai o h3 h4) (Au x r q)
 ·exact wpAny_loadName_free K.kind h1 h2 (Ai o h3 h4) (Au x r q) hcd
theorem Q4 {f:F} {n:Str} {a:Value} {b k:Nat} {pl:Sem Bool} {Q:Value × List Value->Shared->Prop} (K:POk p) (KA:AOk p) (N:NOk p) (x:St p C P m σ δ s.heap) (hf:Dz f=some n) (hn:∀k∈attrNames,n≠S k)
  (ra:Rel s.heap a (.ref b)) (e:σ b=some (.obj .host k at_)) (q:Q (.ref (p.fn f),[a]) s):wpAny (model p.prog p.w) A (getMethod a n pl) Q E s:=by
 refine ra.e_ref (M:=fun a=>Q (.ref (p.fn f),[a]) s->wpAny (model p.prog p.w) A (getMethod a n pl) Q E s) (fun q=>?_) q;refine e1a2 (x.rep.at_ _ _ e) fun sl ho z1_=>?_;obtain⟨od,es,ep,h1,h2,h3,h4,h5,h7,h6⟩:=z1_;have I:W.InstAt s.heap b ⟨.ref (p.cls .host),some (δ b),.plain,sl⟩ (p.cls .host) (some od):=⟨ho,rfl,rfl,h1⟩;refine An (N.meth f n hf) fun m1 m2=>?_;refine method_fn (x.inK K) I (KA.ga .host (by intro z;cases z)) N.gh m1 m2 ?_ q;have hnone:nsFind es n=none:=by
  cases z:nsFind es n with
  | none=>rfl
  | some w=>refine e1a2 (h7 n (by rw[z];rfl)) fun k hk e=>?_;exact absurd e (hn k hk)
 have hl:lookIn n od=some none:=?_
 ·show Option.map (fun x=>x.isSome) (lookIn n od)=some false;rw[hl];rfl
 unfold lookIn;rw[h3];unfold nsFind findBy at hnone;rw[Option.map_eq_none_iff] at hnone;have e1:List.find? (fun (x:DictEntry)=>x.key.isStr n) es.toList=none:=by rw[← hnone];simp
 have e2:(es.toList.any fun (x:DictEntry)=>x.refKey)=false:=by
  rw[Array.any_toList,Array.any_eq_false'];intro e he;refine NS (h4 e he) fun n t h=>?_;simp[DictEntry.refKey,h]
 simp only[e1,e2];rfl
theorem Jo {pl:Sem Bool} {Q:Value × List Value->Shared->Prop} (K:POk p) (N:NOk p) (x:St p C P m σ δ s.heap) (q:Q (.ref (p.fn .host_init),[]) { s with toks:=s.toks+1 }) :
  wpAny (model p.prog p.w) A (getMethod (.ref p.hcls) "__init__" pl) Q E s:=
 method_cls (x.inK K) N.hGa (cls_value (x.inK K) N.hReads N.hFind rfl q)
theorem Ir {pl:Sem Bool} {Q:Value × List Value->Shared->Prop} (K:POk p) (N:NOk p) (x:St p C P m σ δ s.heap) (q:Q (.builtin "Exception.__init__",[]) { s with toks:=s.toks+1 }) :
  wpAny (model p.prog p.w) A (getMethod (.type "Exception") "__init__" pl) Q E s:=by
 have X:=x.inK K;have hstub:opaqueClassAbove (.type "Exception")=pure none:=by unfold opaqueClassAbove;dsimp only;rw[show Manifest.isStub "Exception"=false by decide +kernel];rfl
 have L0:Looks (model p.prog p.w) s.heap (typeOf (.type "Exception")) (.type "type"):=Looks.of_pure (by kernel_rfl);have hg:findIn p.K (.type "type") "__getattribute__"=some (some (.builtin "type.__getattribute__")):=type_tga;unfold getMethod specialOf;refine wpAny_bind (wpAny_bind (L0.here ((looks_findIn X hg).here ?_)));dsimp only;rw[if_pos canon_tga];refine wpAny_bind (wpAny_mono (Q:=fun v=>Q (v,[])) (E:=E) ?_ (fun _ _ z=>wpAny_pure z) fun _ _ z=>z);have LO:Looks (model p.prog p.w) s.heap (opaqueClassAbove (.type "Exception")) none:=Looks.of_pure hstub;refine cls_open X LO L0 hg (looks_hook X (r:=none) (by rfl)) (by show subIn p.K _ _=_;rfl) N.eFind
  (wpAny_pure (by show wpAny _ _ (handedOut _) _ _ _;rw[handedOut_of rfl];exact wpAny_pure q))
theorem KE {a:Value} {b:Nat} (N:NOk p) (x:St p C P m σ δ s.heap) (ra:Rel s.heap a (.ref b)) (e:σ b=some .nex) (q:Q .none σ) :
  wpAny (model p.prog p.w) A (call (.builtin "Exception.__init__") [a,w]) (PV p C P m s Q) E s:=by
 refine ra.e_ref ?_;refine Be (x.rep.at_ _ _ e) fun vs sl ho z1_=>?_;refine Aq z1_ fun t z2_=>?_;clear z1_;subst z2_;obtain⟨nm,q',N',bs,hdct,sn,sub,ab,col,dd,k0,k1,k2,k3,k5,mN,oI,hC,_⟩:=N.rObj;have hC':=x.toBase _ _ hC;have F:=PySem.F.excBase_Exception;obtain⟨hp,g,d,tk,os⟩:=s;dsimp only at *;refine wpAny_call (codeAny_call_builtin F.init.plain F.initEntry (wpAny_check_init_sub F hC' ho rfl ?_));unfold Builtin.«BaseException.__init__»;dsimp only;rw[if_neg (by simp)];unfold newTuple Builtin.BaseException.bexcPut;have he₁:=Heap.get?_push_of_some (h:=hp) { cls:=.type "tuple",data:=.seq [w].toArray } ho;refine wpAny_bind (wpAny_newObj_type (wpAny_bind (wpAny_bind (wpAny_field he₁ rfl (x:=.ref t) rfl (wpAny_bind (wpAny_setField he₁ rfl (Nat.succ_pos _) ?_))))) (by show [w].toArray.size<=sizeLine;simp[sizeLine_eq]));refine wpAny_letGo (wpAny_pure ?_);have x1:=x.keeps (Aw hp { cls:=.type "tuple",data:=.seq [w].toArray });have sb:=Heap.SameBut.update (hp.push { cls:=.type "tuple",data:=.seq [w].toArray }) b (Obj.mapFields (·.setIfInBounds 0 (.ref hp.objs.size)));have z:=x1.setAt e trivial (c':=.nex) ⟨fun z=>z,fun z=>z⟩ sb (fun _=>(BD _ sl (Heap.get?_update_self _ he₁ rfl) ⟨hp.objs.size,rfl⟩));rw[DU e] at z;exact⟨_,tk,.none,σ,δ,rfl,(KeepI.of_keeps (Aw hp _)).trans z.2,.none,z.1,q⟩
end
end
section
section
variable {p:Prm} {C:Ctx} {P:Heap} {m:Loc} {σ:Store} {δ:Nat->Nat} {A:Around} {s:Shared} {Γ:Gam}
theorem Mk (A:Around) (C:Addr) (ws:List Value):let A':=A.under (.builtin "type.__call__" ⟨.ref C::ws,[]⟩)
  A'.frames=A.frames/\A'.handled=A.handled/\A'.depth<=A.depth+1/\A'.units<=A.units+8:=by
 refine Qd rfl rfl ?_ ?_
 ·exact Nat.le_of_eq (depth_under_kw A C ws [])
 ·show A.units+1<=A.units+8;exact lin 1 0 [] (.l (.a Z0 (.c 1)) (.a Z0 (.c 8))) [] R0 _
theorem PV.none_to {s':Shared} (z:PV p C P m s (fun r σ₂=>r=.none/\Q (.ref a) σ₂) w s'):w=.none/\PV p C P m s Q (.ref a) s':=by
 obtain⟨h',tk,v,σ',δ',e,ki,r,x',hv,q⟩:=z;subst hv;exact⟨r.inv,h',tk,_,σ',δ',e,ki,.ref a,x',q⟩
theorem Rz {c:Cls} {ws:List Value} (K:POk p) (N:NOk p) (hf:A.frames=some C.frs) (G:KO p Γ A) (x:St p C P m σ δ s.heap) (r:Rels s.heap ws vs) (hl:ws.length<=1000)
  (h:∀a,σ a=none->Γ (Dr c) (.ref a::vs) (σ.set a (J0 c)) (fun r σ₂=>r=.none/\Q (.ref a) σ₂) E) :
  wpAny (model p.prog p.w) A (call (.ref (p.cls c)) ws) (PV p C P m s Q) (PE p C P m s E) s:=by
 have X:=x.inK K;have B:=x.toBase;refine Sv (Mk A (p.cls c) ws) fun u1 u2 u3 u4=>?_;have S1:=G _ u1 u2 u3 u4 (Dr c);obtain⟨hh,g,d,t,os⟩:=s;dsimp only at *;by_cases hc:c=.raised
 ·subst hc;obtain⟨nm,q',N',bs,hdct,sn,sub,ab,col,dd,k0,k1,k2,k3,k5,mN,oI,hC,hns,hi,hI,hIc⟩:=N.rObj;refine wpAny_call_exc_init PySem.F.excBase_Exception (B _ _ hC) (hns.keeps B) hi (B _ _ hI) hIc (fun h' e me=>?_) (by rw[sizeLine_eq];exact lin 1 0 [.l Z0 (.c 1000)] (.l Z0 (.c 16777216)) [] R0 _ hl);obtain⟨mk,mn,tt,me1,me2,me3⟩:=me;have x1:St p C P m (σ.set e .nex) δ h':=x.new (c:=.nex) mn (fun z=>z) mk (BD _ (#[]) me1 ⟨tt,rfl⟩) (x.dicts_ne mn);have rel:Rels h' (.ref e::ws) (.ref e::vs):=.cons (.ref e) (r.keeps mk);refine wpAny_mono (Km (s:=⟨h',g,d,t,os⟩) S1 (u1.trans hf) x1 rel (h e (x.fresh mn))) ?_ ?_
  ·intro w s' z;refine An z.none_to fun e1 z=>?_;exact⟨e1,z.from (s:=⟨hh,g,d,t,os⟩) (.of_keeps mk)⟩
  ·intro w s' z;exact z.from (s:=⟨hh,g,d,t,os⟩) (.of_keeps mk)
 ·refine wpAny_call (make_core (makes_of X (N.makes c hc)) (looks_findIn X (N.init c).1) (fun self=>bind_fn X self (N.init c).2) (.inl rfl) ?_);have k1:=Aw hh emptyDict;have k2:=Aw (hh.push emptyDict) (instObj (p.cls c) hh.objs.size);have mk:∀b o,hh.get? b=some o->((hh.push emptyDict).push (instObj (p.cls c) hh.objs.size)).get? b=some o:=fun b o e=>k2 _ _ (k1 _ _ e);have hn:hh.get? (hh.objs.size+1)=none:=Heap.get?_none_of_le (Nat.le_succ _);have hd:hh.get? hh.objs.size=none:=Bd _;have oi:((hh.push emptyDict).push (instObj (p.cls c) hh.objs.size)).get? (hh.objs.size+1)=some (instObj (p.cls c) hh.objs.size):=by heap_get
  have od:((hh.push emptyDict).push (instObj (p.cls c) hh.objs.size)).get? hh.objs.size=some emptyDict:=k2 _ _ (Heap.get?_push_size _ rfl);have x1:St p C P m (σ.set (hh.objs.size+1) (.obj c 0 [])) (upd δ (hh.objs.size+1) hh.objs.size) ((hh.push emptyDict).push (instObj (p.cls c) hh.objs.size)):=
   x.newD (c:=.obj c 0 []) hn hd (by exact lin 1 0 [] (.n (.e (.a Z0 (.c 1)) Z0)) [[1,0]] R0 _) trivial mk (Ai (#[]) oi ⟨emptyDict,#[],0,od,(Bk rfl rfl rfl),rfl,fun e he=>by simp at he,by simp,fun y hy=>by simp[nsFind,findBy] at hy,fun k v hk=>by exact xNS hk⟩)
  have rel:Rels ((hh.push emptyDict).push (instObj (p.cls c) hh.objs.size)) (.ref (hh.objs.size+1)::ws) (.ref (hh.objs.size+1)::vs):=.cons (.ref _) (r.keeps mk);have hg:=h _ (x.fresh hn);have e:J0 c=.obj c 0 []:=by cases c <;> first | rfl | exact absurd rfl hc
  rw[e] at hg;refine codeAny_mono (I2 (s:=⟨_,g,d,t,os⟩) S1 (u1.trans hf) x1 rel hg) ?_;intro r s' z;cases r with
  | error e=>exact PE.from (s:=⟨hh,g,d,t,os⟩) z (.of_keeps mk)
  | ok fl =>
   cases fl <;> try exact z.elim
   rename_i v;have z:PV p C P m _ _ v s':=z;refine An z.none_to fun e1 z=>?_;exact⟨e1,z.from (s:=⟨hh,g,d,t,os⟩) (.of_keeps mk)⟩
end
end
section
noncomputable def Mf:BF->Str
 | .len=>"len"
 | .ord=>"ord"
 | .str=>"str"
 | .isTup=>"isinstance"
 | .range=>"range"
noncomputable def Bm:Expr->Bool
 | .Starred ..=>false
 | _=>true
noncomputable def Eg:Expr->Bool
 | .Slice ..=>false
 | _=>true
noncomputable def CS:Expr->Bool
 | .Set ..=>false
 | _=>true
noncomputable def okT:Expr->Bool
 | .Name ..=>true
 | .Call ..=>true
 | .Compare ..=>true
 | .BoolOp ..=>true
 | .UnaryOp op ..=>match op with
  | .Not=>true
  | _=>false
 | _=>false
noncomputable def Du (ap q:Pos) (args:List Expr):Bool:=(ap.endLine==q.line)&&decide (args.length < 30)
noncomputable def okN (n:Str):Bool:=!(n==("__debug__" : Str))&&!(n==("__classdict__" : Str))
noncomputable def okG (kd:Str->Option NameKind) (n:Str):Bool:=(kd n==some .globalImplicit)&&okN n
noncomputable def Bn:Expr->List Str
 | .Name x _=>[x]
 | .Tuple [.Name x _,.Name y _] _ _=>[x,y]
 | _=>[]
noncomputable def Hj (nm:List Str) (caps:List Nat) (tg:Expr):List Str:=Bn tg++caps.map fun i=>(nm[i]?).getD Str.empty
noncomputable def ET (sc:Scope) (kd:Str->Option NameKind) (n:Str):Option NameKind:=(sc.names.map fun y=>if (y.2==.free&&kd y.1==some .cell)=true then (y.1,NameKind.cell) else y).lookup n
noncomputable def DK (nm:List Str) (kd:Str->Option NameKind) (k:Nat) (caps:List Nat) (tg:Expr) (sc:Scope):Bool:=
 (sc.kind==.function)&&(sc.names.all fun y=>y.2 != .cell)&&(sc.names.all fun y=>y.2 != .local||(sc.names.lookup y.1==some .local)) &&
 decide ((Bn tg).length=k)&&decide (k=1∨k=2)&&((Bn tg).all fun x=>sc.names.lookup x==some .local)&&decide (Bn tg).Nodup &&
 (caps.all fun i=>match nm[i]? with | some n=>(kd n==some .cell)&&(sc.names.lookup n==some .free) | none=>false) &&
 (sc.names.all fun y=>y.2 != .free||caps.any fun i=>nm[i]?==some y.1)
noncomputable abbrev Ck (P:Prop):=Option (PLift P)
noncomputable def ck (b:Bool):Ck (b=true):=if h:b=true then some ⟨h⟩ else none
noncomputable def ckD (P:Prop) [Decidable P]:Ck P:=if h:P then some ⟨h⟩ else none
noncomputable def Ck.and {P R:Prop} (a:Ck P) (f:P->Ck R):Ck R:=match a with
 | some h=>f h.down
 | none=>none
noncomputable def Ck.yes {P:Prop} (h:P):Ck P:=some ⟨h⟩
theorem Ck.of {P:Prop} {a:Ck P} (h:a.isSome=true):P:=by
 cases a with
 | none=>exact xFT h
 | some y=>exact y.down
inductive BaseOk:Expr->Prop
 | nm {a p}:BaseOk (.Name a p)
 | sb {a b p}:BaseOk (.Subscript a b p)
 | cn {a b p}:BaseOk (.Constant a b p)
 | at_ {a b p}:BaseOk (.Attribute a b p)
 | cl {a b p x y z}:BaseOk (.Call (.Attribute a b p) x y z)
noncomputable def Mc:∀e,Ck (BaseOk e)
 | .Name ..=>.yes .nm
 | .Subscript ..=>.yes .sb
 | .Constant ..=>.yes .cn
 | .Attribute ..=>.yes .at_
 | .Call (.Attribute ..) _ _ _=>.yes .cl
 | _=>none
section
variable {p:Prm} {C:Ctx} {P:Heap} {m:Loc} {A:Around} {s:Shared} {h₁:Heap} {tk₁:Nat} {α:Type}
theorem I5 {t:Sem Value} (ki:KeepI s.heap h₁) (h:wpAny (model p.prog p.w) A t (PV p C P m { s with heap:=h₁,toks:=tk₁ } Q) (PE p C P m { s with heap:=h₁,toks:=tk₁ } E) { s with heap:=h₁,toks:=tk₁ }) :
  wpAny (model p.prog p.w) A t (PV p C P m s Q) (PE p C P m s E) { s with heap:=h₁,toks:=tk₁ }:=wpAny_mono h (fun _ _ z=>z.from ki) fun _ _ z=>z.from ki
theorem QY {t:Sem Bool} {Q:QB} (ki:KeepI s.heap h₁) (h:wpAny (model p.prog p.w) A t (PT p C P m { s with heap:=h₁,toks:=tk₁ } Q) (PE p C P m { s with heap:=h₁,toks:=tk₁ } E) { s with heap:=h₁,toks:=tk₁ }) :
  wpAny (model p.prog p.w) A t (PT p C P m s Q) (PE p C P m s E) { s with heap:=h₁,toks:=tk₁ }:=wpAny_mono h (fun _ _ z=>z.from ki) fun _ _ z=>z.from ki
theorem Cn {t:Sem Value} {Φ:QW} {Q₁:QV} (h:wpAny (model p.prog p.w) A t (PV p C P m s Q₁) (PE p C P m s E) s)
  (k:∀w h' tk v σ' δ',KeepI s.heap h'->Rel h' w v->St p C P m σ' δ' h'->Q₁ v σ'->Φ w { s with heap:=h',toks:=tk }):wpAny (model p.prog p.w) A t Φ (PE p C P m s E) s:=
 wpAny_mono h (fun w _ z=>z.casesOn fun h' tk v σ' δ' e ki r x' q=>e▸k w h' tk v σ' δ' ki r x' q) fun _ _ z=>z
theorem bindL {t:Sem (List Value)} {Φ:List Value->Shared->Prop} {Q₁:QL} (h:wpAny (model p.prog p.w) A t (PL p C P m s Q₁) (PE p C P m s E) s)
  (k:∀w h' tk v σ' δ',KeepI s.heap h'->Rels h' w v->St p C P m σ' δ' h'->Q₁ v σ'->Φ w { s with heap:=h',toks:=tk }):wpAny (model p.prog p.w) A t Φ (PE p C P m s E) s:=
 wpAny_mono h (fun w _ z=>z.casesOn fun h' tk v σ' δ' e ki r x' q=>e▸k w h' tk v σ' δ' ki r x' q) fun _ _ z=>z
theorem FF {t:Sem Bool} {Φ:Bool->Shared->Prop} {Q₁:QB} (h:wpAny (model p.prog p.w) A t (PT p C P m s Q₁) (PE p C P m s E) s)
  (k:∀w h' tk σ' δ',KeepI s.heap h'->St p C P m σ' δ' h'->Q₁ w σ'->Φ w { s with heap:=h',toks:=tk }):wpAny (model p.prog p.w) A t Φ (PE p C P m s E) s:=
 wpAny_mono h (fun w _ z=>z.casesOn fun h' tk σ' δ' e ki x' q=>e▸k w h' tk σ' δ' ki x' q) fun _ _ z=>z
theorem DP {Q:QB} (h:Dv v σ Q):∃b,v=.bool b/\Q b σ:=by
 cases v <;> first | exact(Ai _ rfl h) | exact False.elim h
theorem FC {δ:Nat->Nat} {Q:QB} {E:QW} (x:St p C P m σ δ s.heap) (r:Rel s.heap w v) (h:Dv v σ Q):wpAny (model p.prog p.w) A (truthy w) (PT p C P m s Q) E s:=by
 refine e1a2 (DP h) fun b z1_ h=>?_;subst z1_;exact r.e_bool (wpAny_truthy_bool ⟨s.heap,s.toks,σ,δ,rfl,.refl _,x,h⟩)
end
end
section
section
variable (p:Prm) (C:Ctx) (P:Heap) (A:Around) (Γ:Gam)
noncomputable def C4 (x:X) (e:Expr):Prop:=∀(m:Loc) (σ:Store) (δ:Nat->Nat) (s:Shared) (Q:QV) (E:QE),St p C P m σ δ s.heap->(wp Γ x).x m σ Q E ->
 wpAny (model p.prog p.w) A (eval e C.env) (PV p C P m s Q) (PE p C P m s E) s
noncomputable def So (x:X) (es:List Expr):Prop:=∀(m:Loc) (σ:Store) (δ:Nat->Nat) (s:Shared) (Q:QL) (E:QE) (pos:Pos),St p C P m σ δ s.heap->(wp Γ x).l m σ Q E ->
 wpAny (model p.prog p.w) A (spliced (backTo pos (starEach es C.env))) (PL p C P m s Q) (PE p C P m s E) s
noncomputable def JM (x:X) (e:Expr):Prop:=∀(m:Loc) (σ:Store) (δ:Nat->Nat) (s:Shared) (Q:QB) (E:QE) (whole:Sem Value),St p C P m σ δ s.heap->(wp Γ x).t m σ Q E ->
 (whole=eval e C.env∨∃op l q,e=.BoolOp op l q)->wpAny (model p.prog p.w) A (isTrue e C.env whole) (PT p C P m s Q) (PE p C P m s E) s
end
theorem BY {e:Expr} {r:List Expr} {env:Env} (h:Bm e=true):starEach (e::r) env=(false,eval e env)::starEach r env:=by
 cases e <;> first | rfl | exact xFT h
theorem DS {xs:List Expr} {env:Env} {pos:Pos} (h:xs.all Bm=true):(backTo pos (starEach xs env)).any (·.1)=false:=by
 induction xs with
 | nil=>rfl
 | cons e r ih =>
  rw[List.all_cons,Bool.and_eq_true] at h;rw[BY h.1];exact ih h.2
noncomputable def plX:X->Bool
 | .var _=>true
 | .cNone=>true
 | .cBool _=>true
 | .cInt _=>true
 | .cStr _=>true
 | .nil=>true
 | .no=>true
 | .cons a b=>plX a&&plX b
 | .tup a=>plX a
 | .lst a=>plX a
 | .bin _ a b=>plX a&&plX b
 | .neg a=>plX a
 | .call _ a=>plX a
 | .new _ _ a=>plX a
 | .excInit a=>plX a
 | .attr a _=>plX a
 | .idx a b=>plX a&&plX b
 | .slc a b c=>plX a&&(plX b&&plX c)
 | .bm f a b=>decide (f≠.index)&&(plX a&&plX b)
 | _=>false
theorem IY {a b:Bool} {R:Prop} (h:(a&&b)=false->R) (z:a=false):R:=h (by rw[z];rfl)
theorem Fi {a b:Bool} {R:Prop} (h:(a&&b)=false->R) (z:b=false):R:=h (by rw[z,Bool.and_false])
section
variable (p:Prm) (C:Ctx) (P:Heap) (A:Around) (Γ:Gam)
structure GX (x:X) (e:Expr):Prop where
 s:C4 p C P A Γ x e
 t:okT e=true->JM p C P A Γ x e
structure GL (x:X) (es:List Expr):Prop where
 l:So p C P A Γ x es
 st:es.all Bm=true
 nl:es=[]->x=.nil
noncomputable def GO (x:X) (o:Option Expr):Prop:=∀(m:Loc) (σ:Store) (δ:Nat->Nat) (s:Shared) (Q:QV) (E:QE),St p C P m σ δ s.heap->(wp Γ x).x m σ Q E->wpAny (model p.prog p.w) A (evalPart o C.env) (PV p C P m s Q) (PE p C P m s E) s
structure Amb:Prop where
 K:POk p
 KA:AOk p
 N:NOk p
 G:KO p Γ A
 C:CtxOk p C A
end
noncomputable def All (nm:List Str) (kd:Str->Option NameKind) (x:X) (R:Prm->Ctx->Heap->Around->Gam->Prop):Prop:=
 ∀(p:Prm) (C:Ctx) (A:Around) (Γ:Gam),Amb p C A Γ->C.names=nm->C.env.kindOf=kd->(plX x=false->A.handled=none)->∀P,R p C P A Γ
noncomputable def OkE (nm:List Str) (kd:Str->Option NameKind) (x:X) (e:Expr):Prop:=All nm kd x fun p C P A Γ=>GX p C P A Γ x e
noncomputable def OkL (nm:List Str) (kd:Str->Option NameKind) (x:X) (es:List Expr):Prop:=All nm kd x fun p C P A Γ=>GL p C P A Γ x es
noncomputable def OkO (nm:List Str) (kd:Str->Option NameKind) (x:X) (o:Option Expr):Prop:=All nm kd x fun p C P A Γ=>GO p C P A Γ x o
section
variable {p:Prm} {C:Ctx} {P:Heap} {A:Around} {Γ:Gam} {s:Shared} {m:Loc} {σ:Store} {δ:Nat->Nat}
theorem Nj {x:X} {e:Expr} (hx:C4 p C P A Γ x e) (hw:∀m σ Q E,(wp Γ x).t m σ Q E->(wp Γ x).x m σ (fun v σ'=>Dv v σ' Q) E)
  (he:∀whole:Sem Value,isTrue e C.env whole=do let v ← whole;standAt e.pos;holding [v] (truthy v)) (hb:∀op l q,e≠.BoolOp op l q):JM p C P A Γ x e:=by
 intro m σ δ s Q E whole xs h hwh;have hwh:whole=eval e C.env:=hwh.elim id fun ⟨op,l,q,z⟩=>absurd z (hb op l q);subst hwh;refine isTrue_plain (Cn (hx m σ δ s _ E xs (hw _ _ _ _ h)) fun w h' tk v σ' δ' ki r x' q=>?_) (he _);exact wpAny_mono (FC (s:={ s with heap:=h',toks:=tk }) x' r q) (fun _ _ z=>z.from ki) fun _ _ z=>z
theorem OJ {xs:X} {args:List Expr} {f:Value} {first:List Value} {pos:Pos} {Q₁:QL} (K:POk p) (hk:keepIn p.K f=true) (ih:GL p C P A Γ xs args) (x:St p C P m σ δ s.heap) (h:(wp Γ xs).l m σ Q₁ E)
  (k:∀ws h' tk vs σ' δ',KeepI s.heap h'->Rels h' ws vs->St p C P m σ' δ' h'->Q₁ vs σ'->wpAny (model p.prog p.w) A (call f (first++ws)) (PV p C P m s Q) (PE p C P m s E) { s with heap:=h',toks:=tk }) :
  wpAny (model p.prog p.w) A (callWith pos f first (backTo pos (starEach args C.env)) []) (PV p C P m s Q) (PE p C P m s E) s:=by
 cases args with
 | nil =>
  have:=ih.nl rfl;subst this;exact callWith_K0 (x.inK K) hk (k [] s.heap s.toks [] σ δ (.refl _) .nil x h)
 | cons e r =>
  have hs:=ih.st;rw[List.all_cons,Bool.and_eq_true] at hs;refine callWith_K (x.inK K) hk ?_ (BY hs.1) (DS hs.2);exact bindL (ih.l m σ δ s Q₁ E pos x h) fun w h' tk v σ' δ' ki rr x' q=>⟨St.inK (s:={ s with heap:=h',toks:=tk }) K x',k w h' tk v σ' δ' ki rr x' q⟩
theorem Jt {xs:X} {args:List Expr} {id:String} {first:List Value} {pos:Pos} {Q₁:QL} (ih:GL p C P A Γ xs args) (x:St p C P m σ δ s.heap) (h:(wp Γ xs).l m σ Q₁ E)
  (k:∀ws h' tk vs σ' δ',KeepI s.heap h'->Rels h' ws vs->St p C P m σ' δ' h'->Q₁ vs σ'->wpAny (model p.prog p.w) A (call (.builtin id) (first++ws)) (PV p C P m s Q) (PE p C P m s E) { s with heap:=h',toks:=tk }) :
  wpAny (model p.prog p.w) A (callWith pos (.builtin id) first (backTo pos (starEach args C.env)) []) (PV p C P m s Q) (PE p C P m s E) s:=by
 cases args with
 | nil =>
  have:=ih.nl rfl;subst this;have:=k [] s.heap s.toks [] σ δ (.refl _) .nil x h;rw[List.append_nil] at this;exact callWith_method0 this
 | cons e r =>
  have hs:=ih.st;rw[List.all_cons,Bool.and_eq_true] at hs;refine callWith_method1 ?_ (BY hs.1) (DS hs.2);exact bindL (ih.l m σ δ s Q₁ E pos x h) fun w h' tk v σ' δ' ki rr x' q=>k w h' tk v σ' δ' ki rr x' q
theorem OF {xs:X} {args:List Expr} {T:String} {pos:Pos} {Q₁:QL} (hne:args≠[]) (ih:GL p C P A Γ xs args) (x:St p C P m σ δ s.heap) (h:(wp Γ xs).l m σ Q₁ E)
  (k:∀ws h' tk vs σ' δ',KeepI s.heap h'->Rels h' ws vs->St p C P m σ' δ' h'->Q₁ vs σ'->wpAny (model p.prog p.w) A (call (.type T) ws) (PV p C P m s Q) (PE p C P m s E) { s with heap:=h',toks:=tk }) :
  wpAny (model p.prog p.w) A (callWith pos (.type T) [] (backTo pos (starEach args C.env)) []) (PV p C P m s Q) (PE p C P m s E) s:=by
 cases args with
 | nil=>exact absurd rfl hne
 | cons e r =>
  have hs:=ih.st;rw[List.all_cons,Bool.and_eq_true] at hs;refine PyProof.Rows.callWith_type1 ?_ (BY hs.1) (DS hs.2);exact bindL (ih.l m σ δ s Q₁ E pos x h) fun w h' tk v σ' δ' ki rr x' q=>k w h' tk v σ' δ' ki rr x' q
theorem FW {oe:Expr} (h:BaseOk oe) (attr:Str) (env:Env) (whole:Sem Value):attributeBase oe attr env whole=whole:=by
 cases h <;> rfl
theorem PQ {args:List Expr} {pos:Pos} {env:Env} (hs:args.all Bm=true) (hl:args.length < 30):methodCallForm (args.length+0) (backTo pos (starEach args env)) []=true:=by
 have h1:(backTo pos (starEach args env)).all (fun x=>!x.1)=true:=by
  have:=DS (env:=env) (pos:=pos) hs;rw[List.all_eq_true];rw[List.any_eq_false] at this;intro x hx;have:=this x hx;simpa using this
 unfold methodCallForm;rw[h1];simpa using hl
theorem Cx {oe:Expr} (h:BaseOk oe) (name:Str) {apos pos:Pos} {args:List Expr} (env:Env) (hs:args.all Bm=true) (hl:args.length < 30) (hp:(apos.endLine==pos.line)=true) :
  ∃pl:Sem Bool,eval (.Call (.Attribute oe name apos) args [] pos) env=(do
   let ov ← eval oe env
   standAt apos.atName
   let (f,first) ← holding [ov] (getMethod ov name pl)
   callWith pos f first (backTo pos (starEach args env)) []):=by
 refine⟨do return (← importBound oe env).getD true,?_⟩;have e1:eval (.Call (.Attribute oe name apos) args [] pos) env=(do
   let ov ← attributeBase oe name env (eval oe env)
   standAt apos.atName
   methodCall oe name apos pos env ov (args.length+0) (backTo pos (starEach args env)) []):=rfl
 have e2:methodCallPos true oe env apos pos=pure pos:=by unfold methodCallPos;rw[hp];rfl
 rw[e1,FW h];unfold methodCall;rw[PQ hs hl,e2];rfl
theorem Jr {oe:Expr} (h:BaseOk oe) (attr:Str) (pos:Pos) (env:Env):eval (.Attribute oe attr pos) env=(do
   let o ← eval oe env
   standAt pos.atName
   let r ← holding [o] (getAttr o attr true)
   letTemporaryGo oe o r
   pure r):=by
 cases h <;> rfl
section
variable {h₁:Heap} {tk₁:Nat} {α:Type}
theorem CM {t:Sem Value} {Φ:QW} {Q₁:QV} (ki:KeepI s.heap h₁) (h:wpAny (model p.prog p.w) A t (PV p C P m { s with heap:=h₁,toks:=tk₁ } Q₁) (PE p C P m { s with heap:=h₁,toks:=tk₁ } E) { s with heap:=h₁,toks:=tk₁ })
  (k:∀w h' tk v σ' δ',KeepI s.heap h'->KeepI h₁ h'->Rel h' w v->St p C P m σ' δ' h'->Q₁ v σ'->Φ w { s with heap:=h',toks:=tk }):wpAny (model p.prog p.w) A t Φ (PE p C P m s E) { s with heap:=h₁,toks:=tk₁ }:=
 wpAny_mono h (fun w _ z=>z.casesOn fun h' tk v σ' δ' e ki' r x' q=>e▸k w h' tk v σ' δ' (ki.trans ki') ki' r x' q) fun _ _ z=>z.from ki
theorem JV {t:Sem Value} {E:QW} (ki:KeepI s.heap h₁) (h:wpAny (model p.prog p.w) A t (PV p C P m { s with heap:=h₁,toks:=tk₁ } Q) E { s with heap:=h₁,toks:=tk₁ }) :
  wpAny (model p.prog p.w) A t (PV p C P m s Q) E { s with heap:=h₁,toks:=tk₁ }:=wpAny_mono h (fun _ _ z=>z.from ki) fun _ _ z=>z
theorem Uj {t:Sem Bool} {Q:QB} {E:QW} (ki:KeepI s.heap h₁) (h:wpAny (model p.prog p.w) A t (PT p C P m { s with heap:=h₁,toks:=tk₁ } Q) E { s with heap:=h₁,toks:=tk₁ }) :
  wpAny (model p.prog p.w) A t (PT p C P m s Q) E { s with heap:=h₁,toks:=tk₁ }:=wpAny_mono h (fun _ _ z=>z.from ki) fun _ _ z=>z
end
end
end
section
theorem Dk {f:Loc->Store->(QV)->(QE)->Prop}:∀m σ Q E,(WX.ofX f).t m σ Q E->(WX.ofX f).x m σ (fun v σ'=>Dv v σ' Q) E:=fun _ _ _ _ h=>h
theorem Py {n:Str} (h:okN n=true):(n==("__debug__" : Str))=false/\(n==("__classdict__" : Str))=false:=by
 unfold okN at h;simpa using h
theorem Fw {kd:Str->Option NameKind} {n:Str} (h:okG kd n=true):kd n=some .globalImplicit/\(n==("__debug__" : Str))=false:=by
 unfold okG at h;rw[Bool.and_eq_true] at h;exact⟨by simpa using h.1,(Py h.2).1⟩
section
variable {p:Prm} {C:Ctx} {P:Heap} {A:Around} {Γ:Gam}
theorem GX.no {x:X} {e:Expr} (h:okT e=false) (s:C4 p C P A Γ x e):GX p C P A Γ x e:=⟨s,fun z=>absurd (h.symm.trans z) Bool.false_ne_true⟩
theorem GX.val {x:X} {e:Expr} (he:∀whole:Sem Value,isTrue e C.env whole=do let v ← whole;standAt e.pos;holding [v] (truthy v)) (hb:∀op l q,e≠.BoolOp op l q) (hw:∀m σ Q E,(wp Γ x).t m σ Q E->(wp Γ x).x m σ (fun v σ'=>Dv v σ' Q) E) (s:C4 p C P A Γ x e):GX p C P A Γ x e:=
 ⟨s,fun _=>Nj s hw he hb⟩
theorem Pf {x a b:X} {l r:Expr} {o:CmpOp} {q:Pos} (ia:C4 p C P A Γ a l) (ib:C4 p C P A Γ b r) (hm:behindInMarks o r=false)
  (D:V->V->Store->(QV)->Prop) (hx:∀m σ Q E,(wp Γ x).x m σ Q E->(wp Γ a).x m σ (fun v σ₁=>(wp Γ b).x m σ₁ (fun w σ₂=>D v w σ₂ Q) E) E) (ht:∀m σ Q E,(wp Γ x).t m σ Q E->(wp Γ x).x m σ (fun v σ'=>Dv v σ' Q) E)
  (hd:∀{m:Loc} {σ:Store} {δ:Nat->Nat} {s:Shared} {Q:QV} {E:QW} {av bv:Value} {v w:V},St p C P m σ δ s.heap->Rel s.heap av v->Rel s.heap bv w->D v w σ Q->wpAny (model p.prog p.w) A (compareOp o av bv) (PV p C P m s Q) E s) :
  GX p C P A Γ x (.Compare l [o] [r] q):=
 ⟨fun m σ δ s Q E xs h=>wpAny_Compare1 (Cn (ia m σ δ s _ E xs (hx _ _ _ _ h)) fun w h' tk v σ' δ' ki rr x' q=>CM ki (ib m σ' δ' _ _ E x' q) fun w₂ h₂ tk₂ v₂ σ₂ δ₂ ki₂ k₂ r₂ x₂ q₂ =>
   JV ki₂ (hd (s:={ s with heap:=h₂,toks:=tk₂ }) x₂ (rr.inert k₂) r₂ q₂)) hm,
  fun _ m σ δ s Q E whole xs h _=>wpAny_isTrue_Compare1 (Cn (ia m σ δ s _ E xs (hx _ _ _ _ (ht _ _ _ _ h))) fun w h' tk v σ' δ' ki rr x' q=>CM ki (ib m σ' δ' _ _ E x' q) fun w₂ h₂ tk₂ v₂ σ₂ δ₂ ki₂ k₂ r₂ x₂ q₂ =>
   CM ki₂ (hd (s:={ s with heap:=h₂,toks:=tk₂ }) x₂ (rr.inert k₂) r₂ q₂) fun w₃ h₃ tk₃ v₃ σ₃ δ₃ ki₃ k₃ r₃ x₃ q₃=>Uj ki₃ (FC (s:={ s with heap:=h₃,toks:=tk₃ }) x₃ r₃ q₃)) hm⟩
end
namespace Ok
section
variable {nm:List Str} {kd:Str->Option NameKind}
theorem var {i n q} (h:((nm[i]?==some n)&&okN n)=true):OkE nm kd (.var i) (.Name n q):=fun p C A Γ M hn hk hH P=>by
 subst hn;rw[Bool.and_eq_true,beq_iff_eq] at h;refine .val (fun _=>rfl) (fun _ _ _ z=>nomatch z) Dk fun m σ δ s Q E xs hw=>?_;have hw:(match (m[i]?).join with | some v=>Q v σ | none=>False):=hw;have:=fun v=>Pj (pos:=q) (v:=v) (A:=A) (E:=PE p C P m s E) (Q:=Q) M.C xs h.1 (Py h.2).1 (Py h.2).2;generalize m[i]?=o at hw this;cases o with
 | none=>exact hw.elim
 | some o=>cases o with
  | none=>exact hw.elim
  | some v=>exact this v rfl hw
theorem cNone {a q}:OkE nm kd .cNone (.Constant .none a q):=fun p C A Γ M hn hk hH P=>.no rfl fun m σ δ s Q E xs h=>wpAny_Constant_none (Au xs .none h)
theorem cBool {b a q}:OkE nm kd (.cBool b) (.Constant (.bool b) a q):=fun p C A Γ M hn hk hH P=>.no rfl fun m σ δ s Q E xs h=>wpAny_Constant_bool (Au xs (.bool _) h)
theorem cInt {i a q}:OkE nm kd (.cInt i) (.Constant (.int i) a q):=fun p C A Γ M hn hk hH P=>.no rfl fun m σ δ s Q E xs h=>wpAny_Constant_int (PV.now xs (.int _ _) h)
theorem cStr {t x a q} (hx:x=S t):OkE nm kd (.cStr t) (.Constant (.str x) a q):=fun p C A Γ M hn hk hH P=>.no rfl fun m σ δ s Q E xs h=>wpAny_Constant_str (hx▸PV.now xs (.str _ _) h)
theorem knil:OkL nm kd .nil []:=fun p C A Γ M hn hk hH P=>⟨fun m σ δ s Q E pos xs h=>spliced_none ⟨s.heap,s.toks,[],σ,δ,rfl,.refl _,.nil,xs,h⟩,rfl,fun _=>rfl⟩
theorem kcons {a b e r} (hs:Bm e=true) (h1:OkE nm kd a e) (h2:OkL nm kd b r):OkL nm kd (.cons a b) (e::r):=fun p C A Γ M hn hk hH P=>by
 have ia:=(h1 p C A Γ M hn hk (IY hH) P).s;have ib:=h2 p C A Γ M hn hk (Fi hH) P;refine⟨fun m σ δ s Q E pos xs h=>?_,(Bool.and_eq_true _ _).mpr ⟨hs,ib.st⟩,fun z=>nomatch z⟩;refine spliced_more (Cn (ia m σ δ s _ E xs h) fun w h' tk v σ' δ' ki rr x' q=>wpAny_mono (ib.l m σ' δ' { s with heap:=h',toks:=tk } _ E pos x' q) (fun ws s' z=>?_) fun _ _ z=>z.from ki) (BY hs);exact z.casesOn fun h₂ tk₂ vs σ₂ δ₂ e ki₂ rs x₂ q₂=>⟨h₂,tk₂,v::vs,σ₂,δ₂,e,ki.trans ki₂,.cons (rr.inert ki₂) rs,x₂,q₂⟩
theorem tup {xs es a q} (h1:OkL nm kd xs es):OkE nm kd (.tup xs) (.Tuple es a q):=fun p C A Γ M hn hk hH P =>
 .no rfl fun m σ δ s Q E xs h=>Tuple_ (bindL ((h1 p C A Γ M hn hk hH P).l m σ δ s _ E _ xs h) fun ws h' tk vs σ' δ' ki rr x' q=>by
  have:=rr.length;have line:=Br;refine wpAny_newTuple ?_ (by have:=q.1;omega);exact(PV.here (s:={ s with heap:=h',toks:=tk }) x' (Aw _ _) (.tup (B9 _ (Heap.get?_push_size _ rfl) rfl ⟨_,rfl⟩) (rr.keeps (Aw _ _))) q.2).from ki)
theorem lst {xs es q} (h1:OkL nm kd xs es):OkE nm kd (.lst xs) (.List es q):=fun p C A Γ M hn hk hH P =>
 .no rfl fun m σ δ s Q E xs h=>List_ (bindL ((h1 p C A Γ M hn hk hH P).l m σ δ s _ E _ xs h) fun ws h' tk vs σ' δ' ki rr x' q=>by
  have:=rr.length;have line:=Br;refine wpAny_newList ?_ (by have:=q.1;exact U22 _ _ _ _ (by assumption) this line);exact(DV (s:={ s with heap:=h',toks:=tk }) x' rr q.2).from ki)
theorem bin {op a b l o r q} (ho:o=Iw op) (h1:OkE nm kd a l) (h2:OkE nm kd b r):OkE nm kd (.bin op a b) (.BinOp l o r q):=fun p C A Γ M hn hk hH P=>by
 subst ho;have ia:=(h1 p C A Γ M hn hk (IY hH) P).s;have ib:=(h2 p C A Γ M hn hk (Fi hH) P).s;exact .no rfl fun m σ δ s Q E xs h=>wpAny_BinOp (Cn (ia m σ δ s _ E xs h) fun w h' tk v σ' δ' ki rr x' q=>CM ki (ib m σ' δ' _ _ E x' q) fun w₂ h₂ tk₂ v₂ σ₂ δ₂ ki₂ k₂ r₂ x₂ q₂=>JV ki₂ (Si (s:={ s with heap:=h₂,toks:=tk₂ }) x₂ (rr.inert k₂) r₂ q₂))
theorem neg {a e q} (h1:OkE nm kd a e):OkE nm kd (.neg a) (.UnaryOp .USub e q):=fun p C A Γ M hn hk hH P =>
 .no rfl fun m σ δ s Q E xs h=>UnaryOp_ (Cn ((h1 p C A Γ M hn hk hH P).s m σ δ s _ E xs h) fun w h' tk v σ' δ' ki rr x' q=>JV ki (R1 (s:={ s with heap:=h',toks:=tk }) x' rr q))
theorem cmp {op a b l o r q} (ho:o=Pw op) (hm:behindInMarks o r=false) (h1:OkE nm kd a l) (h2:OkE nm kd b r):OkE nm kd (.cmp op a b) (.Compare l [o] [r] q):=fun p C A Γ M hn hk hH P=>by
 subst ho;exact Pf (h1 p C A Γ M hn hk (fun _=>hH rfl) P).s (h2 p C A Γ M hn hk (fun _=>hH rfl) P).s hm (fun v w σ Q=>cmpSem op v w σ Q) (fun _ _ _ _ h=>h) Dk fun x ra rb h=>RB x ra rb M.C.units h
theorem inn {a b l r q} (hm:behindInMarks .In r=false) (h1:OkE nm kd a l) (h2:OkE nm kd b r):OkE nm kd (.inn a b) (.Compare l [.In] [r] q):=fun p C A Γ M hn hk hH P =>
 Pf (h1 p C A Γ M hn hk (fun _=>hH rfl) P).s (h2 p C A Γ M hn hk (fun _=>hH rfl) P).s hm (fun v w σ Q=>match BR v w σ with | some r=>Q (.bool r) σ | none=>False) (fun _ _ _ _ h=>h) Dk fun {m σ δ s Q E av bv v w} x ra rb h=>by
  cases z:BR v w σ with
  | none=>rw[z] at h;exact h.elim
  | some r=>rw[z] at h;exact Um M.K x ra rb z h
theorem nin {a b l r q} (hm:behindInMarks .NotIn r=false) (h1:OkE nm kd a l) (h2:OkE nm kd b r):OkE nm kd (.nin a b) (.Compare l [.NotIn] [r] q):=fun p C A Γ M hn hk hH P =>
 Pf (h1 p C A Γ M hn hk (fun _=>hH rfl) P).s (h2 p C A Γ M hn hk (fun _=>hH rfl) P).s hm (fun v w σ Q=>match BR v w σ with | some r=>Q (.bool !r) σ | none=>False) (fun _ _ _ _ h=>h) Dk fun {m σ δ s Q E av bv v w} x ra rb h=>by
  cases z:BR v w σ with
  | none=>rw[z] at h;exact h.elim
  | some r=>rw[z] at h;exact RM M.K x ra rb z h
noncomputable def Pn (w:V) (R:Prop):Prop:=match w with
 | .none=>R
 | _=>False
theorem ME {w:V} {R:Prop} (h:Pn w R):w=.none/\R:=by
 cases w <;> first | exact⟨rfl,h⟩ | exact False.elim h
theorem isN {a l c q q'} (h1:OkE nm kd a l):OkE nm kd (.isN a) (.Compare l [.Is] [.Constant .none c q] q'):=fun p C A Γ M hn hk hH P =>
 Pf (b:=.cNone) (h1 p C A Γ M hn hk (fun _=>hH rfl) P).s (cNone p C A Γ M hn hk (fun z=>nomatch z) P).s rfl (fun v w σ Q=>Pn w (Q (.bool (DE v)) σ)) (fun m σ Q E h=>h) Dk fun {m σ δ s Q E av bv v w} x ra rb h=>by
  refine An (ME h) fun z1_ h=>?_;subst z1_;exact rb.e_none (RK x ra h)
theorem isNN {a l c q q'} (h1:OkE nm kd a l):OkE nm kd (.isNN a) (.Compare l [.IsNot] [.Constant .none c q] q'):=fun p C A Γ M hn hk hH P =>
 Pf (b:=.cNone) (h1 p C A Γ M hn hk (fun _=>hH rfl) P).s (cNone p C A Γ M hn hk (fun z=>nomatch z) P).s rfl (fun v w σ Q=>Pn w (Q (.bool !(DE v)) σ)) (fun m σ Q E h=>h) Dk fun {m σ δ s Q E av bv v w} x ra rb h=>by
  refine An (ME h) fun z1_ h=>?_;subst z1_;exact rb.e_none (Qw x ra h)
section
variable {p:Prm} {C:Ctx} {P:Heap} {A:Around}
theorem FM {δ:Nat->Nat} {s:Shared} {h₁:Heap} {tk:Tok} {i j:Int} {a b:Value} {Φ:QW} (KC:CtxOk p C A) (ki:KeepI s.heap h₁) (x:St p C P m σ δ h₁) (ra:Rel h₁ a (.int i)) (rb:Rel h₁ b (.int j))
  (k:∀w h' tk',KeepI h₁ h'->Rel h' w (.bool (decide (i<=j)))->St p C P m σ δ h'->Φ w { s with heap:=h',toks:=tk' }):wpAny (model p.prog p.w) A (compareOp .LtE a b) Φ (PE p C P m s E) { s with heap:=h₁,toks:=tk }:=
 ra.e_int fun _=>rb.e_int fun _=>le_int (k _ _ _ (.refl _) (.bool _) x)
end
theorem chain {a b c l r1 r2 q} (hm:lastMarks [.LtE,.LtE] [r1,r2]=false) (h1:OkE nm kd a l) (h2:OkE nm kd b r1) (h3:OkE nm kd c r2):OkE nm kd (.chain a b c) (.Compare l [.LtE,.LtE] [r1,r2] q):=fun p C A Γ M hn hk hH P=>by
 have ia:=(h1 p C A Γ M hn hk (fun _=>hH rfl) P).s;have ib:=(h2 p C A Γ M hn hk (fun _=>hH rfl) P).s;have ic:=(h3 p C A Γ M hn hk (fun _=>hH rfl) P).s;refine⟨fun m σ δ s Q E xs h=>?_,fun _ m σ δ s Q E whole xs h _=>?_⟩
 ·refine Compare_chain (Cn (ia m σ δ s _ E xs h) fun w h' tk v σ' δ' ki rr x' q=>?_) hm;refine chain_link (CM ki (ib m σ' δ' _ _ E x' q) fun w₂ h₂ tk₂ v₂ σ₂ δ₂ ki₂ k₂ r₂ x₂ q₂=>?_);cases q₂ with
  | @yes i j hij q₂ =>
   refine FM M.C ki₂ x₂ (rr.inert k₂) r₂ fun w₃ h₃ tk₃ k₃ r₃ x₃=>?_;rw[decide_eq_true hij] at r₃;refine r₃.e_bool (wpAny_truthy_bool ?_);rw[if_pos rfl];refine chain_last (CM (ki₂.trans k₃) (ic m σ₂ δ₂ _ _ E x₃ q₂) fun w₄ h₄ tk₄ v₄ σ₄ δ₄ ki₄ k₄ r₄ x₄ q₄=>?_);cases q₄ with
   | mk q₄=>exact FM M.C ki₄ x₄ ((r₂.inert k₃).inert k₄) r₄ fun w₅ h₅ tk₅ k₅ r₅ x₅=>⟨h₅,tk₅,_,σ₄,δ₄,rfl,ki₄.trans k₅,r₅,x₅,q₄⟩
  | @no i j hij q₂ =>
   refine FM M.C ki₂ x₂ (rr.inert k₂) r₂ fun w₃ h₃ tk₃ k₃ r₃ x₃=>?_;rw[decide_eq_false hij] at r₃;refine r₃.e_bool (wpAny_truthy_bool ?_);rw[if_neg Bool.false_ne_true];exact⟨h₃,tk₃,.bool false,σ₂,δ₂,rfl,ki₂.trans k₃,.bool _,x₃,q₂⟩
 ·refine isTrue_chain (Cn (ia m σ δ s _ E xs h) fun w h' tk v σ' δ' ki rr x' q=>?_) hm;refine test_link (CM ki (ib m σ' δ' _ _ E x' q) fun w₂ h₂ tk₂ v₂ σ₂ δ₂ ki₂ k₂ r₂ x₂ q₂=>?_);cases q₂ with
  | @yes i j hij q₂ =>
   refine FM M.C ki₂ x₂ (rr.inert k₂) r₂ fun w₃ h₃ tk₃ k₃ r₃ x₃=>?_;rw[decide_eq_true hij] at r₃;refine r₃.e_bool (wpAny_truthy_bool ?_);rw[if_pos rfl];refine test_last (CM (ki₂.trans k₃) (ic m σ₂ δ₂ _ _ E x₃ q₂) fun w₄ h₄ tk₄ v₄ σ₄ δ₄ ki₄ k₄ r₄ x₄ q₄=>?_);cases q₄ with
   | mk q₄=>exact FM M.C ki₄ x₄ ((r₂.inert k₃).inert k₄) r₄ fun w₅ h₅ tk₅ k₅ r₅ x₅=>Uj (ki₄.trans k₅) (FC (s:={ s with heap:=h₅,toks:=tk₅ }) x₅ r₅ q₄)
  | @no i j hij q₂ =>
   refine FM M.C ki₂ x₂ (rr.inert k₂) r₂ fun w₃ h₃ tk₃ k₃ r₃ x₃=>?_;rw[decide_eq_false hij] at r₃;refine r₃.e_bool (wpAny_truthy_bool ?_);rw[if_neg Bool.false_ne_true];exact⟨h₃,tk₃,σ₂,δ₂,rfl,ki₂.trans k₃,x₃,q₂⟩
section
variable {p:Prm} {C:Ctx} {P:Heap} {A:Around} {Γ:Gam} {a b:X} {e1 e2:Expr} {r2:List Expr} {q:Pos}
theorem MO (ia:GX p C P A Γ a e1) (t1:okT e1=true)
  (jx:∀m σ δ s Q E,St p C P m σ δ s.heap->(wp Γ b).x m σ Q E->wpAny (model p.prog p.w) A (eval (.BoolOp .And (e2::r2) q) C.env) (PV p C P m s Q) (PE p C P m s E) s)
  (jt:∀m σ δ s Q E whole,St p C P m σ δ s.heap->(wp Γ b).t m σ Q E->wpAny (model p.prog p.w) A (isTrue (.BoolOp .And (e2::r2) q) C.env whole) (PT p C P m s Q) (PE p C P m s E) s):GX p C P A Γ (.and a b) (.BoolOp .And (e1::e2::r2) q):=by
 refine⟨fun m σ δ s Q E xs h=>?_,fun _ m σ δ s Q E whole xs h _=>?_⟩
 ·refine BoolOp_and (Cn (ia.s m σ δ s _ E xs h) fun w h' tk v σ' δ' ki rr x' hq=>?_);refine e1a2 (DP hq) fun c z1_ hq=>?_;subst z1_;refine rr.e_bool (wpAny_truthy_bool ?_);cases c with
  | true=>exact I5 ki (jx m σ' δ' _ Q E x' hq)
  | false=>exact⟨h',tk,.bool false,σ',δ',rfl,ki,.bool _,x',hq⟩
 ·refine isTrue_and (FF (ia.t t1 m σ δ s _ E _ xs h (.inl rfl)) fun c h' tk σ' δ' ki x' hq=>?_);cases c with
  | true=>exact QY ki (jt m σ' δ' _ Q E whole x' hq)
  | false=>exact⟨h',tk,σ',δ',rfl,ki,x',hq⟩
theorem Pi (ia:GX p C P A Γ a e1) (t1:okT e1=true)
  (jx:∀m σ δ s Q E,St p C P m σ δ s.heap->(wp Γ b).x m σ Q E->wpAny (model p.prog p.w) A (eval (.BoolOp .Or (e2::r2) q) C.env) (PV p C P m s Q) (PE p C P m s E) s)
  (jt:∀m σ δ s Q E whole,St p C P m σ δ s.heap->(wp Γ b).t m σ Q E->wpAny (model p.prog p.w) A (isTrue (.BoolOp .Or (e2::r2) q) C.env whole) (PT p C P m s Q) (PE p C P m s E) s):GX p C P A Γ (.or a b) (.BoolOp .Or (e1::e2::r2) q):=by
 refine⟨fun m σ δ s Q E xs h=>?_,fun _ m σ δ s Q E whole xs h _=>?_⟩
 ·refine BoolOp_or (Cn (ia.s m σ δ s _ E xs h) fun w h' tk v σ' δ' ki rr x' hq=>?_);refine e1a2 (DP hq) fun c z1_ hq=>?_;subst z1_;refine rr.e_bool (wpAny_truthy_bool ?_);cases c with
  | false=>exact I5 ki (jx m σ' δ' _ Q E x' hq)
  | true=>exact⟨h',tk,.bool true,σ',δ',rfl,ki,.bool _,x',hq⟩
 ·refine isTrue_or (FF (ia.t t1 m σ δ s _ E _ xs h (.inl rfl)) fun c h' tk σ' δ' ki x' hq=>?_);cases c with
  | false=>exact QY ki (jt m σ' δ' _ Q E whole x' hq)
  | true=>exact⟨h',tk,σ',δ',rfl,ki,x',hq⟩
end
theorem and2 {a b e1 e2 q} (t1:okT e1=true) (t2:okT e2=true) (h1:OkE nm kd a e1) (h2:OkE nm kd b e2):OkE nm kd (.and a b) (.BoolOp .And [e1,e2] q):=fun p C A Γ M hn hk hH P=>by
 have ib:=h2 p C A Γ M hn hk (fun _=>hH rfl) P;refine MO (h1 p C A Γ M hn hk (fun _=>hH rfl) P) t1 (fun m σ δ s Q E xs h=>BoolOp_one (ib.s m σ δ s Q E xs h)) (fun m σ δ s Q E whole xs h=>?_);refine isTrue_and (FF (ib.t t2 m σ δ s _ E _ xs h (.inl rfl)) fun c h' tk σ' δ' ki x' hq=>?_);cases c with
 | true=>exact isTrue_and_nil ⟨h',tk,σ',δ',rfl,ki,x',hq⟩
 | false=>exact⟨h',tk,σ',δ',rfl,ki,x',hq⟩
theorem and3 {a b e1 e2 e3 r q} (t1:okT e1=true) (h1:OkE nm kd a e1) (h2:OkE nm kd b (.BoolOp .And (e2::e3::r) q)):OkE nm kd (.and a b) (.BoolOp .And (e1::e2::e3::r) q):=fun p C A Γ M hn hk hH P =>
 have ib:=h2 p C A Γ M hn hk (fun _=>hH rfl) P
 MO (h1 p C A Γ M hn hk (fun _=>hH rfl) P) t1 ib.s (fun m σ δ s Q E whole xs h=>ib.t rfl m σ δ s Q E whole xs h (.inr (Jq _ _ _ rfl)))
theorem or2 {a b e1 e2 q} (t1:okT e1=true) (t2:okT e2=true) (h1:OkE nm kd a e1) (h2:OkE nm kd b e2):OkE nm kd (.or a b) (.BoolOp .Or [e1,e2] q):=fun p C A Γ M hn hk hH P=>by
 have ib:=h2 p C A Γ M hn hk (fun _=>hH rfl) P;refine Pi (h1 p C A Γ M hn hk (fun _=>hH rfl) P) t1 (fun m σ δ s Q E xs h=>BoolOp_one (ib.s m σ δ s Q E xs h)) (fun m σ δ s Q E whole xs h=>?_);refine isTrue_or (FF (ib.t t2 m σ δ s _ E _ xs h (.inl rfl)) fun c h' tk σ' δ' ki x' hq=>?_);cases c with
 | false=>exact isTrue_or_nil ⟨h',tk,σ',δ',rfl,ki,x',hq⟩
 | true=>exact⟨h',tk,σ',δ',rfl,ki,x',hq⟩
theorem or3 {a b e1 e2 e3 r q} (t1:okT e1=true) (h1:OkE nm kd a e1) (h2:OkE nm kd b (.BoolOp .Or (e2::e3::r) q)):OkE nm kd (.or a b) (.BoolOp .Or (e1::e2::e3::r) q):=fun p C A Γ M hn hk hH P =>
 have ib:=h2 p C A Γ M hn hk (fun _=>hH rfl) P
 Pi (h1 p C A Γ M hn hk (fun _=>hH rfl) P) t1 ib.s (fun m σ δ s Q E whole xs h=>ib.t rfl m σ δ s Q E whole xs h (.inr (Jq _ _ _ rfl)))
theorem not {a e q} (t1:okT e=true) (h1:OkE nm kd a e):OkE nm kd (.not a) (.UnaryOp .Not e q):=fun p C A Γ M hn hk hH P=>by
 have ia:=h1 p C A Γ M hn hk (fun _=>hH rfl) P;refine⟨fun m σ δ s Q E xs h=>UnaryOp_ (Cn (ia.s m σ δ s _ E xs h) fun w h' tk v σ' δ' ki rr x' q=>?_),fun _ m σ δ s Q E whole xs h _=>isTrue_not (FF (ia.t t1 m σ δ s _ E _ xs h (.inl rfl)) fun c h' tk σ' δ' ki x' hq=>⟨h',tk,σ',δ',rfl,ki,x',hq⟩)⟩;refine e1a2 (DP q) fun c z1_ q=>?_;subst z1_;exact rr.e_bool (not_of (wpAny_truthy_bool ⟨h',tk,.bool (!c),σ',δ',rfl,ki,.bool _,x',q⟩))
theorem kite {c a b t e1 e2 q} (t1:okT t=true) (h0:OkE nm kd c t) (h1:OkE nm kd a e1) (h2:OkE nm kd b e2):OkE nm kd (.ite c a b) (.IfExp t e1 e2 q):=fun p C A Γ M hn hk hH P=>by
 have ic:=h0 p C A Γ M hn hk (fun _=>hH rfl) P;have ia:=(h1 p C A Γ M hn hk (fun _=>hH rfl) P).s;have ib:=(h2 p C A Γ M hn hk (fun _=>hH rfl) P).s;refine .no rfl fun m σ δ s Q E xs h=>IfExp_ (FF (ic.t t1 m σ δ s _ E _ xs h (.inl rfl)) fun t h' tk σ' δ' ki x' hq=>?_);cases t with
 | true=>exact I5 ki (ia m σ' δ' _ Q E x' hq)
 | false=>exact I5 ki (ib m σ' δ' _ Q E x' hq)
end
end Ok
end
section
section
variable {p:Prm} {C:Ctx} {P:Heap} {A:Around} {Γ:Gam}
theorem NI (G:KO p Γ A) (f:F):SatAt p A f (Γ f):=G A rfl rfl (Nat.le_succ _) (Nat.le_add_right _ _) f
theorem F5 {ap q:Pos} {args:List Expr} (h:Du ap q args=true):(ap.endLine==q.line)=true/\args.length < 30:=by
 unfold Du at h;rw[Bool.and_eq_true,decide_eq_true_eq] at h;exact h
theorem Np {i:Expr} (h:Eg i=true) (o w:Value):subscripted i false o w=operate [o,w] (getItem o w):=by
 cases i <;> first | rfl | exact xFT h
theorem GX.call {x:X} {f:Expr} {args:List Expr} {k:List Keyword} {q:Pos} (hw:∀m σ Q E,(wp Γ x).t m σ Q E->(wp Γ x).x m σ (fun v σ'=>Dv v σ' Q) E) (s:C4 p C P A Γ x (.Call f args k q)):GX p C P A Γ x (.Call f args k q):=
 .val (fun _=>rfl) (fun _ _ _ z=>nomatch z) hw s
theorem FQ {f:F} {xs:X} {args:List Expr} {pos:Pos} {δ:Nat->Nat} {s s₀:Shared} {fs:List Value} {ss:List V} {tk:Nat} (M:Amb p C A Γ) (hk:keepIn p.K (.ref (p.fn f))=true) (ih:GL p C P A Γ xs args)
  (k0:KeepI s₀.heap s.heap) (r0:Rels s.heap fs ss) (x:St p C P m σ δ s.heap) (h:(wp Γ xs).l m σ (fun vs σ₁=>Γ f (ss++vs) σ₁ Q E) E) (e:s={ s₀ with heap:=s.heap,toks:=tk }) :
  wpAny (model p.prog p.w) A (callWith pos (.ref (p.fn f)) fs (backTo pos (starEach args C.env)) []) (PV p C P m s₀ Q) (PE p C P m s₀ E) s:=
 wpAny_mono (OJ M.K hk ih x h fun ws h' tk vs σ' δ' ki rr x' q=>wpAny_mono (Km (s:={ s with heap:=h',toks:=tk }) (NI M.G f) M.C.frames x' ((r0.inert ki).append rr) q) (fun _ _ z=>z.from ki) fun _ _ z=>z.from ki)
  (fun _ _ z=>PV.from (s:=s₀) (h₁:=s.heap) (tk₁:=tk) (e▸z) k0) fun _ _ z=>PE.from (s:=s₀) (h₁:=s.heap) (tk₁:=tk) (e▸z) k0
end
namespace Ok
section
variable {nm:List Str} {kd:Str->Option NameKind}
theorem call {f xs g q args q'} (h1:Dc f=some g) (h2:okG kd g=true) (h3:OkL nm kd xs args):OkE nm kd (.call f xs) (.Call (.Name g q) args [] q'):=fun p C A Γ M hn hk hH P=>by
 subst hk;have k:=Fw h2;refine .call Dk fun m σ δ s Q E xs' h=>Call_ (G8 M.N M.C xs' k.1 k.2 (M.N.fn f g h1) ?_);exact FQ (fs:=[]) (ss:=[]) (tk:=s.toks) M (M.N.keepF f (by rw[h1];exact Bool.or_true _)) (h3 p C A Γ M hn rfl hH P) (.refl _) .nil xs' h rfl
theorem new {c f xs g q args q'} (h1:g=Ka c) (h2:f=Dr c) (h3:okG kd g=true) (h4:args.length<=1000) (h5:OkL nm kd xs args):OkE nm kd (.new c f xs) (.Call (.Name g q) args [] q'):=fun p C A Γ M hn hk hH P=>by
 subst hk h1 h2;have k:=Fw h3;refine .call Dk fun m σ δ s Q E xs' h=>Call_ (G8 M.N M.C xs' k.1 k.2 (M.N.cl c) ?_);exact OJ M.K (M.N.keepC c) (h5 p C A Γ M hn rfl hH P) xs' h fun ws h' tk vs σ' δ' ki rr x' q =>
  wpAny_mono (Rz (s:={ s with heap:=h',toks:=tk }) M.K M.N M.C.frames M.G x' rr (rr.length.symm▸q.1) q.2) (fun _ _ z=>z.from ki) fun _ _ z=>z.from ki
theorem meth {f n o xs oe g ap args q} (h0:Du ap q args=true) (h1:Dz f=some g) (h2:g=S n) (h3:n∉attrNames) (h4:BaseOk oe) (h5:OkE nm kd o oe) (h7:(C7 f).isSome=true) (h6:OkL nm kd xs args):OkE nm kd (.meth f n o xs) (.Call (.Attribute oe g ap) args [] q):=fun p C A Γ M hn hk hH P=>by
 have io:=(h5 p C A Γ M hn hk (fun _=>hH rfl) P).s;have ix:=h6 p C A Γ M hn hk (fun _=>hH rfl) P;have l:=F5 h0;refine Aq (Cx h4 g C.env ix.st l.2 l.1) fun pl he=>?_;have hn:∀k∈attrNames,g≠S k:=fun k hk z=>h3 (F4 (h2.symm.trans z)▸hk);refine .call Dk fun m σ δ s Q E xs' h=>MethodCall_ (Cn (io m σ δ s _ E xs' h) fun w h' tk v σ' δ' ki rr x' q=>?_) he;refine An q fun z1_ q=>?_;refine e3a2 z1_ fun a k at_ z2_ e=>?_;clear z1_;subst z2_;refine Q4 (s:={ s with heap:=h',toks:=tk }) M.K M.KA M.N x' h1 hn rr e ?_;exact FQ (fs:=[w]) (ss:=[.ref a]) (s:={ s with heap:=h',toks:=tk }) M (M.N.keepF f (by rw[h7];rfl)) ix ki (.cons rr .nil) x' q rfl
theorem clsm {f xs g gp a ap args q} (h0:Du ap q args=true) (h1:f=.host_init) (h2:g=("Host" : Str)) (h3:a=("__init__" : Str)) (h4:okG kd g=true) (h6:OkL nm kd xs args):OkE nm kd (.clsm f xs) (.Call (.Attribute (.Name g gp) a ap) args [] q):=fun p C A Γ M hn hk hH P=>by
 subst h1 h2 h3 hk;have ix:=h6 p C A Γ M hn rfl (fun _=>hH rfl) P;have l:=F5 h0;have k:=Fw h4;refine Aq (Cx (oe:=.Name "Host" gp) .nm "__init__" C.env ix.st l.2 l.1) fun pl he=>?_;refine .call Dk fun m σ δ s Q E xs' h=>MethodCall_ (G8 M.N M.C xs' k.1 k.2 M.N.host (Jo M.K M.N xs' ?_)) he;exact FQ (fs:=[]) (ss:=[]) (s:={ s with toks:=s.toks+1 }) M (M.N.keepF .host_init rfl) ix (.refl _) .nil xs' h rfl
theorem excInit {xs g gp a ap args q} (h0:Du ap q args=true) (h2:g=("Exception" : Str)) (h3:a=("__init__" : Str)) (h4:okG kd g=true) (h6:OkL nm kd xs args):OkE nm kd (.excInit xs) (.Call (.Attribute (.Name g gp) a ap) args [] q):=fun p C A Γ M hn hk hH P=>by
 subst h2 h3 hk;have ix:=h6 p C A Γ M hn rfl hH P;have l:=F5 h0;have k:=Fw h4;refine Aq (Cx (oe:=.Name "Exception" gp) .nm "__init__" C.env ix.st l.2 l.1) fun pl he=>?_;refine .call Dk fun m σ δ s Q E xs' h=>MethodCall_ (J7 M.N M.C xs' k.1 k.2 (v:=.type "Exception") (by repeat (first | exact .head _ | apply List.Mem.tail)) (Ir M.K M.N xs' ?_)) he;refine I5 (h₁:=s.heap) (tk₁:=s.toks+1) (.refl _) (Jt (s:={ s with toks:=s.toks+1 }) ix xs' h fun ws h₂ tk₂ vs σ₂ δ₂ ki₂ r₂ x₂ q₂=>?_);obtain⟨a,v,rfl,e,q₂⟩:=q₂;exact r₂.e2 fun b c rb rc=>JV ki₂ (KE (s:={ s with heap:=h₂,toks:=tk₂ }) M.N x₂ rb e q₂)
theorem attr {o n oe g q} (h1:g=S n) (h2:n∈attrNames) (h3:BaseOk oe) (h4:OkE nm kd o oe):OkE nm kd (.attr o n) (.Attribute oe g q):=fun p C A Γ M hn hk hH P=>by
 subst h1;exact .no rfl fun m σ δ s Q E xs' h=>Attribute_any_ (Cn ((h4 p C A Γ M hn hk hH P).s m σ δ s _ E xs' h) fun w h' tk v σ' δ' ki rr x' q=>JV ki (Mz (s:={ s with heap:=h',toks:=tk }) M.K M.KA h2 x' rr q)) (Jr h3 _ _ _)
theorem idx {a b e i q} (h1:Eg i=true) (h2:OkE nm kd a e) (h3:OkE nm kd b i):OkE nm kd (.idx a b) (.Subscript e i q):=fun p C A Γ M hn hk hH P =>
 .no rfl fun m σ δ s Q E xs' h=>Subscript_ (Cn ((h2 p C A Γ M hn hk (IY hH) P).s m σ δ s _ E xs' h) fun w h' tk v σ' δ' ki rr x' q=>CM ki ((h3 p C A Γ M hn hk (Fi hH) P).s m σ' δ' _ _ E x' q) fun w₂ h₂ tk₂ v₂ σ₂ δ₂ ki₂ k₂ r₂ x₂ q₂=>by
  refine An (Hs (s:={ s with heap:=h₂,toks:=tk₂ }) (E:=PE p C P m s E) (A:=A) x₂ (rr.inert k₂) r₂ q₂) fun z1_ t3=>?_;refine Be z1_ fun T id t1 t2=>?_;clear z1_;exact tail_any t1 t2 (JV ki₂ t3) (Np h1 _ _))
theorem part {x e} (h:OkE nm kd x e):OkO nm kd x (some e):=fun p C A Γ M hn hk hH P m σ δ s Q E xs hw=>evalPart_some_step ((h p C A Γ M hn hk hH P).s m σ δ s Q E xs hw)
theorem noPart:OkO nm kd .no none:=fun p C A Γ M hn hk hH P m σ δ s Q E xs hw=>evalPart_none_step (Au xs .none hw)
theorem slc {a lo hi e l u q q'} (h1:OkE nm kd a e) (h2:OkO nm kd lo l) (h3:OkO nm kd hi u):OkE nm kd (.slc a lo hi) (.Subscript e (.Slice l u none q) q'):=fun p C A Γ M hn hk hH P =>
 .no rfl fun m σ δ s Q E xs' h=>Subscript_ (Cn ((h1 p C A Γ M hn hk (IY hH) P).s m σ δ s _ E xs' h) fun w h' tk v σ' δ' ki rr x' q=>wpAny_Slice (CM ki (h2 p C A Γ M hn hk (IY (Fi hH)) P m σ' δ' _ _ E x' q) fun w₂ h₂ tk₂ v₂ σ₂ δ₂ ki₂ k₂ r₂ x₂ q₂ =>
  CM ki₂ (h3 p C A Γ M hn hk (Fi (Fi hH)) P m σ₂ δ₂ _ _ E x₂ q₂) fun w₃ h₃ tk₃ v₃ σ₃ δ₃ ki₃ k₃ r₃ x₃ q₃=>evalPart_none_step (by
   refine An (Sz (s:={ s with heap:=h₃,toks:=tk₃ }) (E:=PE p C P m s E) (A:=A) x₃ (rr.inert (k₂.trans k₃)) (r₂.inert k₃) r₃ q₃) fun z1_ t3=>?_;refine Be z1_ fun T id t1 t2=>?_;clear z1_;exact tail_any t1 t2 (wpAny_mono t3 (fun _ _ z=>z.from ki₃) fun _ _ z=>z) rfl)))
end
end Ok
end
section
section
variable {p:Prm} {C:Ctx} {P P':Heap} {A:Around} {Γ:Gam} {m:Loc} {σ:Store} {δ:Nat->Nat} {h h':Heap} {s:Shared}
theorem St.lower (x:St p C P' m σ δ h) (k:P.StaysIn P') (hb:p.base.StaysIn P):St p C P m σ δ h:=by
 have none_of:∀{b},P'.get? b=none->P.get? b=none:=fun {b} e=>by
  cases q:P.get? b with
  | none=>rfl
  | some o=>have:=k _ _ q;rw[e] at this;exact xNS this
 exact⟨hb,fun b o e=>x.stays _ _ (k _ _ e),x.frs.step (fun b _ o ho=>⟨o.slots,ho⟩) fun b hb=>none_of (x.frs.mem hb).1,x.ns,none_of x.lP,x.rep,fun b f=>let ⟨a,b,c⟩:=x.off b f;⟨none_of a,b,c⟩⟩
theorem St.raise (x:St p C P m σ δ h) {a:Nat} {o:Obj} (ho:h.get? a=some o) (hf:¬Foot σ δ a) (hfr:a∉fa C.frs) (hl:a≠C.env.locals):∃P',P.StaysIn P'/\P'.get? a=some o/\St p C P' m σ δ h:=by
 have g1:P.StaysIn (CX h fun b=>P.get? b=none/\b≠a):=fun b o e=>by
  rw[Bl]
  ·exact x.stays b o e
  ·intro z1_;refine An z1_ fun z _=>?_;clear z1_;rw[z] at e;exact xNS e
 have g2:∀{b},P.get? b=none->b≠a->(CX h fun b=>P.get? b=none/\b≠a).get? b=none:=fun e z=>Ct ⟨e,z⟩;refine B9 (CX h fun b=>P.get? b=none/\b≠a) g1 ?_ ⟨fun b o e=>g1 _ _ (x.base b o e),Ef _ _,x.frs.step (fun b _ o ho=>⟨o.slots,ho⟩) fun b hb=>g2 (x.frs.mem hb).1 fun z=>hfr (z▸hb),x.ns,g2 x.lP (Ne.symm hl),x.rep,fun b f=>?_⟩
 ·rw[Bl (by intro z2_;refine An z2_ fun _ z=>?_;clear z2_;exact z rfl)];exact ho
 ·refine NK (x.off b f) fun a1 a2 a3=>?_;exact Bk (g2 a1 fun z=>hf (z▸f)) a2 a3
theorem St.adopt {c:Cell} (x:St p C P m σ δ h) (xa:σ a=none) (aP:P.get? a=none) (afr:a∉fa C.frs) (al:a≠C.env.locals) (ad:∀b c,σ b=some c->c.hasDict->δ b≠a)
  (ho:h.get? a=some o) (hi:¬BS o) (hs:Heap.SameBut a h h') (hd:¬c.hasDict) (hc:KeepI h h'->CellAt p h' a (δ a) c):St p C P m (σ.set a c) δ h'/\KeepI h h':=by
 have k:KeepI h h':=.sameBut hs ho hi;have nf:¬Foot σ δ a:=by
  rintro(⟨c,e,_⟩ | ⟨b,c,e,db,q⟩)
  ·rw[xa] at e;exact xNS e
  ·exact ad b c e db q
 have hrep:Rep p σ δ h':=x.rep.kept (fun b o f ho=>(hs.2 b fun z=>nf (z▸f)).trans ho) k;refine e1a2 x.ns fun mm hn hl=>?_;refine⟨⟨x.base,fun b o e=>(hs.2 b fun z=>?_).trans (x.stays b o e),x.frs.keeps fun b hb o e=>(hs.2 b fun z=>afr (z▸hb)).trans e,(Ai mm (hn.sameBut hs (Ne.symm al)) (hl.step k)),x.lP,⟨fun b cb e=>?_,fun b cb e hb=>?_,fun b b' cb cb' e e' hb hb'=>?_⟩,fun b f=>?_⟩,k⟩
 ·rw[z,aP] at e;exact xNS e
 ·by_cases q:b=a
  ·subst q;rw[Aa] at e;obtain rfl:=xSS e;exact hc k
  ·rw[Ab _ _ q] at e;exact hrep.at_ b cb e
 ·by_cases q:b=a
  ·subst q;rw[Aa] at e;obtain rfl:=xSS e;exact absurd hb hd
  ·rw[Ab _ _ q] at e;rw[Ab _ _ (ad b cb e hb)];exact x.rep.sep b cb e hb
 ·by_cases q:b=a
  ·subst q;rw[Aa] at e;obtain rfl:=xSS e;exact absurd hb hd
  ·by_cases q':b'=a
   ·subst q';rw[Aa] at e';obtain rfl:=xSS e';exact absurd hb' hd
   ·rw[Ab _ _ q] at e;rw[Ab _ _ q'] at e';exact x.rep.inj b b' cb cb' e e' hb hb'
 ·rcases f with ⟨cb,e,mb⟩ | ⟨b',cb,e,db,q⟩
  ·by_cases q:b=a
   ·subst q;exact Bk aP afr al
   ·rw[Ab _ _ q] at e;exact x.off b (.inl (Ai cb e mb))
  ·by_cases z:b'=a
   ·subst z;rw[Aa] at e;obtain rfl:=xSS e;exact absurd db hd
   ·rw[Ab _ _ z] at e;exact x.off b (.inr (AZ b' cb e db q))
theorem St.newFacts (x:St p C P m σ δ h) {a:Nat} (hn:h.get? a=none):¬Foot σ δ a/\a∉fa C.frs/\a≠C.env.locals/\P.get? a=none/\p.base.get? a=none:=by
 refine Ud (fun f=>?_) (fun hb=>?_) (fun z=>?_) ?_ ?_
 ·refine e1a2 (x.foot_there f) fun o ho _=>?_;rw[hn] at ho;exact xNS ho
 ·refine An (x.frs.mem hb) fun _ z1_=>?_;refine e3a2 z1_ fun o _ _ ho _=>?_;clear z1_;rw[hn] at ho;exact xNS ho
 ·refine e1a2 x.ns fun mm hns _=>?_;refine e3a2 (Ns.dict hns) fun o _ _ ho _=>?_;rw[← z,hn] at ho;exact xNS ho
 ·cases w:P.get? a with
  | none=>rfl
  | some o=>have:=x.stays a o w;rw[hn] at this;exact xNS this
 ·cases w:p.base.get? a with
  | none=>rfl
  | some o=>have:=x.stays a o (x.base _ _ w);rw[hn] at this;exact xNS this
theorem St.ground_none (x:St p C P' m σ δ h) {a:Nat} {o:Obj} (ho:P'.get? a=some o) (hb:p.base.get? a=none):σ a=none/\(∀b c,σ b=some c->c.hasDict->δ b≠a)/\a∉fa C.frs/\a≠C.env.locals:=by
 refine Qd ?_ (fun b c e hd z=>?_) (fun hm=>?_) (fun z=>?_)
 ·cases q:σ a with
  | none=>rfl
  | some c =>
   by_cases hm:c.mut
   ·have:=(x.off a (.inl (Ai c q hm))).1;rw[ho] at this;exact xSN this
   ·cases c with
    | fin vs=>refine e1a2 (x.rep.at_ a _ q) fun ws z1_ _=>?_;refine e1a2 z1_ fun o e _=>?_;clear z1_;rw[hb] at e;exact xNS e
    | _=>exact absurd trivial hm
 ·have:=(x.off a (.inr (AZ b c e hd z))).1;rw[ho] at this;exact xSN this
 ·have:=(x.frs.mem hm).1;rw[ho] at this;exact xSN this
 ·have:=x.lP;rw[← z,ho] at this;exact xSN this
theorem PE.lower {s':Shared} (z:PE p C P' m s E w s') (k:P.StaysIn P') (hb:p.base.StaysIn P):PE p C P m s E w s':=
 z.casesOn fun h' tk e st n at_ σ' δ' a b c d e1 e2 u q=>⟨h',tk,e,st,n,at_,σ',δ',a,b,c,d.lower k hb,e1,e2,u.lower k,q⟩
theorem TU (f:BF):(Mf f,Pa f)∈bltVal:=by cases f <;> (repeat (first | exact .head _ | apply List.Mem.tail))
end
namespace Ok
section
variable {nm:List Str} {kd:Str->Option NameKind}
theorem dct0 {q}:OkE nm kd .dct0 (.Dict [] [] q):=fun p C A Γ M hn hk hH P=>.no rfl fun m σ δ s Q E xs h=>wpAny_Dict_empty (by
 have hn:=Bd s.heap;have kk:=Aw s.heap { cls:=.type "dict",data:=.dict #[] };exact⟨_,s.toks,.ref s.heap.objs.size,_,δ,rfl,.of_keeps kk,.ref _,xs.new (c:=.dct 0 []) hn (fun z=>z) kk (Ai [] (SN _ (#[]) (Heap.get?_push_size _ rfl) (Bk rfl rfl rfl) rfl (fun _ he=>by simp at he) Pairs.nil List.nodup_nil) .nil) (xs.dicts_ne hn),h _ 0 (xs.fresh hn)⟩)
section
variable {p:Prm} {C:Ctx} {P P':Heap} {m:Loc} {s:Shared}
theorem MW {δ:Nat->Nat} {h h':Heap} {k1 k2:T} {w u:Value} {v vb:V} (hne:k1≠k2) (xb:St p C P' m σ δ h) (kP:P.StaysIn P') (hb:p.base.StaysIn P) (hP:P'.get? a=some o) (n4:P.get? a=none) (n5:p.base.get? a=none)
  (hob:h.get? a=some o) (hi:¬BS o) (ra:Rel h w v) (rb:Rel h u vb) (k:KeepI s.heap h) (q:∀ep,σ a=none->Q (.ref a) (σ.set a (.dct ep [(k1,v),(k2,vb)])))
  (hd:h'.DictOf (PySem.strKind p.prog p.w) a (merged [] [(S k1,w),(S k2,u)])) (hs:Heap.SameBut a h h') {tk:Tok}:PV p C P m s Q (.ref a) { s with heap:=h',toks:=tk }:=by
 have hm:merged [] [(S k1,w),(S k2,u)]=[(S k1,w),(S k2,u)]:=by
  have:¬S k1=S k2:=fun z=>hne (F4 z);simp[merged,stored,this]
 rw[hm] at hd;refine Aq hd.dictAt fun ep hd=>?_;have g:=xb.ground_none hP n5;have z:=(xb.lower kP hb).adopt (c:=.dct ep [(k1,v),(k2,vb)]) g.1 n4 g.2.2.1 g.2.2.2 g.2.1 hob hi hs (fun z=>z) fun ki=>(Ai _ hd (.cons (ra.inert ki) (.cons (rb.inert ki) .nil)));exact⟨h',_,.ref a,_,δ,rfl,k.trans z.2,.ref _,z.1,q ep g.1⟩
end
theorem dct2 {k1 k2 a b x1 x2 a1 p1 a2 p2 e1 e2 q} (h1:x1=S k1) (h2:x2=S k2) (h3:OkE nm kd a e1) (h4:OkE nm kd b e2):OkE nm kd (.dct2 k1 a k2 b) (.Dict [some (.Constant (.str x1) a1 p1),some (.Constant (.str x2) a2 p2)] [e1,e2] q):=fun p C A Γ M hn hk hH P=>by
 subst h1 h2;refine .no rfl fun m σ δ s Q E xs h=>?_;refine wpAny_Dict_pairs (knd:=PySem.strKind p.prog p.w) (pairs:=[(eval (.Constant (.str (S k1)) a1 p1) C.env,do let x ← eval e1 C.env;standAt q;pure x),(eval (.Constant (.str (S k2)) a2 p2) C.env,do let x ← eval e2 C.env;standAt q;pure x)]) rfl (by simp) (by simp) ?_;have h0:=Bd s.heap;have kk:=Aw s.heap { cls:=.type "dict",data:=.dict #[] };have nf:=xs.newFacts h0;refine B2 ((xs.keeps kk).raise (Heap.get?_push_size _ rfl) nf.1 nf.2.1 nf.2.2.1) fun P' kP hP x1=>?_;refine evalPairs_cons (wpAny_Constant_str (wpAny_bind (wpAny_mono ((h3 p C A Γ M hn hk (fun _=>hH rfl) P').s m σ δ { s with heap:=s.heap.push { cls:=.type "dict",data:=.dict #[] },toks:=s.toks+1 } _ E x1 h.2) ?_ fun _ _ z=>(z.lower kP xs.base).from (s:=s) (.of_keeps kk))));refine fun w s' z=>z.casesOn fun ha ta v σa δa e kia ra xa qa=>?_;subst e;refine wpAny_bind (wpAny_standAt (wpAny_pure (evalPairs_cons (wpAny_Constant_str (wpAny_bind (wpAny_mono ((h4 p C A Γ M hn hk (fun _=>hH rfl) P').s m σa δa { s with heap:=ha,toks:=ta+1 } _ E xa qa) ?_ fun _ _ z=>(z.lower kP xs.base).from (s:=s) ((KeepI.of_keeps kk).trans kia)))))));refine fun u s' z=>z.casesOn fun hb tb vb σb δb e kib rb xb qb=>?_;subst e;refine wpAny_bind (wpAny_standAt (wpAny_pure (evalPairs_nil ?_)));have hob:=xb.stays _ _ hP;exact⟨[(S k1,w),(S k2,u)],(Ud (DG p _ _) rfl (DG p _ _) rfl trivial),(NG _ (#[]) 0 hob (Bk rfl rfl rfl) rfl (fun _ he=>by simp at he) Pairs.nil List.nodup_nil),fun h' hd hs =>
  MW h.1 xb kP xs.base hP nf.2.2.2.1 nf.2.2.2.2 hob (AJ rfl) (ra.inert kib) rb (((KeepI.of_keeps kk).trans kia).trans kib) (qb _) hd hs⟩
theorem bf {f xs g gp e r q} (h1:g=Mf f) (h2:okG kd g=true) (h3:f≠.isTup) (h4:OkL nm kd xs (e::r)):OkE nm kd (.bf f xs) (.Call (.Name g gp) (e::r) [] q):=fun p C A Γ M hn hk hH P=>by
 subst h1 hk;have k:=Fw h2;have ix:=h4 p C A Γ M hn rfl (fun _=>hH rfl) P;refine .call Dk fun m σ δ s Q E xs' h=>Call_ (J7 M.N M.C xs' k.1 k.2 (TU f) ?_);have fin:P1 f=[]->∀ws h' tk vs σ' δ',KeepI s.heap h'->Rels h' ws vs->St p C P m σ' δ' h'->bfSem f vs σ' Q->wpAny (model p.prog p.w) A (PySem.call (Pa f) ([]++ws)) (PV p C P m s Q) (PE p C P m s E) { s with heap:=h',toks:=tk }:=by
  intro hm ws h' tk vs σ' δ' ki rr x' q;have:=QD (s:={ s with heap:=h',toks:=tk }) (A:=A) (E:=PE p C P m s E) M.K (fun _=>hH rfl) x' rr q;rw[hm,List.append_nil] at this;exact JV ki this
 cases f with
 | len=>exact Jt ix xs' h (fin rfl)
 | ord=>exact Jt ix xs' h (fin rfl)
 | str=>exact OF (fun z=>nomatch z) ix xs' h (fin rfl)
 | range=>exact OF (fun z=>nomatch z) ix xs' h (fin rfl)
 | isTup=>exact absurd rfl h3
theorem isT {a g gp e t tp q} (h1:g=("isinstance" : Str)) (h2:okG kd g=true) (h3:t=("tuple" : Str)) (h4:okG kd t=true) (h5:Bm e=true) (h6:OkE nm kd a e):OkE nm kd (.isT a) (.Call (.Name g gp) [e,.Name t tp] [] q):=fun p C A Γ M hn hk hH P=>by
 subst h1 h3 hk;have k1:=Fw h2;have k2:=Fw h4;refine .call Dk fun m σ δ s Q E xs' h=>Call_ (J7 M.N M.C xs' k1.1 k1.2 (v:=.builtin "isinstance") (by repeat (first | exact .head _ | apply List.Mem.tail)) (callWith_method1 (first:=[]) ?_ (BY h5) (by rw[BY rfl];rfl)));refine spliced_more (Cn ((h6 p C A Γ M hn rfl (fun _=>hH rfl) P).s m σ δ s _ E xs' h) fun w h' tk v σ' δ' ki rr x' q=>?_) (BY h5);refine spliced_more (J7 (s:={ s with heap:=h',toks:=tk }) M.N M.C x' k2.1 k2.2 (v:=.type "tuple") (by repeat (first | exact .head _ | apply List.Mem.tail)) (spliced_none ?_)) rfl;exact JV ki (QD (f:=.isTup) (s:={ s with heap:=h',toks:=tk }) M.K (fun z=>nomatch z) x' (.cons rr .nil) q)
theorem bm {f o xs oe g ap args q} (h0:Du ap q args=true) (h1:g=FY f) (h2:BaseOk oe) (h3:OkE nm kd o oe) (h4:OkL nm kd xs args):OkE nm kd (.bm f o xs) (.Call (.Attribute oe g ap) args [] q):=fun p C A Γ M hn hk hH P=>by
 subst h1;have ix:=h4 p C A Γ M hn hk (Fi (Fi hH)) P;have l:=F5 h0;refine Aq (Cx h2 (FY f) C.env ix.st l.2 l.1) fun pl he=>?_;refine .call Dk fun m σ δ s Q E xs' h=>MethodCall_ (Cn ((h3 p C A Γ M hn hk (IY (Fi hH)) P).s m σ δ s _ E xs' h) fun w h' tk v σ' δ' ki rr x' q=>?_) he;refine PD (s:={ s with heap:=h',toks:=tk }) x' rr q.1 ?_;exact I5 ki (Jt (s:={ s with heap:=h',toks:=tk }) ix x' q.2 fun ws h₂ tk₂ vs σ₂ δ₂ ki₂ r₂ x₂ q₂ =>
  JV (s:={ s with heap:=h',toks:=tk }) ki₂ (Ub (s:={ s with heap:=h₂,toks:=tk₂ }) M.K (fun z=>hH (by subst z;rfl)) x₂ (rr.inert ki₂) r₂ q₂))
end
end Ok
end
section
noncomputable def QK:List String:=["list_iterator","str_iterator","str_ascii_iterator","range_iterator","dict_keyiterator"]
noncomputable def IsIt (o:Obj):Prop:=(∃vs,o.data=.fields vs)/\∃n∈QK,o.cls=.type n
theorem IsIt.inert (h:IsIt o):BS o:=by
 refine An h fun z1_ z2_=>?_;clear h;refine Aq z1_ fun vs hd=>?_;clear z1_;refine e1a2 z2_ fun n hn hc=>?_;clear z2_;refine⟨.inl (KJ n hc ?_ ?_ ?_),fun es ep e=>by rw[hd] at e;exact xDx e rfl⟩ <;> (rintro rfl;revert hn;decide)
noncomputable abbrev Fc (h h':Heap):Prop:=∀b o,h.get? b=some o->BS o->¬IsIt o->h'.get? b=some o
theorem KW {h h':Heap} (k:Fc h h') {a:Addr} {its:Array Value} (ht:IsTup h a its):IsTup h' a its:=
 Exists.elim ht fun o x=>(Ai o (k _ _ x.1 ⟨.inl (KJ ("tuple") x.2.1 (by decide) (by decide) (by decide)),fun es ep e=>Exists.elim x.2.2 fun n y=>by rw[y] at e;exact xDx e rfl⟩ (fun z=>Exists.elim z.1 fun vs e=>Exists.elim x.2.2 fun n y=>by rw[y] at e;exact xDx e rfl)) x.2)
theorem Ld {h h':Heap} (k:Fc h h') {a:Addr} {lo hi st:Int} {t u v:Tok} (hr:IsRange h a lo hi st t u v):IsRange h' a lo hi st t u v:=
 k _ _ hr ⟨.inl (KJ ("range") rfl (by decide) (by decide) (by decide)),fun es ep e=>by exact xDx e rfl⟩ fun z=>Exists.elim z.2 fun n y=>by
  have e:n="range":=(Value.type.inj y.2).symm;exact absurd (e▸y.1) (by decide)
theorem Rels.core {h h':Heap} (k:Fc h h') {ws:List Value} {vs:List V} (r:Rels h ws vs):Rels h' ws vs:=
 Rels.rec (motive_1:=fun w v _=>Rel h' w v) (motive_2:=fun ws vs _=>Rels h' ws vs) .none .bool .int .str .ref (fun ht _ ih=>.tup (KW k ht) ih) (fun hr=>.rng (Ld k hr)) .nil (fun _ _ a b=>.cons a b) r
theorem Rel.core {h h':Heap} (k:Fc h h') {w:Value} {v:V} (r:Rel h w v):Rel h' w v:=
 Rel.rec (motive_1:=fun w v _=>Rel h' w v) (motive_2:=fun ws vs _=>Rels h' ws vs) .none .bool .int .str .ref (fun ht _ ih=>.tup (KW k ht) ih) (fun hr=>.rng (Ld k hr)) .nil (fun _ _ a b=>.cons a b) r
theorem Prs.core {h h':Heap} (k:Fc h h') {ws:List (Str × Value)} {vs:List (T × V)} (r:Prs h ws vs):Prs h' ws vs:=by
 induction r with
 | nil=>exact .nil
 | cons a _ ih=>exact .cons (a.core k) ih
section
variable {p:Prm} {C:Ctx} {P:Heap} {A:Around} {m:Loc} {σ:Store} {δ:Nat->Nat} {h h':Heap} {s:Shared}
theorem Attrs.core {da n:Nat} (x:Attrs h da n at_) (hd:∀o,h.get? da=some o->h'.get? da=some o) (k:Fc h h'):Attrs h' da n at_:=by
 obtain⟨od,es,ep,a,b,c,d,e,g,f⟩:=x;exact⟨od,es,ep,hd _ a,b,c,d,e,g,fun k v hk=>let ⟨w,hw,r⟩:=f k v hk;⟨w,hw,r.core (by assumption)⟩⟩
theorem CellAt.core {a da:Nat} {c:Cell} (x:CellAt p h a da c) (ha:c.mut->∀o,h.get? a=some o->h'.get? a=some o) (hd:c.hasDict->∀o,h.get? da=some o->h'.get? da=some o) (k:Fc h h'):CellAt p h' a da c:=by
 cases c with
 | lst vs=>refine Be x fun ws n e r=>?_;clear x;exact BD ws n (ha trivial _ e) (r.core k)
 | fin vs=>exact x
 | dct ep kvs =>
  refine e1a2 x fun ws z1_ q=>?_;clear x;refine Be z1_ fun o es e r=>?_;clear z1_;exact Ai ws (BD o es (ha trivial _ e) r) (q.core k)
 | obj c n at_=>refine e1a2 x fun sl e r=>?_;clear x;exact Ai sl (ha trivial _ e) (r.core (hd trivial) k)
 | exc st n at_=>refine Cc x fun vs sl e r q=>?_;clear x;exact AZ vs sl (ha trivial _ e) r (q.core (hd trivial) k)
 | nex=>refine Be x fun vs sl e r=>?_;clear x;exact BD vs sl (ha trivial _ e) r
theorem St.itStep {I:Nat} {oi:Obj} (x:St p C P m σ δ h) (ho:h.get? I=some oi) (hi:IsIt oi) (hP:P.get? I=none) (k:∀b o,b≠I->h.get? b=some o->h'.get? b=some o):St p C P m σ δ h'/\Fc h h':=by
 have kc:Fc h h':=fun b o e _ ni=>k b o (fun z=>by subst z;rw[ho] at e;obtain rfl:=xSS e;exact ni hi) e;have foot:∀b o,Foot σ δ b->h.get? b=some o->h'.get? b=some o:=fun b o f e=>k b o (fun z=>by
  subst z;refine e1a2 (x.foot_there f) fun o' e' ni=>?_;rw[ho] at e';obtain rfl:=xSS e';exact ni hi.inert) e
 refine e1a2 x.ns fun mm hn hl=>?_;have nl:C.env.locals≠I:=fun z=>by
  refine e3a2 (Ns.dict hn) fun o es ep e d=>?_;rw[z,ho] at e;obtain rfl:=xSS e;refine An hi fun z1_ _=>?_;clear hi;refine Aq z1_ fun vs q=>?_;clear z1_;rw[d] at q;exact xDx q rfl
 refine⟨⟨x.base,fun b o e=>k b o (fun z=>by subst z;rw[hP] at e;exact xNS e) (x.stays b o e),x.frs.keeps fun b hb o e=>k b o (fun z=>?_) e,(Ai mm ?_ (fun i n v a b=>?_)),x.lP,
  ⟨fun a c e=>(x.rep.at_ a c e).core (fun hm o=>foot a o (.inl (Ai c e hm))) (fun hd o=>foot _ o (.inr (AZ a c e hd rfl))) kc,x.rep.sep,x.rep.inj⟩,x.off⟩,kc⟩
 ·subst z;refine An (x.frs.mem hb) fun _ z2_=>?_;refine e3a2 z2_ fun o' es ep e' d=>?_;clear z2_;rw[ho] at e';obtain rfl:=xSS e';refine An hi fun z3_ _=>?_;clear hi;refine Aq z3_ fun vs q=>?_;clear z3_;rw[d] at q;exact xDx q rfl
 ·refine e3a2 hn fun o es ep e r=>?_;clear hn;exact O0 o es ep (k _ _ nl e) r
 ·refine e1a2 (hl i n v a b) fun w r q=>?_;refine Ai w (r.core kc) (q.imp id ?_);intro z4_;refine An z4_ fun a z5_=>?_;clear z4_;refine Kc z5_ fun ca o b c d e=>?_;clear z5_;exact⟨a,Gz ca o b (kc _ _ c e (fun ⟨⟨vs,q⟩,_⟩=>by rw[d] at q;exact xDx q rfl)) d e⟩
noncomputable def ItAt (h:Heap) (I:Nat) (v:V) (o:Option Nat) (n k:Nat):Prop:=match v,o with
 | .str s,_=>∃t ty,(ty="str_ascii_iterator"∨ty="str_iterator")/\h.IsStrIter I ty (S s) t k
 | .rng lo hi st,_=>IsRangeIter h I (lo+st*(k:Int)) (Builtin.Range.rangeSize lo hi st - (k:Int)) st
 | .ref a,none=>h.IsListIter I a k
 | .ref a,some ep=>h.IsKeyIter I a k n ep
 | _,_=>False
theorem ItAt.isIt {I:Nat} {o:Option Nat} {n k:Nat} (x:ItAt h I v o n k):∃oi,h.get? I=some oi/\IsIt oi:=by
 cases v with
 | str s =>
  refine Be x fun t ty hty z1_=>?_;clear x;refine B2 z1_ fun oi e hc hd=>?_;clear z1_;exact B9 oi e ⟨_,hd⟩ (Ai ty (by rcases hty with rfl | rfl <;> decide) hc)
 | rng lo hi st=>exact B9 _ x ⟨_,rfl⟩ (Ai ("range_iterator") (by decide) rfl)
 | ref a =>
  cases o with
  | none=>refine B2 x fun oi e hc hd=>?_;clear x;exact B9 oi e ⟨_,hd⟩ (Ai ("list_iterator") (by decide) hc)
  | some ep=>refine B2 x fun oi e hc hd=>?_;clear x;exact B9 oi e ⟨_,hd⟩ (Ai ("dict_keyiterator") (by decide) hc)
 | _=>exact False.elim x
theorem ItAt.keep {I:Nat} {o:Option Nat} {n k:Nat} (x:ItAt h I v o n k) (ki:KeepI h h'):ItAt h' I v o n k:=by
 have ee:h.get? I=h'.get? I:=Exists.elim x.isIt fun oi y=>y.1.trans (ki _ _ y.1 y.2.inert).symm;cases v with
 | str s=>exact Exists.elim x fun t x=>Exists.elim x fun ty x=>(BD t ty x.1 (Exists.elim x.2 fun oi y=>(Ai oi (ee▸y.1) y.2)))
 | rng lo hi st=>exact ee.symm.trans x
 | ref a =>
  cases o with
  | none=>exact Exists.elim x fun oi y=>(Ai oi (ee▸y.1) y.2)
  | some ep=>exact Exists.elim x fun oi y=>(Ai oi (ee▸y.1) y.2)
 | _=>exact False.elim x
inductive IterR (σ:Store):V->List V->Option Nat->Prop
 | str {s:T}:IterR σ (.str s) (s.map fun c=>.str [c]) none
 | rng {lo hi st:Int}:lo.natAbs < 2 ^ 40->hi.natAbs < 2 ^ 40->st.natAbs < 2 ^ 40->st≠0->IterR σ (.rng lo hi st) ((Cl lo hi st).map .int) none
 | lst {a:Nat} {vs:List V}:Ag σ (.ref a)=some vs->IterR σ (.ref a) vs none
 | dct {a ep:Nat} {kvs:List (T × V)}:σ a=some (.dct ep kvs)->IterR σ (.ref a) (kvs.map fun p=>.str p.1) (some ep)
theorem IterR.of {o:Option Nat} (e:AW σ v=some (xs,o)):IterR σ v xs o:=by
 cases v with
 | str s=>refine xPr (xSS e) fun z12_ z13_=>?_;subst z12_;subst z13_;exact .str
 | rng lo hi st =>
  have e:(if lo.natAbs < 2 ^ 40/\hi.natAbs < 2 ^ 40/\st.natAbs < 2 ^ 40/\st≠0 then some ((Cl lo hi st).map V.int,none) else none)=some (xs,o):=e;by_cases b:lo.natAbs < 2 ^ 40/\hi.natAbs < 2 ^ 40/\st.natAbs < 2 ^ 40/\st≠0
  ·rw[if_pos b] at e;refine xPr (xSS e) fun z16_ z17_=>?_;subst z16_;subst z17_;exact .rng b.1 b.2.1 b.2.2.1 b.2.2.2
  ·rw[if_neg b] at e;exact xNS e
 | ref a =>
  have e:(match σ a with
   | some (.lst vs)=>some (vs,none)
   | some (.fin vs)=>some (vs,none)
   | some (.dct ep kvs)=>some (kvs.map fun p=>V.str p.1,some ep)
   | _=>none)=some (xs,o):=e
  cases q:σ a with
  | none=>rw[q] at e;exact xNS e
  | some c =>
   rw[q] at e;have l:Ag σ (.ref a)=match some c with
    | some (.lst vs)=>some vs
    | some (.fin vs)=>some vs
    | _=>none:=q▸rfl
   cases c <;> (first | exact xNS e | (refine xPr (xSS e) fun z1_ z2_=>?_;subst z1_;subst z2_) | (refine xPr (xSS e) fun z3_ z4_=>?_;subst z3_;subst z4_))
   ·exact .lst l
   ·exact .lst l
   ·exact .dct q
 | _=>exact xNS e
theorem Qp {lo hi st:Int} (h1:lo.natAbs < 2 ^ 40) (h2:hi.natAbs < 2 ^ 40) (h0:st≠0):0<=Builtin.Range.rangeSize lo hi st/\Builtin.Range.rangeSize lo hi st<=2 ^ 42:=by
 unfold Builtin.Range.rangeSize;split
 ·split
  ·have:(hi - lo - 1) / st<=hi - lo - 1:=Int.ediv_le_self _ (by exact U15 _ _ (by assumption));have:0<=(hi - lo - 1) / st:=Int.ediv_nonneg (by exact U15 _ _ (by assumption)) (by exact lin 0 1 [.T (.c 0) (.v 0)] (.L (.c 0) (.v 0)) [] R0 _ (by assumption));exact lin 0 3 [.L (.c 0) (.v 0),.L (.v 0) (.s (.s (.v 1) (.v 2)) (.c 1)),.t (.b (.v 2)) (.c 1099511627776),.t (.b (.v 1)) (.c 1099511627776)] (.a (.L (.c 0) (.a (.v 0) (.c 1))) (.L (.a (.v 0) (.c 1)) (.c 4398046511104))) [[1,0,0,0,0,0,1],[0,1,1,0,0,1,1],[1,0,0,0,0,0,1],[1,1,1,0,1,0,0],[1,0,0,0,0,0,1],[0,1,0,1,0,1,1],[1,0,0,0,0,0,1],[0,1,0,1,1,0,1]] R0 _ _ _ this (by assumption) h1 h2
  ·exact U48
 ·split
  ·have:(lo - hi - 1) / -st<=lo - hi - 1:=Int.ediv_le_self _ (by exact U15 _ _ (by assumption));have:0<=(lo - hi - 1) / -st:=Int.ediv_nonneg (by exact U15 _ _ (by assumption)) (by exact lin 0 1 [.n (.T (.c 0) (.v 0))] (.L (.c 0) (.n (.v 0))) [] R0 _ (by assumption));exact lin 0 3 [.L (.c 0) (.v 0),.L (.v 0) (.s (.s (.v 1) (.v 2)) (.c 1)),.t (.b (.v 1)) (.c 1099511627776),.t (.b (.v 2)) (.c 1099511627776)] (.a (.L (.c 0) (.a (.v 0) (.c 1))) (.L (.a (.v 0) (.c 1)) (.c 4398046511104))) [[1,0,0,0,0,0,1],[0,1,0,1,1,0,1],[1,0,0,0,0,0,1],[0,1,0,1,0,1,1],[1,0,0,0,0,0,1],[1,1,1,0,1,0,0],[1,0,0,0,0,0,1],[0,1,1,0,0,1,1]] R0 _ _ _ this (by assumption) h1 h2
  ·exact U48
theorem O5 {i:Int} (hi:i.natAbs < 2 ^ 43):Builtin.Range.rangeFitsLong i=true:=by
 unfold Builtin.Range.rangeFitsLong;simp;exact lin 0 1 [.t (.b (.v 0)) (.c 8796093022208)] (.a (.L (.c (-9223372036854775808)) (.v 0)) (.T (.v 0) (.c 9223372036854775808))) [[1,0,1],[0,1,1],[0,1,1],[1,0,1]] (by kernel_rfl) _ hi
theorem H8 {o:Option Nat} {Q:QW} {E:QW} (K:POk p) (x:St p C P m σ δ s.heap) (r:Rel s.heap w v) (e:AW σ v=some (xs,o))
  (q:∀ob,ItAt (s.heap.push ob) s.heap.objs.size v o xs.length 0->Q (.ref s.heap.objs.size) { s with heap:=s.heap.push ob }):wpAny (model p.prog p.w) A (pyIter w) Q E s:=by
 have ir:=IterR.of e;clear e;cases ir with
 | @str c =>
  refine r.e_str fun t=>?_;by_cases ha:((S c).cps.all fun (x:Nat)=>decide (x < 128))=true
  ·exact wpAny_pyIter_ascii ha (q _ (BD t _ (.inl rfl) (B9 _ (Heap.get?_push_size _ rfl) rfl rfl)))
  ·exact wpAny_pyIter_wide (eq_false_of_ne_true ha) (q _ (BD t _ (.inr rfl) (B9 _ (Heap.get?_push_size _ rfl) rfl rfl)))
 | @rng lo hi st b1 b2 b3 b4 =>
  refine r.e_rng fun a t u v hr=>wpAny_pyIter_range hr ?_ (q _ ?_)
  ·have z:=Qp b1 b2 b4;unfold Builtin.Range.small;rw[O5 (i:=lo) (by exact U23 _ b1),O5 (i:=hi) (by exact U23 _ b2),O5 (i:=st) (by exact U23 _ b3),O5 (i:=Builtin.Range.rangeSize lo hi st) (by exact lin 0 1 [.a (.L (.c 0) (.v 0)) (.L (.v 0) (.c 4398046511104))] (.t (.b (.v 0)) (.c 8796093022208)) [[0,1,0,1],[1,0,0,1]] R0 _ z)];simp only[Bool.and_self,Bool.true_and,Bool.or_eq_true];refine .inr ?_;split <;> exact O5 (by first | exact lin 0 2 [.t (.b (.v 0)) (.c 1099511627776),.t (.b (.v 1)) (.c 1099511627776)] (.t (.b (.a (.v 1) (.s (.v 0) (.c 1)))) (.c 8796093022208)) [[0,1,0,1,0,1],[1,0,1,0,0,1],[0,1,1,0,0,1],[1,0,0,1,0,1],[1,0,0,1,0,1],[0,1,1,0,0,1],[1,0,1,0,1,0],[0,1,0,1,0,1]] R0 _ _ b3 b2 | exact lin 0 2 [.t (.b (.v 0)) (.c 1099511627776),.t (.b (.v 1)) (.c 1099511627776)] (.t (.b (.a (.v 1) (.a (.v 0) (.c 1)))) (.c 8796093022208)) [[0,1,0,1,0,1],[1,0,1,0,1,0],[0,1,1,0,0,1],[1,0,0,1,0,1],[1,0,0,1,0,1],[0,1,1,0,0,1],[1,0,1,0,0,1],[0,1,0,1,0,1]] R0 _ _ b3 b2)
  ·show IsRangeIter _ _ (lo+st*((0:Nat):Int)) (Builtin.Range.rangeSize lo hi st - ((0:Nat):Int)) st;rw[show lo+st*((0:Nat):Int)=lo by simp,show Builtin.Range.rangeSize lo hi st - ((0:Nat):Int)=Builtin.Range.rangeSize lo hi st by simp];exact Heap.get?_push_size _ rfl
 | lst e =>
  refine e1a2 (BL x e) fun ws l _=>?_;exact r.e_ref (wpAny_pyIter_list l (q _ (B9 _ (Heap.get?_push_size _ rfl) rfl rfl)))
 | dct hσ =>
  refine e1a2 (x.rep.at_ _ _ hσ) fun ws d pr=>?_;refine r.e_ref (wpAny_pyIter_dict (Fg K x hσ) d (q _ (B9 _ (Heap.get?_push_size _ rfl) rfl ?_)));rw[List.length_map,pr.length];rfl
theorem Prs.key {ws:List (Str × Value)} {vs:List (T × V)} (r:Prs h ws vs):∀{k:Nat} {kv:T × V},vs[k]?=some kv->∃w,ws[k]?=some (S kv.1,w):=by
 induction r with
 | nil=>exact fun e=>nomatch e
 | cons a _ ih =>
  intro k kv e;cases k with
  | zero=>obtain rfl:=xSS e;exact⟨_,rfl⟩
  | succ k=>exact ih e
theorem Om {lo hi st:Int} {k:Nat} {y:V} (hy:((Cl lo hi st).map V.int)[k]?=some y):y=.int (lo+st*(k:Int))/\(k:Int) < Builtin.Range.rangeSize lo hi st:=by
 unfold Cl at hy;rw[List.getElem?_map,Option.map_eq_some_iff] at hy;refine e1a2 hy fun i hi2 z1_=>?_;clear hy;subst z1_;rw[List.getElem?_map,Option.map_eq_some_iff] at hi2;refine e1a2 hi2 fun j hj z2_=>?_;clear hi2;subst z2_;have hk:=(List.getElem?_eq_some_iff.mp hj).1;rw[List.length_range] at hk;rw[List.getElem?_range hk] at hj;obtain rfl:=xSS hj;exact⟨rfl,by exact lin 1 1 [.t Z0 (.t (.v 0))] (.T (.o Z0) (.v 0)) [[0,1,1],[0,1,0]] R0 _ _ hk⟩
theorem IU {I:Nat} {o:Option Nat} {k:Nat} {y:V} {Q:Option Value->Shared->Prop} {E:QW} (x:St p C P m σ δ s.heap) (it:ItAt s.heap I v o xs.length k) (hP:P.get? I=none)
  (e:AW σ v=some (xs,o)) (hy:xs[k]?=some y)
  (q:∀w h' tk,Heap.SameBut I s.heap h'->Rel h' w y->ItAt h' I v o xs.length (k+1)->Q (some w) { s with heap:=h',toks:=tk }):wpAny (model p.prog p.w) A (pyNext (.ref I)) Q E s:=by
 refine e1a2 it.isIt fun oi hoi hi=>?_;have ir:=IterR.of e;clear e;cases ir with
 | @str c =>
  refine Be it fun t ty hty si=>?_;clear it;rw[List.getElem?_map,Option.map_eq_some_iff] at hy;refine e1a2 hy fun a ha z1_=>?_;clear hy;subst z1_;have ha':(S c).cps[k]?=some a:=List.getElem?_toArray.trans ha;rcases hty with rfl | rfl
  ·exact wpAny_pyNext_ascii_item si ha' fun h' s1 hs=>q _ _ _ hs (.str [a] _) (BD t _ (.inl rfl) s1)
  ·exact wpAny_pyNext_wide_item si ha' fun h' s1 hs=>q _ _ _ hs (.str [a] _) (BD t _ (.inr rfl) s1)
 | @rng lo hi' st b1 b2 b3 b4 =>
  refine An (Om hy) fun z2_ hk2=>?_;subst z2_;refine wpAny_pyNext_range_item it (by exact lin 1 1 [.T (.o Z0) (.v 0)] (.T (.c 0) (.s (.v 0) (.o Z0))) [] R0 _ _ hk2) fun h' s1 hs=>q _ _ _ hs (.int _ _) ?_;show IsRangeIter _ _ (lo+st*((k+1:Nat):Int)) (Builtin.Range.rangeSize lo hi' st - ((k+1:Nat):Int)) st;rw[show lo+st*((k+1:Nat):Int)=lo+st*(k:Int)+st by rw[Int.natCast_succ,Int.mul_add];exact lin 0 3 [] (.E (.a (.v 0) (.a (.v 1) (.r (.v 2) 1))) (.a (.a (.v 0) (.v 1)) (.v 2))) [] R0 _ _ _,show Builtin.Range.rangeSize lo hi' st - ((k+1:Nat):Int)=Builtin.Range.rangeSize lo hi' st - (k:Int) - 1 by exact lin 1 1 [] (.E (.s (.v 0) (.o (.a Z0 (.c 1)))) (.s (.s (.v 0) (.o Z0)) (.c 1))) [] R0 _ _];exact s1
 | lst e =>
  refine e1a2 (BL x e) fun ws l rs=>?_;refine e1a2 (rs.get hy) fun z hz rz=>?_;exact wpAny_pyNext_list_item it l (List.getElem?_toArray.trans hz) fun h' s1 hs=>q _ _ _ hs (rz.core (x.itStep hoi hi hP fun b o z w=>(hs.2 b z).trans w).2) s1
 | @dct a ep kvs hσ =>
  refine e1a2 (x.rep.at_ _ _ hσ) fun ws d pr=>?_;rw[List.getElem?_map,Option.map_eq_some_iff] at hy;refine e1a2 hy fun kv hkv z3_=>?_;clear hy;subst z3_;refine Aq (pr.key hkv) fun w hw=>?_;have hl:(kvs.map fun p=>V.str p.1).length=ws.length:=by rw[List.length_map,pr.length]
  have it':s.heap.IsKeyIter I a k ws.length ep:=hl▸it;refine wpAny_pyNext_dict_item it' d hw fun kv h' hk s1 hs=>?_;refine Aq (Value.isStrOf_shape hk) fun t z4_=>?_;subst z4_;exact q _ _ _ hs (.str _ t) (hl.symm▸s1)
theorem Hy {I:Nat} {o:Option Nat} {k:Nat} {Q:Option Value->Shared->Prop} {E:QW} (hA:A.handled=none) (x:St p C P m σ δ s.heap) (it:ItAt s.heap I v o xs.length k)
  (e:AW σ v=some (xs,o)) (hy:xs.length<=k)
  (q:∀h' tk,Heap.ExtBut I s.heap h'->Q none { s with heap:=h',toks:=tk }):wpAny (model p.prog p.w) A (pyNext (.ref I)) Q E s:=by
 have ir:=IterR.of e;clear e;cases ir with
 | @str c =>
  refine Be it fun t ty hty si=>?_;clear it;rw[List.length_map] at hy;have ha':(S c).cps[k]?=none:=List.getElem?_toArray.trans (List.getElem?_eq_none hy);rcases hty with rfl | rfl
  ·exact wpAny_pyNext_ascii_end hA si ha' fun h' hs=>q _ _ hs
  ·exact wpAny_pyNext_wide_end hA si ha' fun h' hs=>q _ _ hs
 | rng b1 b2 b3 b4 =>
  unfold Cl at hy;simp only[List.length_map,List.length_range] at hy;exact wpAny_pyNext_range_end hA it (by exact lin 1 1 [.l (.t (.v 0)) Z0] (.L (.s (.v 0) (.o Z0)) (.c 0)) [[0,1,1]] R0 _ _ hy) fun h' hs=>q _ _ hs
 | lst e =>
  refine e1a2 (BL x e) fun ws l rs=>?_;exact wpAny_pyNext_list_end hA it l (List.getElem?_toArray.trans (List.getElem?_eq_none (rs.length▸hy))) fun h' hs=>q _ _ hs
 | @dct a ep kvs hσ =>
  refine e1a2 (x.rep.at_ _ _ hσ) fun ws d pr=>?_;have hl:(kvs.map fun p=>V.str p.1).length=ws.length:=by rw[List.length_map,pr.length]
  have it':s.heap.IsKeyIter I a k ws.length ep:=hl▸it;exact wpAny_pyNext_dict_end hA it' d (List.getElem?_eq_none (hl▸hy)) fun h' hs=>q _ _ hs
end
end
section
section
variable {p:Prm} {C:Ctx} {P:Heap} {A:Around} {Γ:Gam} {m:Loc} {σ:Store} {δ:Nat->Nat} {h h':Heap} {s:Shared}
theorem St.offStep (x:St p C P m σ δ h) (ho:h.get? a=some o) (hi:¬BS o) (aP:P.get? a=none) (nf:¬Foot σ δ a) (afr:a∉fa C.frs) (al:a≠C.env.locals) (hs:Heap.SameBut a h h'):St p C P m σ δ h'/\KeepI h h':=by
 have k:KeepI h h':=.sameBut hs ho hi;refine e1a2 x.ns fun mm hn hl=>?_;exact⟨⟨x.base,fun b o e=>(hs.2 b fun z=>by rw[z,aP] at e;exact xNS e).trans (x.stays b o e),x.frs.keeps fun b hb o e=>(hs.2 b fun z=>afr (z▸hb)).trans e,(Ai mm (hn.sameBut hs (Ne.symm al)) (hl.step k)),x.lP,
  x.rep.kept (fun b o f e=>(hs.2 b fun z=>nf (z▸f)).trans e) k,x.off⟩,k⟩
theorem NP (x:Rep p σ δ h) (nf:¬Foot σ δ a) (hb:p.base.get? a=none):σ a=none/\∀b c,σ b=some c->c.hasDict->δ b≠a:=by
 refine⟨?_,fun b c e hd z=>nf (.inr (AZ b c e hd z))⟩;cases q:σ a with
 | none=>rfl
 | some c =>
  by_cases hm:c.mut
  ·exact absurd (.inl (Ai c q hm)) nf
  ·cases c with
   | fin vs=>refine e1a2 (x.at_ a _ q) fun ws z1_ _=>?_;refine e1a2 z1_ fun o e _=>?_;clear z1_;rw[hb] at e;exact xNS e
   | _=>exact absurd trivial hm
noncomputable def Own (C:Ctx):Prop:=∀(j:Nat) (env:Env) (q:Option Obj),C.frs[j]?=some env->C.rcd[j]?=some q->env.frame=some C.env.locals->q=none
theorem FrOk.ownStep {l:List Env} {qs:List (Option Obj)} {L:Addr} (x:FrOk h P l qs) (hs:Heap.SameBut L h h') (hd:∃o es ep,h'.get? L=some o/\o.data=.dict es ep) (own:∀(j:Nat) (env:Env) (q:Option Obj),l[j]?=some env->qs[j]?=some q->env.frame=some L->q=none):FrOk h' P l qs:=by
 induction x with
 | nil=>exact .nil
 | cons a e c d f g _ ih =>
  rename_i env q l qs L' o es ep _;have ih2:=ih fun j env q h1 h2 h3=>own (j+1) env q (by simpa using h1) (by simpa using h2) h3;by_cases z:L'=L
  ·subst z;refine e3a2 hd fun o2 es2 ep2 e2 d2=>?_;clear hd;exact .cons a e c e2 d2 (fun o' ho'=>by have:=own 0 env q rfl rfl e;rw[this] at ho';exact xNS ho') ih2
  ·exact .cons a e c ((hs.2 L' z).trans d) f g ih2
theorem Kk {n:Str} {Q:QU} {E:QW} (hk:C.env.scope.kind=.function) (own:Own C) (x:St p C P m σ δ s.heap) (hn:C.env.kindOf n=some .local) (hi:C.names[i]?=some n) (hu:∀j,C.names[j]?=some n->j=i) (r:Rel s.heap w v)
  (hq:∀h' tk,KeepI s.heap h'->Heap.SameBut C.env.locals s.heap h'->St p C P (m.set i (some v)) σ δ h'->Q () { s with heap:=h',toks:=tk }) :
  wpAny (model p.prog p.w) A (storeName C.env n w) Q E s:=by
 refine e1a2 x.ns fun mm hns hl=>?_;refine e3a2 (Ns.dict hns) fun o es ep ho hd=>?_;refine wpAny_storeName_local hn hns (fun h' hn' hs=>?_) (by rw[hk];rfl);have ki:KeepI s.heap h':=.sameBut hs ho (AJ hd);refine hq h' _ ki hs ⟨x.base,fun b o e=>(hs.2 b fun z=>by rw[z,x.lP] at e;exact xNS e).trans (x.stays b o e),x.frs.ownStep hs (Ns.dict hn') own,(Ai _ hn' (fun j y u hj hm=>?_)),x.lP,x.rep.kept (fun b o f e=>(hs.2 b (x.off b f).2.2).trans e) ki,x.off⟩;rw[List.getElem?_set] at hm;split at hm
 ·rename_i e;subst e;split at hm <;> (first | exact xNS hm | obtain rfl:=xSS ((xSS hm)))
  rw[hi] at hj;obtain rfl:=xSS hj;exact Ai w (r.inert ki) (.inl ⟨hn,by simp⟩)
 ·rename_i e;refine e1a2 (hl j y u hj hm) fun w' r' q=>?_;have z:y≠n:=fun z=>e (hu j (z▸hj)).symm;refine Ai w' (r'.inert ki) ?_;rcases q with ⟨a1,a2⟩ | ⟨a1,ca,o,b,c,d,e⟩
  ·exact .inl ⟨a1,by rw[if_neg z];exact a2⟩
  ·exact .inr ⟨a1,Gz ca o b (ki _ _ c e) d e⟩
theorem FN {n:Str} {pos:Pos} {Q:QU} {E:QW} (hk:C.env.scope.kind=.function) (own:Own C) (x:St p C P m σ δ s.heap) (hn:C.env.kindOf n=some .local) (hi:C.names[i]?=some n) (hu:∀j,C.names[j]?=some n->j=i) (r:Rel s.heap w v)
  (hq:∀h' tk,KeepI s.heap h'->Heap.SameBut C.env.locals s.heap h'->St p C P (m.set i (some v)) σ δ h'->Q () { s with heap:=h',toks:=tk }) :
  wpAny (model p.prog p.w) A (assign (.Name n pos) C.env w) Q E s:=
 wpAny_assign_Name (Kk hk own x hn hi hu r hq)
theorem ER (env:Env):∀(names:List (Str × NameKind)) (acc:List (Str × Addr)),(∀y∈names,y.2=.free->∃ca,env.cells.lookup y.1=some ca) ->
  ∃cl,(forIn names acc fun (y:Str × NameKind) (cs:List (Str × Addr))=>(if (y.2==NameKind.free)=true then do
    let c ← cellOf env y.1
    pure (ForInStep.yield ((y.1,c)::cs))
   else pure (ForInStep.yield cs):Sem _))=pure cl/\(∀n ca,env.cells.lookup n=some ca->(acc.lookup n=some ca∨∃y∈names,y.1=n/\y.2=.free)->cl.lookup n=some ca)
 | [],acc,_=>⟨acc,rfl,fun n ca hc h=>h.elim id fun ⟨y,hy,_⟩=>by cases hy⟩
 | y::r,acc,hf=>by
  rw[List.forIn_cons];by_cases hy:y.2=.free
  ·refine Aq (hf y (.head _) hy) fun ca hca=>?_;refine e1a2 (ER env r ((y.1,ca)::acc) fun z hz=>hf z (.tail _ hz)) fun cl e hcl=>?_;refine Ai cl ?_ (fun n c hc h=>hcl n c hc ?_)
   ·rw[if_pos (by rw[hy];rfl)];unfold cellOf;rw[hca];exact e
   ·by_cases z:n=y.1
    ·subst z;rw[hca] at hc;obtain rfl:=xSS hc;exact .inl (by simp)
    ·rcases h with h | ⟨u,hu,h1,h2⟩
     ·exact .inl (by rw[List.lookup_cons,show (n==y.1)=false by simpa using z];exact h)
     ·rcases List.mem_cons.mp hu with rfl | hu
      ·exact absurd h1.symm z
      ·exact .inr (B9 u hu h1 h2)
  ·refine e1a2 (ER env r acc fun z hz=>hf z (.tail _ hz)) fun cl e hcl=>?_;refine Ai cl ?_ (fun n c hc h=>hcl n c hc ?_)
   ·rw[if_neg (by simpa using hy)];exact e
   ·rcases h with h | ⟨u,hu,h1,h2⟩
    ·exact .inl h
    ·rcases List.mem_cons.mp hu with rfl | hu
     ·exact absurd h2 hy
     ·exact .inr (B9 u hu h1 h2)
end
end
section
section
variable {p:Prm} {C:Ctx} {P:Heap} {A:Around} {Γ:Gam} {m:Loc} {σ:Store} {δ:Nat->Nat} {h h':Heap} {s:Shared}
noncomputable def inner (C:Ctx) (σ:Store) (δ:Nat->Nat) (h:Heap) (c:Nat):Heap:=CX h fun b=>Foot σ δ b∨b∈fa C.frs∨b=c
theorem Q5 {C':Ctx} {m':Loc} {mm:Str->Option Value} (x:St p C P m σ δ h) (hf:C'.frs=C.frs) (hr:C'.rcd=Dh h C.frs) (cn:¬Foot σ δ C'.env.locals) (cP:P.get? C'.env.locals=none) (hn:h.Ns C'.env.locals mm) (hl:LocRel h C'.env C'.names m' mm) :
  St p C' (inner C σ δ h C'.env.locals) m' σ δ h/\P.StaysIn (inner C σ δ h C'.env.locals):=by
 have hPP:P.StaysIn (inner C σ δ h C'.env.locals):=fun b o e=>by
  refine(Bl ?_).trans (x.stays b o e);rintro(f | f | f)
  ·rw[(x.off b f).1] at e;exact xNS e
  ·rw[(x.frs.mem f).1] at e;exact xNS e
  ·rw[f,cP] at e;exact xNS e
 refine⟨⟨fun b o e=>hPP _ _ (x.base b o e),Ef _ _,?_,(Ai mm hn hl),Ct (.inr (.inr rfl)),x.rep,fun b f=>(Bk (Ct (.inl f)) ?_ (fun z=>cn (z▸f)))⟩,hPP⟩
 ·rw[hf,hr];exact(x.frs.now fun b hb=>Ct (.inr (.inl hb))).1
 ·rw[hf];exact(x.off b f).2.1
theorem Og {C':Ctx} {m':Loc} {σ':Store} {δ':Nat->Nat} (x:St p C P m σ δ h) (hf:C'.frs=C.frs) (hr:C'.rcd=Dh h C.frs) (cl:C'.env.locals≠C.env.locals) (cP:P.get? C'.env.locals=none) (x':St p C' (inner C σ δ h C'.env.locals) m' σ' δ' h') (ki:KeepI h h'):St p C P m σ' δ' h':=by
 have hPP:P.StaysIn (inner C σ δ h C'.env.locals):=fun b o e=>by
  refine(Bl ?_).trans (x.stays b o e);rintro(f | f | f)
  ·rw[(x.off b f).1] at e;exact xNS e
  ·rw[(x.frs.mem f).1] at e;exact xNS e
  ·rw[f,cP] at e;exact xNS e
 have k2:=x'.frs;rw[hf,hr] at k2;refine An (x.frs.after k2) fun f1 f2=>?_;refine e1a2 x.ns fun mm hn hl=>?_;have inP:C.env.locals∉fa C.frs->∀o,h.get? C.env.locals=some o->(inner C σ δ h C'.env.locals).get? C.env.locals=some o:=fun hnf o e=>by
  refine(Bl ?_).trans e;rintro(f | f | f)
  ·exact(x.off _ f).2.2 rfl
  ·exact hnf f
  ·exact cl f.symm
 have lo:∀o,h.get? C.env.locals=some o->∃sl,h'.get? C.env.locals=some { o with slots:=sl }:=fun o ho=>by
  by_cases q:C.env.locals∈fa C.frs
  ·exact f2 _ q o ho
  ·exact⟨o.slots,x'.stays _ _ (inP q o ho)⟩
 refine⟨x.base,fun b o e=>x'.stays _ _ (hPP b o e),f1,(Ai mm (Heap.Ns.slots hn lo) (hl.step ki)),x.lP,x'.rep,fun b f=>?_⟩;refine NK (x'.off b f) fun z1 z2 z3=>?_;rw[hf] at z2;refine Bk ?_ z2 (fun w=>?_)
 ·cases q:P.get? b with
  | none=>rfl
  | some o=>have:=hPP _ _ q;rw[z1] at this;exact xNS this
 ·subst w;by_cases q:C.env.locals∈fa C.frs
  ·exact z2 q
  ·refine e3a2 (Ns.dict hn) fun o es ep ho _=>?_;rw[inP q o ho] at z1;exact xSN z1
theorem OA {a c:Nat} (ho:h.get? a=some o) (nf:¬Foot σ δ a) (nfr:a∉fa C.frs) (nc:a≠c):(inner C σ δ h c).get? a=some o:=by
 refine(Bl ?_).trans ho;rintro(f | f | f)
 ·exact nf f
 ·exact nfr f
 ·exact nc f
noncomputable def PB (C:Ctx) (sc:Scope) (cl:List (Str × Addr)) (c:Nat) (h:Heap) (nm:List Str):Ctx:=⟨compEnvC sc cl c C.env,C.frs,Dh h C.frs,nm⟩
theorem KR (KC:C.env.scope.kind=.function) (sc:Scope) (cl:List (Str × Addr)) (c:Nat):(compEnvC sc cl c C.env).kindOf=ET sc C.env.kindOf:=by
 funext n;unfold Env.kindOf compEnvC relabel ET;simp only[KC];congr 1;apply List.map_congr_left;rintro⟨a,b⟩ _;simp;rfl
theorem LS {n:Str} {l:List (Str × NameKind)} {k:NameKind} (h:l.lookup n=some k):∃y∈l,y.1=n/\y.2=k:=by
 induction l with
 | nil=>exact xNS h
 | cons y r ih =>
  rw[List.lookup_cons] at h;cases z:n==y.1 with
  | true=>rw[z] at h;exact B9 y (.head _) ((by simpa using z:n=y.1).symm) (by simpa using h)
  | false=>rw[z] at h;refine e1a2 (ih h) fun u hu r=>?_;exact Ai u (.tail _ hu) r
theorem Jz (f:Str->NameKind->NameKind) (n:Str) (l:List (Str × NameKind)):(l.map fun y=>(y.1,f y.1 y.2)).lookup n=(l.lookup n).map (f n):=by
 induction l with
 | nil=>rfl
 | cons y r ih =>
  rw[List.map_cons,List.lookup_cons,List.lookup_cons];cases z:n==y.1 with
  | true =>
   have:n=y.1:=by simpa using z
   subst this;rfl
  | false=>exact ih
theorem MQ (sc:Scope) (kd:Str->Option NameKind) (n:Str):ET sc kd n=(sc.names.lookup n).map fun k=>if (k==.free&&kd n==some .cell)=true then .cell else k:=by
 unfold ET;rw[← Jz fun n k=>if (k==.free&&kd n==some .cell)=true then .cell else k];congr 1;apply List.map_congr_left;rintro⟨a,b⟩ _;dsimp only;split <;> rfl
theorem HZ {sc:Scope} {kd:Str->Option NameKind} {n:Str} (h:sc.names.lookup n=some .local):ET sc kd n=some .local:=by rw[MQ,h];rfl
theorem Na {sc:Scope} {kd:Str->Option NameKind} {n:Str} (h:sc.names.lookup n=some .free) (hk:kd n=some .cell):ET sc kd n=some .cell:=by rw[MQ,h];simp[hk]
theorem Fs {it:Expr} {env:Env} (h:CS it=true) (x:Value):foldedSetIterable it env x=pure x:=by
 cases it <;> first | rfl | exact xFT h
structure CompOk (nm:List Str) (kd:Str->Option NameKind) (k:Nat) (caps:List Nat) (tg:Expr) (sc:Scope):Prop where
 kind:sc.kind=.function
 nocell:∀y∈sc.names,y.2≠.cell
 locals:∀y∈sc.names,y.2=.local->sc.names.lookup y.1=some .local
 len:(Bn tg).length=k
 k12:k=1∨k=2
 tgl:∀x∈Bn tg,sc.names.lookup x=some .local
 nodup:(Bn tg).Nodup
 capt:∀i∈caps,∃n,nm[i]?=some n/\kd n=some .cell/\sc.names.lookup n=some .free
 free:∀y∈sc.names,y.2=.free->∃i∈caps,nm[i]?=some y.1
theorem Pp {nm:List Str} {kd:Str->Option NameKind} {k:Nat} {caps:List Nat} {tg:Expr} {sc:Scope} (h:DK nm kd k caps tg sc=true):CompOk nm kd k caps tg sc:=by
 unfold DK at h;simp only[Bool.and_eq_true,beq_iff_eq,List.all_eq_true,decide_eq_true_eq,Bool.or_eq_true,bne_iff_ne,List.any_eq_true] at h;refine An h fun z1_ h9=>?_;clear h;refine An z1_ fun z2_ h8=>?_;clear z1_;refine An z2_ fun z3_ h7=>?_;clear z2_;refine An z3_ fun z4_ h6=>?_;clear z3_;refine An z4_ fun z5_ h5=>?_;clear z4_;refine An z5_ fun z6_ h4=>?_;clear z5_;refine An z6_ fun z7_ h3=>?_;clear z6_;refine An z7_ fun h1 h2=>?_;clear z7_;refine⟨h1,h2,fun y hy hl=>(h3 y hy).elim (fun z=>absurd hl z) id,h4,h5,h6,h7,fun i hi=>?_,fun y hy hf=>(h9 y hy).elim (fun z=>absurd hf z) id⟩;have:=h8 i hi;split at this
 ·rename_i n e;rw[Bool.and_eq_true,beq_iff_eq,beq_iff_eq] at this;exact Ai n e this
 ·exact xFT this
theorem Lm {k:Nat} {caps:List Nat} {tg:Expr} {sc:Scope} {cl:List (Str × Addr)} {ts:List (Option V)} {mm:Str->Option Value} (KC:C.env.scope.kind=.function) (O:CompOk C.names C.env.kindOf k caps tg sc)
  (hcl:∀n ca,C.env.cells.lookup n=some ca->(∃y∈sc.names,y.1=n/\y.2=.free)->cl.lookup n=some ca) (x:St p C P m σ δ h) (hts:ts.length=(Bn tg).length)
  (ht:∀(i:Nat) (n:Str) (v:V),(Bn tg)[i]?=some n->ts[i]?=some (some v)->∃w,Rel h w v/\mm n=some w) :
  LocRel h (compEnvC sc cl c C.env) (Hj C.names caps tg) (ts++caps.map fun i=>(m[i]?).join) mm:=by
 intro i n v hn hv;unfold Hj at hn;rw[KR KC];by_cases hi:i < (Bn tg).length
 ·rw[List.getElem?_append_left hi] at hn;rw[List.getElem?_append_left (by exact lin 3 0 [.e Z0 Z1,.t Z2 Z1] (.t Z2 Z0) [[0,1,1,1]] R0 _ _ _ hts hi)] at hv;refine e1a2 (ht i n v hn hv) fun w r e=>?_;exact Ai w r (.inl ⟨HZ (O.tgl n (List.mem_of_getElem? hn)),e⟩)
 ·rw[List.getElem?_append_right (by exact lin 2 0 [.n (.t Z0 Z1)] (.l Z1 Z0) [] R0 _ _ hi),List.getElem?_map,Option.map_eq_some_iff] at hn;rw[List.getElem?_append_right (by exact lin 3 0 [.e Z0 Z1,.n (.t Z2 Z1)] (.l Z0 Z2) [[1,0,1,1]] R0 _ _ _ hts hi),List.getElem?_map,Option.map_eq_some_iff] at hv;refine e1a2 hn fun j hj e1=>?_;clear hn;refine e1a2 hv fun j' hj' e2=>?_;clear hv;rw[hts,hj] at hj';obtain rfl:=xSS hj';refine B2 (O.capt j (List.mem_of_getElem? hj)) fun n' a1 a2 a3=>?_;rw[a1] at e1;have e1:n'=n:=e1;subst e1;refine e1a2 x.ns fun mo _ hl=>?_;have hm:m[j]?=some (some v):=by
   cases q:m[j]? with
   | none=>rw[q] at e2;exact xNS e2
   | some o=>rw[q] at e2;have e2:o=some v:=e2;rw[e2]
  refine e1a2 (hl j n' v a1 hm) fun w r q=>?_;refine Ai w r (.inr ⟨.inl (Na a3 a2),?_⟩);rcases q with ⟨z,_⟩ | ⟨_,ca,o,b,r2⟩
  ·rw[a2] at z;exact xKx (xSS z) rfl
  ·refine BD ca o (hcl n' ca b ?_) r2;exact LS a3
end
end
section
section
variable {p:Prm} {C:Ctx} {P:Heap} {A:Around} {Γ:Gam} {m:Loc} {σ:Store} {δ:Nat->Nat} {h h':Heap} {s:Shared}
theorem Ik {sc:Scope} {env:Env} (hf:∀y∈sc.names,y.2=.free->∃ca,env.cells.lookup y.1=some ca) :
  ∃cl,closureFor sc env=pure cl/\∀n ca,env.cells.lookup n=some ca->(∃y∈sc.names,y.1=n/\y.2=.free)->cl.lookup n=some ca:=by
 refine e1a2 (ER env sc.names [] hf) fun cl e hl=>?_;refine Ai cl ?_ (fun n ca h1 h2=>hl n ca h1 (.inr h2));have:closureFor sc env=(forIn sc.names [] fun (y:Str × NameKind) (cs:List (Str × Addr))=>(if (y.2==NameKind.free)=true then do
    let c ← cellOf env y.1
    pure (ForInStep.yield ((y.1,c)::cs))
   else pure (ForInStep.yield cs):Sem _)) >>= fun cs=>pure cs:=rfl
 rw[this,e];rfl
set_option backward.match.sparseCases true in
theorem Gn {tg:Expr} {I:Nat} {o:Option Nat} {n k:Nat} {Q:QU} {E:QW} (it:ItAt s.heap I v o n k) (q:Q () s):wpAny (model p.prog p.w) A (letOwnedTupleGo tg (.ref I) w) Q E s:=by
 refine B2 it.isIt fun oi ho z1_ z2_=>?_;refine Aq z1_ fun vs hd=>?_;clear z1_;refine e1a2 z2_ fun c hc hcl=>?_;clear z2_;have key:wpAny (model p.prog p.w) A (load I >>= fun o=>match o.cls,o.data with
  | .type n,.fields vs =>
   if (["enumerate","zip","dict_itemiterator","dict_reverseitemiterator","odict_iterator","itertools.zip_longest","itertools.pairwise"].contains n&&vs[0]?==(match w with | .ref a=>some (rawInt a) | _=>none))=true then do
    rule "for.unpacks-the-owned-tuple"
    updateField I 0 .none
   else pure ()
  | _,_=>pure ()) Q E s:=by
  refine wpAny_bind (wpAny_load ho ?_);rw[hcl,hd];have:(["enumerate","zip","dict_itemiterator","dict_reverseitemiterator","odict_iterator","itertools.zip_longest","itertools.pairwise"].contains c)=false:=by
   revert hc;unfold QK;intro hc;simp only[List.mem_cons,List.not_mem_nil,or_false] at hc;rcases hc with rfl | rfl | rfl | rfl | rfl <;> decide
  dsimp only;rw[this];exact wpAny_pure q
 cases tg <;> first | exact wpAny_pure q | (cases w <;> first | exact wpAny_pure q | exact key)
theorem P4 {y:V} {caps:List Nat} {m m':Loc} (h:Gw 2 y caps m=some m'):∃a b,y=.tup [a,b]/\m'=some a::some b::caps.map fun i=>(m[i]?).join:=by
 cases y <;> try cases h
 rename_i l;cases l with
 | nil=>exact xNS h
 | cons a l =>
  cases l with
  | nil=>exact xNS h
  | cons b l =>
   cases l with
   | nil=>obtain rfl:=xSS h;exact BD a b rfl rfl
   | cons=>exact xNS h
inductive LstAt (h:Heap) (D:Nat) (acc:List V):Prop
 | mk (ws:List Value) (nn:Nat):h.get? D=some { cls:=.type "list",data:=.seq ws.toArray nn }->Rels h ws acc->LstAt h D acc
noncomputable def cx (C:Ctx) (caps:List Nat) (tg:Expr) (sc:Scope) (cl:List (Str × Addr)) (Ca:Nat) (h:Heap):Ctx:=PB C sc cl Ca h (Hj C.names caps tg)
structure Cmp (p:Prm) (C:Ctx) (P:Heap) (A:Around) (h':Heap) (I D Ca:Nat) (caps:List Nat) (tg:Expr) (sc:Scope) (cl:List (Str × Addr)) (k:Nat):Prop where
 KC:CtxOk p C A
 hA:A.handled=none
 O:CompOk C.names C.env.kindOf k caps tg sc
 hcl:∀n ca,C.env.cells.lookup n=some ca->(∃y∈sc.names,y.1=n/\y.2=.free)->cl.lookup n=some ca
 nI:h'.get? I=none
 iP:P.get? I=none
 d2:D∉fa C.frs
 d3:D≠C.env.locals
 d4:P.get? D=none
 d5:p.base.get? D=none
 c2:Ca∉fa C.frs
 c3:Ca≠C.env.locals
 c4:P.get? Ca=none
 hDC:D≠Ca
 hCI:Ca≠I
 hDI:D≠I
structure Turn (p:Prm) (C:Ctx) (P:Heap) (m:Loc) (h':Heap) (v:V) (o:Option Nat) (n I D Ca:Nat) (j:Nat) (ha:Heap) (acc:List V) (σa:Store) (δa:Nat->Nat):Prop where
 ki:KeepI h' ha
 st:St p C P m σa δa ha
 it:ItAt ha I v o n j
 lst:LstAt ha D acc
 ns:∃mm,ha.Ns Ca mm
 le:j<=n
 len:acc.length<=j
 fD:¬Foot σa δa D
 fC:¬Foot σa δa Ca
structure Mid (p:Prm) (C:Ctx) (P:Heap) (m:Loc) (h':Heap) (v:V) (o:Option Nat) (n I D:Nat) (j:Nat) (h2:Heap) (acc:List V) (σa:Store) (δa:Nat->Nat):Prop where
 x:St p C P m σa δa h2
 ki:KeepI h' h2
 it:ItAt h2 I v o n (j+1)
 lst:LstAt h2 D acc
 lt:j < n
 len:acc.length<=j
 fD:¬Foot σa δa D
inductive InvN (p:Prm) (C:Ctx) (P:Heap) (m:Loc) (s:Shared) (h':Heap) (v:V) (o:Option Nat) (ys:List V) (I D Ca:Nat) (Inv:List V->QL) (n:Nat) (s₃:Shared):Prop
 | mk (j:Nat) (ha:Heap) (ta:Tok) (acc:List V) (σa:Store) (δa:Nat->Nat):s₃={ s with heap:=ha,toks:=ta }->n=ys.length - j->Turn p C P m h' v o ys.length I D Ca j ha acc σa δa->Inv (ys.drop j) acc σa->InvN p C P m s h' v o ys I D Ca Inv n s₃
end
section
variable {p:Prm} {C:Ctx} {P:Heap} {A:Around} {Γ:Gam} {m:Loc} {s:Shared} {h':Heap} {v:V} {o:Option Nat} {ys:List V} {I D Ca:Nat} {caps:List Nat} {tg:Expr} {sc:Scope} {cl:List (Str × Addr)} {k:Nat} {Inv:List V->QL}
 {j n:Nat} {ha h2 h3:Heap} {acc:List V} {σa σb:Store} {δa δb:Nat->Nat} {ta:Tok} {y:V} {w:Value} {m':Loc} {E1 E2 E3:QW}
theorem Cmp.ctx (c:Cmp p C P A h' I D Ca caps tg sc cl k) (hh:Heap):CtxOk p (cx C caps tg sc cl Ca hh) A:=⟨c.KC.frames,c.O.kind,c.KC.glob,c.KC.blt,c.KC.frame,c.KC.units,c.KC.depth⟩
theorem Cmp.kd (c:Cmp p C P A h' I D Ca caps tg sc cl k) (hh:Heap):(cx C caps tg sc cl Ca hh).env.kindOf=ET sc C.env.kindOf:=KR c.KC.kind sc cl Ca
theorem Cmp.own (c:Cmp p C P A h' I D Ca caps tg sc cl k) (hh:Heap):Own (cx C caps tg sc cl Ca hh):=fun j env q hj _ hf=>absurd (List.mem_filterMap.mpr (Ai env (List.mem_of_getElem? hj) hf)) c.c2
theorem Cmp.loc (c:Cmp p C P A h' I D Ca caps tg sc cl k) (hh:Heap) {x:Str} (hx:x∈Bn tg):(cx C caps tg sc cl Ca hh).env.kindOf x=some .local:=by rw[c.kd hh];exact HZ (c.O.tgl x hx)
theorem Cmp.uniq (c:Cmp p C P A h' I D Ca caps tg sc cl k) (hh:Heap) {i:Nat} {x:Str} (hi:(Bn tg)[i]?=some x) (j:Nat) (hj:(cx C caps tg sc cl Ca hh).names[j]?=some x):j=i:=by
 have hj:(Bn tg++caps.map fun i=>(C.names[i]?).getD Str.empty)[j]?=some x:=hj;by_cases hlt:j < (Bn tg).length
 ·rw[List.getElem?_append_left hlt] at hj;exact(List.getElem?_inj hlt c.O.nodup).mp (hj.trans hi.symm)
 ·rw[List.getElem?_append_right (Nat.le_of_not_lt hlt),List.getElem?_map,Option.map_eq_some_iff] at hj;refine e1a2 hj fun i' hc e=>?_;clear hj;refine B2 (c.O.capt i' (List.mem_of_getElem? hc)) fun n' a1 a2 a3=>?_;rw[a1] at e;have e:n'=x:=e;subst e;have:=c.O.tgl n' (List.mem_of_getElem? hi);rw[a3] at this;exact xKx (xSS this) rfl
theorem Cmp.fin {E':QW} (c:Cmp p C P A h' I D Ca caps tg sc cl k) (T:Turn p C P m h' v o n I D Ca j ha acc σa δa) (ki:KeepI s.heap h') (fQ:∀a,σa a=none->Q (.ref a) (σa.set a (.lst acc))) (hb:Heap) (tb:Tok) (he:Heap.ExtBut I ha hb) :
  compPost (model p.prog p.w) A E' none (PV p C P m s Q) (.ref D) Ca (.ok .next) { s with heap:=hb,toks:=tb }:=by
 refine e1a2 T.it.isIt fun oi hoi hii=>?_;have xb:=(T.st.itStep hoi hii c.iP fun b o z e=>he b o z e).1;refine UZ T.ns fun mm oc es ep hoc hdc hr=>?_;have hoc':=he Ca oc c.hCI hoc;refine Ai mm (Kn oc es ep hoc' hdc hr) (fun h2 hs2=>?_);have xc:=xb.offStep hoc' (AJ hdc) c.c4 T.fC c.c2 c.c3 hs2;obtain⟨ws,nn,hod,rs⟩:=T.lst;have hod2:h2.get? D=some { cls:=.type "list",data:=.seq ws.toArray nn }:=(hs2.2 D c.hDC).trans (he D _ c.hDI hod);have f:=NP T.st.rep T.fD c.d5;have kI:KeepI h' h2:=fun b o e i=>xc.2 b o (he b o (fun z=>by rw[z,c.nI] at e;exact xNS e) (T.ki b o e i)) i;have rs2:Rels h2 ws acc:=rs.core fun b o e i ni=>xc.2 b o (he b o (fun z=>by rw[z,hoi] at e;obtain rfl:=xSS e;exact ni hii) e) i;have xd:=xc.1.adopt (c:=.lst acc) f.1 c.d4 c.d2 c.d3 f.2 hod2 CQ ⟨rfl,fun _ _=>rfl⟩ (fun z=>z) fun _=>(BD ws nn hod2 rs2);exact⟨h2,tb,.ref D,_,δa,rfl,ki.trans kI,.ref D,xd.1,fQ D f.1⟩
theorem Cmp.item {Φ:Option Value->Shared->Prop} (c:Cmp p C P A h' I D Ca caps tg sc cl k) (T:Turn p C P m h' v o ys.length I D Ca j ha acc σa δa) (hy:ys[j]?=some y) (e2:AW σa v=some (ys,o))
  (hΦ:∀w h2 tk2,Mid p C P m h' v o ys.length I D j h2 acc σa δa->Rel h2 w y->(∃mm,h2.Ns Ca mm)->Φ (some w) { s with heap:=h2,toks:=tk2 }):wpAny (model p.prog p.w) A (pyNext (.ref I)) Φ E1 { s with heap:=ha,toks:=ta }:=by
 refine e1a2 T.it.isIt fun oi hoi hii=>?_;refine IU (s:={ s with heap:=ha,toks:=ta }) T.st T.it c.iP e2 hy fun w h2 tk2 hs2 r2 it2=>?_;have x2:=T.st.itStep hoi hii c.iP fun b o z e=>(hs2.2 b z).trans e;refine RN T.ns fun mm oc es ep hoc hr=>?_;obtain⟨ws,nn,hod,rs⟩:=T.lst;exact hΦ w h2 tk2 ⟨x2.1,fun b o e i=>(hs2.2 b (fun z=>by rw[z,c.nI] at e;exact xNS e)).trans (T.ki b o e i),it2,⟨ws,nn,(hs2.2 D c.hDI).trans hod,rs.core x2.2⟩,(List.getElem?_eq_some_iff.mp hy).1,T.len,T.fD⟩ r2 (R5 mm oc es ep ((hs2.2 Ca c.hCI).trans hoc) hr)
theorem Cmp.into (c:Cmp p C P A h' I D Ca caps tg sc cl k) (x2:St p C P m σa δa h2) (fC:¬Foot σa δa Ca) (ns:∃mm,h2.Ns Ca mm):St p (cx C caps tg sc cl Ca h2) (inner C σa δa h2 Ca) (List.replicate (Bn tg).length none++caps.map fun i=>(m[i]?).join) σa δa h2:=by
 refine Aq ns fun mm ns=>?_;exact(Q5 (C':=cx C caps tg sc cl Ca h2) x2 rfl rfl fC c.c4 ns (Lm (c:=Ca) (ts:=List.replicate (Bn tg).length none) (mm:=mm) c.KC.kind c.O c.hcl x2 (by simp) (fun i n v hn hv=>by
  rw[List.getElem?_replicate] at hv;split at hv <;> (first | exact xNS hv | exact xNS (xSS hv))))).1
theorem Cmp.gone (c:Cmp p C P A h' I D Ca caps tg sc cl k) (M:Mid p C P m h' v o n I D j h2 acc σa δa) (ki3:KeepI h2 h3) (x3:St p (cx C caps tg sc cl Ca h2) (inner C σa δa h2 Ca) m' σb δb h3):Turn p C P m h' v o n I D Ca (j+1) h3 acc σb δb:=by
 obtain⟨ws,nn,hod,rs⟩:=M.lst;have hP:(inner C σa δa h2 Ca).get? D=some { cls:=.type "list",data:=.seq ws.toArray nn }:=OA hod M.fD c.d2 c.hDC;refine e1a2 x3.ns fun mm hns3 _=>?_;exact⟨M.ki.trans ki3,Og (C':=cx C caps tg sc cl Ca h2) M.x rfl rfl c.c3 c.c4 x3 ki3,M.it.keep ki3,⟨ws,nn,x3.stays _ _ hP,rs.inert ki3⟩,⟨mm,hns3⟩,M.lt,Nat.le_succ_of_le M.len,fun f=>(by rw[(x3.off D f).1] at hP;exact xNS hP),fun f=>(x3.off Ca f).2.2 rfl⟩
noncomputable abbrev Nx (p:Prm) (C:Ctx) (P:Heap) (m:Loc) (s:Shared) (h':Heap) (v:V) (o:Option Nat) (ys:List V) (I D Ca:Nat) (Inv:List V->QL) (j:Nat) (s₃:Shared):Prop:=∃n',n' < ys.length - j/\InvN p C P m s h' v o ys I D Ca Inv n' s₃
theorem Cmp.next (c:Cmp p C P A h' I D Ca caps tg sc cl k) (M:Mid p C P m h' v o ys.length I D j h2 acc σa δa) (ki3:KeepI h2 h3) (x3:St p (cx C caps tg sc cl Ca h2) (inner C σa δa h2 Ca) m' σb δb h3) (inv:Inv (ys.drop (j+1)) acc σb) :
  Nx p C P m s h' v o ys I D Ca Inv j { s with heap:=h3,toks:=ta }:=(Ai _ (Nat.sub_lt_sub_left M.lt (Nat.lt_succ_self j)) ⟨j+1,h3,ta,acc,σb,δb,rfl,rfl,c.gone M ki3 x3,inv⟩)
theorem Cmp.push {v4:V} (c:Cmp p C P A h' I D Ca caps tg sc cl k) (T:Turn p C P m h' v o ys.length I D Ca (j+1) ha acc σa δa) (inv:Inv (ys.drop (j+1)) (acc++[v4]) σa) (hlen:acc.length<=j) (hy:ys.length<=LIM) (r4:Rel ha w v4) :
  wpAny (model p.prog p.w) A (call (.builtin "list.append") [.ref D,w]) (fun _ s₅=>Nx p C P m s h' v o ys I D Ca Inv j s₅) E1 { s with heap:=ha,toks:=ta }:=by
 obtain⟨ws,nn,hod,rs⟩:=T.lst;have line:=Br;have hl:=rs.length;have le:=T.le;refine append_at (s:={ s with heap:=ha,toks:=ta }) hod (fun h5 hs5 hod5=>?_) (by rw[List.size_toArray];exact lin 6 0 [.e Z0 Z1,.l (.a Z2 (.c 1)) Z3,.l Z1 Z2,.l Z4 Z5,.l Z3 Z4] (.l Z0 Z5) [[1,0,1,1,1,1,1]] R0 _ _ _ _ _ _ hl le hlen line hy);have x5:=T.st.offStep hod CQ c.d4 T.fD c.d2 c.d3 hs5;refine RN T.ns fun mm oc es ep hoc hr=>?_;exact Ai _ (Nat.sub_lt_sub_left le (Nat.lt_succ_self j)) ⟨j+1,h5,_,_,σa,δa,rfl,rfl,⟨T.ki.trans x5.2,x5.1,T.it.keep x5.2,⟨ws++[w],_,by rw[hod5];simp;rfl,(rs.append (.cons r4 .nil)).inert x5.2⟩,(R5 mm oc es ep ((hs5.2 Ca (Ne.symm c.hDC)).trans hoc) hr),le,by rw[List.length_append];exact Nat.succ_le_succ hlen,T.fD,T.fC⟩,inv⟩
theorem Cmp.elts {elt:X} {e:Expr} (c:Cmp p C P A h' I D Ca caps tg sc cl k) (hy:ys.length<=LIM) (ie:∀h2 P',C4 p (cx C caps tg sc cl Ca h2) P' A Γ elt e) (M:Mid p C P m h' v o ys.length I D j h2 acc σa δa) (ki3:KeepI h2 h3) (x3:St p (cx C caps tg sc cl Ca h2) (inner C σa δa h2 Ca) m' σb δb h3)
  (hw:(wp Γ elt).x m' σb (Qf Inv (ys.drop (j+1)) acc) HE) :
  wpAny (model p.prog p.w) A (eval e (compEnvC sc cl Ca C.env)) (fun x s₄=>wpAny (model p.prog p.w) A (call (.builtin "list.append") [.ref D,x]) (fun _ s₅=>Nx p C P m s h' v o ys I D Ca Inv j s₅) E1 s₄) E2 { s with heap:=h3,toks:=ta }:=
 wpAny_mono (ie h2 (inner C σa δa h2 Ca) m' σb δb { s with heap:=h3,toks:=ta } _ _ x3 hw)
  (fun w4 s' z=>z.casesOn fun h4 tk4 v4 σ4 δ4 e4 ki4 r4 x4 inv4=>e4▸c.push (s:=s) (c.gone M (ki3.trans ki4) x4) inv4 M.len hy r4) fun _ _ z=>z.casesOn fun _ _ _ _ _ _ _ _ _ _ _ _ _ _ _ z=>z.elim
theorem Cmp.tests {elt cond:X} {e:Expr} {ifs:List Expr} (c:Cmp p C P A h' I D Ca caps tg sc cl k) (hy:ys.length<=LIM) (ie:∀h2 P',C4 p (cx C caps tg sc cl Ca h2) P' A Γ elt e)
  (ic:(ifs=[]/\cond=.cBool true)∨∃c,ifs=[c]/\∀h2 P',JM p (cx C caps tg sc cl Ca h2) P' A Γ cond c) (M:Mid p C P m h' v o ys.length I D j h2 acc σa δa) (ki3:KeepI h2 h3) (x3:St p (cx C caps tg sc cl Ca h2) (inner C σa δa h2 Ca) m' σa δa h3)
  (hw:(wp Γ cond).t m' σa (Ha (wp Γ elt) m' Inv (ys.drop (j+1)) acc) HE) :
  wpAny (model p.prog p.w) A (forIn ifs true fun c r=>if r=true then do let ok ← isTrue c (compEnvC sc cl Ca C.env) (eval c (compEnvC sc cl Ca C.env));pure (ForInStep.yield ok) else pure (ForInStep.yield r)) (fun ok s₃ =>
   if ok=true then wpAny (model p.prog p.w) A (eval e (compEnvC sc cl Ca C.env)) (fun x s₄=>wpAny (model p.prog p.w) A (call (.builtin "list.append") [.ref D,x]) (fun _ s₅=>Nx p C P m s h' v o ys I D Ca Inv j s₅) E1 s₄) E2 s₃
   else Nx p C P m s h' v o ys I D Ca Inv j s₃) E3 { s with heap:=h3,toks:=ta }:=by
 rcases ic with ⟨rfl,rfl⟩ | ⟨t,rfl,ic⟩
 ·refine wpAny_tests_nil ?_;have hw:(wp Γ elt).x m' σa (Qf Inv (ys.drop (j+1)) acc) HE:=hw;exact c.elts (s:=s) hy ie M ki3 x3 hw
 ·refine wpAny_tests_one (wpAny_mono (ic h2 (inner C σa δa h2 Ca) m' σa δa { s with heap:=h3,toks:=ta } _ _ _ x3 hw (.inl rfl)) (fun t s' z=>z.casesOn fun h4 tk4 σ4 δ4 e4 ki4 x4 inv4=>?_) fun _ _ z=>z.casesOn fun _ _ _ _ _ _ _ _ _ _ _ _ _ _ _ z=>z.elim);subst e4;cases t with
  | true=>exact c.elts (s:=s) hy ie M (ki3.trans ki4) x4 inv4
  | false=>exact c.next M (ki3.trans ki4) x4 inv4
theorem Cmp.step {elt cond:X} {ep:Option Nat} (T:Inv (ys.drop j) acc σa) (hy:ys[j]?=some y) (It:∀y ys' acc σ',Inv (y::ys') acc σ'->acc.length<=LIM/\AW σ' v=some (ys,ep)/\∃m',Gw k y caps m=some m' /\
   (wp Γ cond).t m' σ' (Ha (wp Γ elt) m' Inv ys' acc) HE) :
  AW σa v=some (ys,ep)/\∃m',Gw k y caps m=some m'/\(wp Γ cond).t m' σa (Ha (wp Γ elt) m' Inv (ys.drop (j+1)) acc) HE:=by
 have hk:=(List.getElem?_eq_some_iff.mp hy).1;have hy':ys[j]=y:=Option.some.inj ((List.getElem?_eq_getElem hk).symm.trans hy);rw[List.drop_eq_getElem_cons hk,hy'] at T;exact(It _ _ _ _ T).2
end
section
variable {p:Prm} {C:Ctx} {P:Heap} {A:Around} {Γ:Gam} {m:Loc} {s:Shared} {h' h1:Heap} {v:V} {o:Option Nat} {ys:List V} {I D Ca:Nat} {caps:List Nat} {tg:Expr} {sc:Scope} {cl:List (Str × Addr)} {k:Nat} {Inv:List V->QL}
 {σ':Store} {δ':Nat->Nat} {t1:Tok} {E:QW} {Q:QV} {elt cond:X} {e it:Expr} {pos px py pt:Pos} {x0 x1:Str} {kk:Nat}
theorem Cmp.loop1 {ifs:List Expr} (c:Cmp p C P A h' I D Ca caps (.Name x0 px) sc cl 1) (ki:KeepI s.heap h') (hy:ys.length<=LIM) (ie:∀h2 P',C4 p (cx C caps (.Name x0 px) sc cl Ca h2) P' A Γ elt e)
  (ic:(ifs=[]/\cond=.cBool true)∨∃c,ifs=[c]/\∀h2 P',JM p (cx C caps (.Name x0 px) sc cl Ca h2) P' A Γ cond c) (T0:Turn p C P m h' v o ys.length I D Ca 0 h1 [] σ' δ') (I0:Inv ys [] σ')
  (It:∀y ys' acc σ',Inv (y::ys') acc σ'->acc.length<=LIM/\AW σ' v=some (ys,o)/\∃m',Gw 1 y caps m=some m' /\
   (wp Γ cond).t m' σ' (Ha (wp Γ elt) m' Inv ys' acc) HE)
  (Ie:∀acc σ',Inv [] acc σ'->AW σ' v=some (ys,o)/\∀a,σ' a=none->Q (.ref a) (σ'.set a (.lst acc))) :
  codeAny (model p.prog p.w) A (.compLoop (.ListComp e [⟨.Name x0 px,it,ifs,0⟩] sc pos) 0 (.ref I) (.ref D) (compEnvC sc cl Ca C.env)) (compPost (model p.prog p.w) A E none (PV p C P m s Q) (.ref D) Ca) { s with heap:=h1,toks:=t1 }:=by
 refine codeAny_compLoop_tests (InvN p C P m s h' v o ys I D Ca Inv) (fun n s₃ hI=>?_) (ys.length - 0) ⟨0,h1,t1,[],σ',δ',rfl,rfl,T0,I0⟩;obtain⟨j,ha,ta,acc,σa,δa,rfl,rfl,T,inv⟩:=hI;by_cases hk:j < ys.length
 ·have hj:=List.getElem?_eq_getElem hk;refine An (Cmp.step inv hj It) fun ee z1_=>?_;refine e1a2 z1_ fun m' hb hw=>?_;clear z1_;refine c.item (s:=s) T hj ee fun w h2 tk2 M r2 ns=>?_;obtain rfl:=xSS hb;exact FN (s:={ s with heap:=h2,toks:=tk2 }) c.O.kind (c.own h2) (c.into M.x T.fC ns) (c.loc h2 (.head _)) (i:=0) rfl (c.uniq h2 (i:=0) rfl) r2 fun h3 tk3 ki3 _ x3=>c.tests hy ie ic M ki3 x3 hw
 ·have hk:j=ys.length:=Nat.le_antisymm T.le (Nat.le_of_not_lt hk);subst hk;rw[List.drop_length] at inv;exact Hy (s:={ s with heap:=ha,toks:=ta }) c.hA T.st T.it (Ie _ _ inv).1 (Nat.le_refl _) fun hb tb he=>c.fin T ki (Ie _ _ inv).2 hb tb he
theorem Cmp.loop2 (c:Cmp p C P A h' I D Ca caps (.Tuple [.Name x0 px,.Name x1 py] kk pt) sc cl 2) (ki:KeepI s.heap h') (hy:ys.length<=LIM) (ie:∀h2 P',C4 p (cx C caps (.Tuple [.Name x0 px,.Name x1 py] kk pt) sc cl Ca h2) P' A Γ elt e) (T0:Turn p C P m h' v o ys.length I D Ca 0 h1 [] σ' δ') (I0:Inv ys [] σ')
  (It:∀y ys' acc σ',Inv (y::ys') acc σ'->acc.length<=LIM/\AW σ' v=some (ys,o)/\∃m',Gw 2 y caps m=some m' /\
   (wp Γ (.cBool true)).t m' σ' (Ha (wp Γ elt) m' Inv ys' acc) HE)
  (Ie:∀acc σ',Inv [] acc σ'->AW σ' v=some (ys,o)/\∀a,σ' a=none->Q (.ref a) (σ'.set a (.lst acc))) :
  codeAny (model p.prog p.w) A (.compLoop (.ListComp e [⟨.Tuple [.Name x0 px,.Name x1 py] kk pt,it,[],0⟩] sc pos) 0 (.ref I) (.ref D) (compEnvC sc cl Ca C.env)) (compPost (model p.prog p.w) A E none (PV p C P m s Q) (.ref D) Ca) { s with heap:=h1,toks:=t1 }:=by
 refine LCp.codeAny_compLoop_pair (InvN p C P m s h' v o ys I D Ca Inv) (fun n s₃ hI=>?_) (ys.length - 0) ⟨0,h1,t1,[],σ',δ',rfl,rfl,T0,I0⟩;obtain⟨j,ha,ta,acc,σa,δa,rfl,rfl,T,inv⟩:=hI;by_cases hk:j < ys.length
 ·have hj:=List.getElem?_eq_getElem hk;refine An (Cmp.step inv hj It) fun ee z1_=>?_;refine e1a2 z1_ fun m' hb hw=>?_;clear z1_;have hw:(wp Γ elt).x m' σa (Qf Inv (ys.drop (j+1)) acc) HE:=hw;refine c.item (s:=s) T hj ee fun w h2 tk2 M r2 ns=>Gn (s:={ s with heap:=h2,toks:=tk2 }) M.it ?_;refine Be (P4 hb) fun a b hyy z2_=>?_;subst z2_;rw[hyy] at r2;have x2:=c.into M.x T.fC ns;refine r2.e_tup fun a ws ht hs=>?_;obtain⟨u1,q1,rfl,ra,hs⟩:=(show ∃u q,ws=u::q/\Rel h2 u _/\Rels h2 q _ from hs.inv);obtain⟨u2,q2,rfl,rb,hs⟩:=(show ∃u q,q1=u::q/\Rel h2 u _/\Rels h2 q _ from hs.inv);obtain rfl:q2=[]:=hs.inv;refine assign_Tuple_tuple (s:={ s with heap:=h2,toks:=tk2 }) c.hA ht rfl rfl fun h4 he=>?_;have k4:∀b o,h2.get? b=some o->h4.get? b=some o:=fun b o e=>he b o (fun z=>by rw[z,Bd] at e;exact xNS e) e;refine assignInOrder_cons (FN (C:=cx C caps (.Tuple [.Name x0 px,.Name x1 py] kk pt) sc cl Ca h2) (n:=x0) (pos:=px) (s:={ s with heap:=h4,toks:=tk2 }) c.O.kind (c.own h2) (x2.keeps k4) (c.loc h2 (.head _)) (i:=0) rfl (c.uniq h2 (i:=0) rfl) (ra.keeps k4) fun h5 tk5 ki5 _ x5=>?_);refine assignInOrder_cons (FN (C:=cx C caps (.Tuple [.Name x0 px,.Name x1 py] kk pt) sc cl Ca h2) (n:=x1) (pos:=py) (s:={ s with heap:=h5,toks:=tk5 }) c.O.kind (c.own h2) x5 (c.loc h2 (show x1∈[x0,x1] from .tail _ (.head _))) (i:=1) rfl (c.uniq h2 (i:=1) rfl) ((rb.keeps k4).inert ki5) fun h6 tk6 ki6 _ x6=>assignInOrder_nil ?_);show wpAny (model p.prog p.w) A (eval e (compEnvC sc cl Ca C.env)) _ _ _;exact c.elts (s:=s) hy ie M (((KeepI.of_keeps k4).trans ki5).trans ki6) x6 hw
 ·have hk:j=ys.length:=Nat.le_antisymm T.le (Nat.le_of_not_lt hk);subst hk;rw[List.drop_length] at inv;exact Hy (s:={ s with heap:=ha,toks:=ta }) c.hA T.st T.it (Ie _ _ inv).1 (Nat.le_refl _) fun hb tb he=>c.fin T ki (Ie _ _ inv).2 hb tb he
end
section
variable {p:Prm} {C:Ctx} {P:Heap} {A:Around} {Γ:Gam} {m:Loc} {σ:Store} {δ:Nat->Nat} {s:Shared}
theorem NL {I:Nat} {o:Option Nat} {n k:Nat} {Q:QW} {E:QW} (it:ItAt s.heap I v o n k) (q:Q (.ref I) s):wpAny (model p.prog p.w) A (pyIter (.ref I)) Q E s:=by
 cases v with
 | str c =>
  refine Be it fun t ty hty si=>?_;clear it;rcases hty with rfl | rfl
  ·exact wpAny_pyIter_striter_ascii si q
  ·exact wpAny_pyIter_striter_wide si q
 | rng=>exact wpAny_pyIter_rangeiter it q
 | ref a =>
  cases o with
  | none=>exact wpAny_pyIter_listiter it q
  | some ep=>exact wpAny_pyIter_keyiter it q
 | _=>exact False.elim it
theorem JW {caps:List Nat} {tg:Expr} {sc:Scope} {k:Nat} (O:CompOk C.names C.env.kindOf k caps tg sc) (xs:St p C P m σ δ s.heap) (hcap:(caps.all fun i=>((m[i]?).join).isSome)=true) :
  ∃cl,closureFor sc C.env=pure cl/\∀n ca,C.env.cells.lookup n=some ca->(∃y∈sc.names,y.1=n/\y.2=.free)->cl.lookup n=some ca:=
 Ik (sc:=sc) (env:=C.env) fun y hy hf=>by
  refine e1a2 (O.free y hy hf) fun i hi hn=>?_;have:=List.all_eq_true.mp hcap i hi;cases q:m[i]? with
  | none=>rw[q] at this;exact xFT this
  | some o =>
   cases o with
   | none=>rw[q] at this;exact xFT this
   | some v =>
    refine e1a2 xs.ns fun mo _ hl=>?_;refine e1a2 (hl i y.1 v hn q) fun w r z=>?_;refine B2 (O.capt i hi) fun n' a1 a2 a3=>?_;rw[hn] at a1;obtain rfl:=xSS a1;rcases z with ⟨z,_⟩ | ⟨_,ca,_,b,_⟩
    ·rw[a2] at z;exact xKx (xSS z) rfl
    ·exact⟨ca,b⟩
theorem LI {caps:List Nat} {tg:Expr} {sc:Scope} {cl:List (Str × Addr)} {k:Nat} {h' h₁:Heap} {ob:Obj} {o:Option Nat} (KC:CtxOk p C A) (hA:A.handled=none) (O:CompOk C.names C.env.kindOf k caps tg sc)
  (hcl:∀n ca,C.env.cells.lookup n=some ca->(∃y∈sc.names,y.1=n/\y.2=.free)->cl.lookup n=some ca) (x':St p C P m σ δ h')
  (hit:ItAt (h'.push ob) h'.objs.size v o n 0) {mm:Str->Option Value} (hns:h₁.Ns ((h'.push ob).push { cls:=.type "list",dict:=none,data:=.seq ([]:List Value).toArray }).objs.size mm) {od:Obj}
  (hsb:Heap.SameBut ((h'.push ob).push { cls:=.type "list",dict:=none,data:=.seq ([]:List Value).toArray }).objs.size (((h'.push ob).push { cls:=.type "list",dict:=none,data:=.seq ([]:List Value).toArray }).push od) h₁) :
  Cmp p C P A h' h'.objs.size (h'.push ob).objs.size ((h'.push ob).push { cls:=.type "list",dict:=none,data:=.seq ([]:List Value).toArray }).objs.size caps tg sc cl k /\
   Turn p C P m h' v o n h'.objs.size (h'.push ob).objs.size ((h'.push ob).push { cls:=.type "list",dict:=none,data:=.seq ([]:List Value).toArray }).objs.size 0 h₁ [] σ δ:=by
 have s1:(h'.push ob).objs.size=h'.objs.size+1:=Heap.size_push ..;have oD:=Heap.get?_push_size (h'.push ob) (o:={ cls:=.type "list",dict:=none,data:=.seq ([]:List Value).toArray }) rfl;have k2:=Aw (h'.push ob) { cls:=.type "list",dict:=none,data:=.seq ([]:List Value).toArray };have s2:((h'.push ob).push { cls:=.type "list",dict:=none,data:=.seq ([]:List Value).toArray }).objs.size=(h'.push ob).objs.size+1:=Heap.size_push ..;generalize (h'.push ob).push { cls:=.type "list",dict:=none,data:=.seq ([]:List Value).toArray }=H2 at *;have k1:=Aw h' ob;generalize h'.push ob=H1 at *;have fr:=fun a (ha:h'.objs.size<=a)=>x'.newFacts (Heap.get?_none_of_le ha);have f1:=fr H1.objs.size (by exact lin 2 0 [.e Z0 (.a Z1 (.c 1))] (.l Z1 Z0) [[0,1,1]] R0 _ _ s1);have f2:=fr H2.objs.size (by exact lin 3 0 [.e Z0 (.a Z1 (.c 1)),.e Z1 (.a Z2 (.c 1))] (.l Z2 Z0) [[0,1,0,1,1]] R0 _ _ _ s2 s1);have kk:∀b o,H1.get? b=some o->h₁.get? b=some o:=fun b o e=>(hsb.2 b (Nat.ne_of_lt (Nat.lt_trans (Heap.lt_size e) (by rw[s2];exact Nat.lt_succ_self _)))).trans (Heap.get?_push_of_some _ (k2 _ _ e));have k0:∀b o,h'.get? b=some o->h₁.get? b=some o:=fun b o e=>kk _ _ (k1 _ _ e);exact⟨⟨KC,hA,O,hcl,Bd _,(x'.newFacts (Bd h')).2.2.2.1,f1.2.1,f1.2.2.1,f1.2.2.2.1,f1.2.2.2.2,f2.2.1,f2.2.2.1,f2.2.2.2.1,by exact lin 2 0 [.e Z0 (.a Z1 (.c 1))] (.n (.e Z1 Z0)) [[0,1,0,1]] R0 _ _ s2,by exact lin 3 0 [.e Z0 (.a Z1 (.c 1)),.e Z1 (.a Z2 (.c 1))] (.n (.e Z0 Z2)) [[0,1,0,1,1,0]] R0 _ _ _ s2 s1,by exact lin 2 0 [.e Z0 (.a Z1 (.c 1))] (.n (.e Z0 Z1)) [[0,1,1,0]] R0 _ _ s1⟩,
  ⟨.of_keeps k0,x'.keeps k0,hit.keep (.of_keeps kk),⟨[],0,(hsb.2 _ (by rw[s2];exact Nat.ne_of_lt (Nat.lt_succ_self _))).trans (Heap.get?_push_of_some _ oD),.nil⟩,⟨_,hns⟩,Nat.zero_le _,Nat.le_refl _,f1.1,f2.1⟩⟩
end
namespace Ok
section
variable {nm:List Str} {kd:Str->Option NameKind}
theorem HL {k:Nat} {elt cond src:X} {caps:List Nat} {e tg it:Expr} {ifs:List Expr} {sc:Scope} {q:Pos} (h1:DK nm kd k caps tg sc=true) (h2:CS it=true) (h3:OkE nm kd src it)
  (run:∀{p:Prm} {C:Ctx} {A:Around} {Γ:Gam} {P:Heap} {m:Loc} {s:Shared} {h' h1:Heap} {v:V} {o:Option Nat} {ys:List V} {I D Ca:Nat} {cl:List (Str × Addr)} {Inv:List V->QL} {σ':Store} {δ':Nat->Nat} {t1:Tok} {E:QW} {Q:QV},Amb p C A Γ->C.names=nm->C.env.kindOf=kd->A.handled=none ->
   Cmp p C P A h' I D Ca caps tg sc cl k->KeepI s.heap h'->ys.length<=LIM->Turn p C P m h' v o ys.length I D Ca 0 h1 [] σ' δ'->Inv ys [] σ' ->
   (∀y ys' acc σ',Inv (y::ys') acc σ'->acc.length<=LIM/\AW σ' v=some (ys,o)/\∃m',Gw k y caps m=some m' /\
    (wp Γ cond).t m' σ' (Ha (wp Γ elt) m' Inv ys' acc) HE) ->
   (∀acc σ',Inv [] acc σ'->AW σ' v=some (ys,o)/\∀a,σ' a=none->Q (.ref a) (σ'.set a (.lst acc))) ->
   codeAny (model p.prog p.w) A (.compLoop (.ListComp e [⟨tg,it,ifs,0⟩] sc q) 0 (.ref I) (.ref D) (compEnvC sc cl Ca C.env)) (compPost (model p.prog p.w) A E none (PV p C P m s Q) (.ref D) Ca) { s with heap:=h1,toks:=t1 }) :
  OkE nm kd (.comp k elt cond src caps) (.ListComp e [⟨tg,it,ifs,0⟩] sc q):=fun p C A Γ M hn hk hH P=>by
 refine .no rfl fun m σ δ s Q E xs h=>?_;have hA:=hH rfl;have O:=Pp (hn▸hk▸h1);rw[eval_ListComp];refine e1a2 (JW O xs h.1) fun cl hclos hcl=>?_;refine wpAny_comprehension_free (use:=none) rfl (fun x=>Fs h2 x) hclos O.kind O.locals ?_;show wpAny _ _ (eval it C.env) _ _ _;refine Cn (E:=E) ((h3 p C A Γ M hn hk (fun _=>hA) P).s m σ δ s _ E xs h.2) fun w h' tk v σ' δ' ki rr x' q=>?_;refine Cc q fun ys o e1 hlen z1_=>?_;clear q;refine B2 z1_ fun Inv I0 It Ie=>?_;clear z1_;refine H8 (s:={ s with heap:=h',toks:=tk }) M.K x' rr e1 fun ob hit=>?_;refine wpAny_newList (wpAny_newFunctionEnv O.nocell (fun y hy=>nomatch hy) (fun h₁ hns hsb=>?_) O.kind);have z:=LI M.C hA O hcl x' hit hns hsb;have loop:=run (s:=s) (t1:=tk+([]:List (Str × Value)).length) (E:=PE p C P m s E) M hn hk hA z.1 ki hlen z.2 I0 It Ie;exact codeAny_compStart_list loop (NL z.2.it loop)
theorem comp0 {elt src:X} {caps:List Nat} {e it:Expr} {x0:Str} {px q:Pos} {sc:Scope} (h1:DK nm kd 1 caps (.Name x0 px) sc=true) (h2:CS it=true) (h3:OkE nm kd src it) (h4:OkE (Hj nm caps (.Name x0 px)) (ET sc kd) elt e) :
  OkE nm kd (.comp 1 elt (.cBool true) src caps) (.ListComp e [⟨.Name x0 px,it,[],0⟩] sc q):=
 HL h1 h2 h3 fun M hn hk hA c ki hy T0 I0 It Ie=>c.loop1 ki hy (fun h2 P'=>(h4 _ _ _ _ ⟨M.K,M.KA,M.N,M.G,c.ctx h2⟩ (hn▸rfl) (hk▸c.kd h2) (fun _=>hA) P').s) (.inl ⟨rfl,rfl⟩) T0 I0 It Ie
theorem comp1 {elt cond src:X} {caps:List Nat} {e it t:Expr} {x0:Str} {px q:Pos} {sc:Scope} (h1:DK nm kd 1 caps (.Name x0 px) sc=true) (h2:CS it=true) (h3:OkE nm kd src it) (h4:OkE (Hj nm caps (.Name x0 px)) (ET sc kd) elt e) (h5:okT t=true) (h6:OkE (Hj nm caps (.Name x0 px)) (ET sc kd) cond t) :
  OkE nm kd (.comp 1 elt cond src caps) (.ListComp e [⟨.Name x0 px,it,[t],0⟩] sc q):=
 HL h1 h2 h3 fun M hn hk hA c ki hy T0 I0 It Ie=>c.loop1 ki hy (fun h2 P'=>(h4 _ _ _ _ ⟨M.K,M.KA,M.N,M.G,c.ctx h2⟩ (hn▸rfl) (hk▸c.kd h2) (fun _=>hA) P').s)
  (.inr (Ai t rfl (fun h2 P'=>(h6 _ _ _ _ ⟨M.K,M.KA,M.N,M.G,c.ctx h2⟩ (hn▸rfl) (hk▸c.kd h2) (fun _=>hA) P').t h5))) T0 I0 It Ie
theorem comp2 {elt src:X} {caps:List Nat} {e it:Expr} {x0 x1:Str} {px py pt q:Pos} {kk:Nat} {sc:Scope} (h1:DK nm kd 2 caps (.Tuple [.Name x0 px,.Name x1 py] kk pt) sc=true) (h2:CS it=true) (h3:OkE nm kd src it) (h4:OkE (Hj nm caps (.Tuple [.Name x0 px,.Name x1 py] kk pt)) (ET sc kd) elt e) :
  OkE nm kd (.comp 2 elt (.cBool true) src caps) (.ListComp e [⟨.Tuple [.Name x0 px,.Name x1 py] kk pt,it,[],0⟩] sc q):=
 HL h1 h2 h3 fun M hn hk hA c ki hy T0 I0 It Ie=>c.loop2 ki hy (fun h2 P'=>(h4 _ _ _ _ ⟨M.K,M.KA,M.N,M.G,c.ctx h2⟩ (hn▸rfl) (hk▸c.kd h2) (fun _=>hA) P').s) T0 I0 It Ie
end
end Ok
end
section
theorem Ok.dead {nm:List Str} {kd:Str->Option NameKind} {e:Expr}:OkE nm kd .dead e:=fun p C A Γ M hn hk hH P=>⟨fun _ _ _ _ _ _ _ h=>h.elim,fun _ _ _ _ _ _ _ _ _ h=>h.elim⟩
structure OkC (nm:List Str) (kd:Str->Option NameKind) (x:X) where
 e:∀e,Ck (OkE nm kd x e)
 l:∀es,Ck (OkL nm kd x es)
 o:Ck (OkO nm kd x none)
noncomputable def OkC.ofE {nm:List Str} {kd:Str->Option NameKind} {x:X} (f:∀e,Ck (OkE nm kd x e)):OkC nm kd x:=⟨f,fun _=>none,none⟩
noncomputable def OkC.part {nm:List Str} {kd:Str->Option NameKind} {x:X} (c:OkC nm kd x):∀o,Ck (OkO nm kd x o)
 | some e=>(c.e e).and fun h=>.yes (Ok.part h)
 | none=>c.o
section
variable {α:Type} {M:α->Type} {R:List α->Type} {U:Option α->Type} {P:Expr->Type}
@[elab_as_elim] noncomputable def Db [DecidableEq α] (a b:α) (d:M a) (f:M b):M a:=if h:a=b then h▸f else d
@[elab_as_elim] noncomputable def onL (l:List α) (f:R []) (g:∀a r,R (a::r)):R l:=match l with
 | []=>f
 | a::r=>g a r
@[elab_as_elim] noncomputable def D1 (l:List α) (d:R l) (f:R []):R l:=if h:l.ctorIdx=0 then List.nil.elim l h f else d
@[elab_as_elim] noncomputable def Jv (l:List α) (d:R l) (g:∀a r,R (a::r)):R l:=if h:l.ctorIdx=1 then List.cons.elim l h g else d
@[elab_as_elim] noncomputable def Ee (l:List α) (d:R l) (f:∀a,R [a]):R l:=match l,d with
 | [a],_=>f a
 | _,d=>d
@[elab_as_elim] noncomputable def Ix (l:List α) (d:R l) (f:∀a b,R [a,b]):R l:=match l,d with
 | [a,b],_=>f a b
 | _,d=>d
@[elab_as_elim] noncomputable def onO (o:Option α) (f:U none) (g:∀a,U (some a)):U o:=match o with
 | none=>f
 | some a=>g a
@[elab_as_elim] noncomputable def RY {P:X->Type} (x:X) (d:P x) (f:P (.cBool true)):P x:=match x,d with
 | .cBool true,_=>f
 | _,d=>d
noncomputable def Ck.or {P:Prop} (a b:Ck P):Ck P:=if a.isSome then a else b
@[elab_as_elim] noncomputable def T7 {P:Comprehension->Type} (g:Comprehension) (f:∀t i l a,P ⟨t,i,l,a⟩):P g:=match g with
 | ⟨a,b,c,d⟩=>f a b c d
@[elab_as_elim] noncomputable def QI (e:Expr) (d:P e) (f:∀o l p,P (.BoolOp o l p)):P e:=if h:e.ctorIdx=0 then Expr.BoolOp.elim e h f else d
@[elab_as_elim] noncomputable def Th (e:Expr) (d:P e) (f:∀l o r p,P (.BinOp l o r p)):P e:=if h:e.ctorIdx=2 then Expr.BinOp.elim e h f else d
@[elab_as_elim] noncomputable def QT (e:Expr) (d:P e) (f:∀o e p,P (.UnaryOp o e p)):P e:=if h:e.ctorIdx=3 then Expr.UnaryOp.elim e h f else d
@[elab_as_elim] noncomputable def TM (e:Expr) (d:P e) (f:∀t a b p,P (.IfExp t a b p)):P e:=if h:e.ctorIdx=5 then Expr.IfExp.elim e h f else d
@[elab_as_elim] noncomputable def Rc (e:Expr) (d:P e) (f:∀k v p,P (.Dict k v p)):P e:=if h:e.ctorIdx=6 then Expr.Dict.elim e h f else d
@[elab_as_elim] noncomputable def TL (e:Expr) (d:P e) (f:∀e g s p,P (.ListComp e g s p)):P e:=if h:e.ctorIdx=8 then Expr.ListComp.elim e h f else d
@[elab_as_elim] noncomputable def II (e:Expr) (d:P e) (f:∀l o r p,P (.Compare l o r p)):P e:=if h:e.ctorIdx=15 then Expr.Compare.elim e h f else d
@[elab_as_elim] noncomputable def Gc (e:Expr) (d:P e) (f:∀f a k p,P (.Call f a k p)):P e:=if h:e.ctorIdx=16 then Expr.Call.elim e h f else d
@[elab_as_elim] noncomputable def Ge (e:Expr) (d:P e) (f:∀c k p,P (.Constant c k p)):P e:=if h:e.ctorIdx=19 then Expr.Constant.elim e h f else d
@[elab_as_elim] noncomputable def Hl (e:Expr) (d:P e) (f:∀e a p,P (.Attribute e a p)):P e:=if h:e.ctorIdx=20 then Expr.Attribute.elim e h f else d
@[elab_as_elim] noncomputable def MK (e:Expr) (d:P e) (f:∀e i p,P (.Subscript e i p)):P e:=if h:e.ctorIdx=21 then Expr.Subscript.elim e h f else d
@[elab_as_elim] noncomputable def BH (e:Expr) (d:P e) (f:∀n p,P (.Name n p)):P e:=if h:e.ctorIdx=23 then Expr.Name.elim e h f else d
@[elab_as_elim] noncomputable def Tq (e:Expr) (d:P e) (f:∀l p,P (.List l p)):P e:=if h:e.ctorIdx=24 then Expr.List.elim e h f else d
@[elab_as_elim] noncomputable def IH (e:Expr) (d:P e) (f:∀l k p,P (.Tuple l k p)):P e:=if h:e.ctorIdx=25 then Expr.Tuple.elim e h f else d
@[elab_as_elim] noncomputable def S0 (e:Expr) (d:P e) (f:∀l u s p,P (.Slice l u s p)):P e:=if h:e.ctorIdx=26 then Expr.Slice.elim e h f else d
end
noncomputable def okc (x:X):∀(nm:List Str) (kd:Str->Option NameKind),OkC nm kd x:=
 X.rec (motive:=fun x=>∀nm kd,OkC nm kd x)
 (fun i nm kd=>.ofE fun e=>BH e none fun n _=>(ck ((nm[i]?==some n)&&okN n)).and fun h=>.yes (Ok.var h))
 (fun nm kd=>.ofE fun e=>Ge e none fun c _ _=>Db c .none none (.yes Ok.cNone))
 (fun b nm kd=>.ofE fun e=>Ge e none fun c _ _=>Db c (.bool b) none (.yes Ok.cBool))
 (fun i nm kd=>.ofE fun e=>Ge e none fun c _ _=>Db c (.int i) none (.yes Ok.cInt))
 (fun t nm kd=>.ofE fun e=>Ge e none fun c _ _=>Db c (.str (S t)) none (.yes (Ok.cStr rfl)))
 (fun nm kd=>⟨fun _=>none,fun l=>D1 l none (.yes Ok.knil),none⟩)
 (fun a b ha hb nm kd=>⟨fun _=>none,fun l=>Jv l none fun e r=>(ck (Bm e)).and fun h=>((ha nm kd).e e).and fun h1=>((hb nm kd).l r).and fun h2=>.yes (Ok.kcons h h1 h2),none⟩)
 (fun xs ha nm kd=>.ofE fun e=>IH e none fun l _ _=>((ha nm kd).l l).and fun h=>.yes (Ok.tup h))
 (fun xs ha nm kd=>.ofE fun e=>Tq e none fun l _=>((ha nm kd).l l).and fun h=>.yes (Ok.lst h))
 (fun nm kd=>.ofE fun e=>Rc e none fun k v _=>D1 k none (D1 v none (.yes Ok.dct0)))
 (fun k1 a k2 b ha hb nm kd=>.ofE fun e=>Rc e none fun k v _=>Ix k none fun x1 x2=>Ix v none fun e1 e2=>onO x1 none fun x1=>Ge x1 none fun x1 _ _=>Db x1 (.str (S k1)) none <| onO x2 none fun x2=>Ge x2 none fun x2 _ _=>Db x2 (.str (S k2)) none <| ((ha nm kd).e e1).and fun h1=>((hb nm kd).e e2).and fun h2=>.yes (Ok.dct2 rfl rfl h1 h2))
 (fun op a b ha hb nm kd=>.ofE fun e=>Th e none fun l o r _=>(ckD (o=Iw op)).and fun h=>((ha nm kd).e l).and fun h1=>((hb nm kd).e r).and fun h2=>.yes (Ok.bin h h1 h2))
 (fun a ha nm kd=>.ofE fun e=>QT e none fun o e _=>Db o .USub none <| ((ha nm kd).e e).and fun h=>.yes (Ok.neg h))
 (fun op a b ha hb nm kd=>.ofE fun e=>II e none fun l o r _=>Ee o none fun o=>Ee r none fun r=>(ckD (o=Pw op)).and fun h=>(ckD (behindInMarks o r=false)).and fun h'=>((ha nm kd).e l).and fun h1=>((hb nm kd).e r).and fun h2=>.yes (Ok.cmp h h' h1 h2))
 (fun a ha nm kd=>.ofE fun e=>II e none fun l o r _=>Ee o none fun o=>Db o .Is none <| Ee r none fun r=>Ge r none fun c _ _=>Db c .none none <| ((ha nm kd).e l).and fun h=>.yes (Ok.isN h))
 (fun a ha nm kd=>.ofE fun e=>II e none fun l o r _=>Ee o none fun o=>Db o .IsNot none <| Ee r none fun r=>Ge r none fun c _ _=>Db c .none none <| ((ha nm kd).e l).and fun h=>.yes (Ok.isNN h))
 (fun a b ha hb nm kd=>.ofE fun e=>II e none fun l o r _=>Ee o none fun o=>Db o .In none <| Ee r none fun r=>(ckD (behindInMarks .In r=false)).and fun h'=>((ha nm kd).e l).and fun h1=>((hb nm kd).e r).and fun h2=>.yes (Ok.inn h' h1 h2))
 (fun a b ha hb nm kd=>.ofE fun e=>II e none fun l o r _=>Ee o none fun o=>Db o .NotIn none <| Ee r none fun r=>(ckD (behindInMarks .NotIn r=false)).and fun h'=>((ha nm kd).e l).and fun h1=>((hb nm kd).e r).and fun h2=>.yes (Ok.nin h' h1 h2))
 (fun a b c ha hb hc nm kd=>.ofE fun e=>II e none fun l o r _=>Ix o none fun o1 o2=>Db o1 .LtE none <| Db o2 .LtE none <| Ix r none fun r1 r2=>(ckD (lastMarks [.LtE,.LtE] [r1,r2]=false)).and fun h'=>((ha nm kd).e l).and fun h1=>((hb nm kd).e r1).and fun h2=>((hc nm kd).e r2).and fun h3=>.yes (Ok.chain h' h1 h2 h3))
 (fun a b ha hb nm kd=>.ofE fun e=>QI e none fun o l p=>Db o .And none <| Jv l none fun e1 l=>(ck (okT e1)).and fun t1=>((ha nm kd).e e1).and fun h1=>Jv l none fun e2 l=>onL l ((ck (okT e2)).and fun t2=>((hb nm kd).e e2).and fun h2=>.yes (Ok.and2 t1 t2 h1 h2)) fun e3 r=>((hb nm kd).e (.BoolOp .And (e2::e3::r) p)).and fun h2=>.yes (Ok.and3 t1 h1 h2))
 (fun a b ha hb nm kd=>.ofE fun e=>QI e none fun o l p=>Db o .Or none <| Jv l none fun e1 l=>(ck (okT e1)).and fun t1=>((ha nm kd).e e1).and fun h1=>Jv l none fun e2 l=>onL l ((ck (okT e2)).and fun t2=>((hb nm kd).e e2).and fun h2=>.yes (Ok.or2 t1 t2 h1 h2)) fun e3 r=>((hb nm kd).e (.BoolOp .Or (e2::e3::r) p)).and fun h2=>.yes (Ok.or3 t1 h1 h2))
 (fun a ha nm kd=>.ofE fun e=>QT e none fun o e _=>Db o .Not none <| (ck (okT e)).and fun t=>((ha nm kd).e e).and fun h=>.yes (Ok.not t h))
 (fun c a b hc ha hb nm kd=>.ofE fun e=>TM e none fun t e1 e2 _=>(ck (okT t)).and fun h=>((hc nm kd).e t).and fun h0=>((ha nm kd).e e1).and fun h1=>((hb nm kd).e e2).and fun h2=>.yes (Ok.kite h h0 h1 h2))
 (fun f xs ha nm kd=>.ofE fun e=>Gc e none fun g l k _=>D1 k none <| BH g none fun g _=>(ckD (Dc f=some g)).and fun h1=>(ck (okG kd g)).and fun h2=>((ha nm kd).l l).and fun h=>.yes (Ok.call h1 h2 h))
 (fun c f xs ha nm kd=>.ofE fun e=>Gc e none fun g l k _=>D1 k none <| BH g none fun g _=>(ckD (g=Ka c)).and fun h1=>(ckD (f=Dr c)).and fun h2=>(ck (okG kd g)).and fun h3=>(ckD (l.length<=1000)).and fun h4=>((ha nm kd).l l).and fun h=>.yes (Ok.new h1 h2 h3 h4 h))
 (fun f n o xs ho ha nm kd=>.ofE fun e=>Gc e none fun g l k q=>D1 k none <| Hl g none fun oe g ap=>(ck (Du ap q l)).and fun h0=>(ckD (Dz f=some g)).and fun h1=>(ckD (g=S n)).and fun h2=>(ckD (n∉attrNames)).and fun h3=>(Mc oe).and fun h4=>((ho nm kd).e oe).and fun h5=>((ha nm kd).l l).and fun h6=>(ck (C7 f).isSome).and fun h7=>.yes (Ok.meth h0 h1 h2 h3 h4 h5 h7 h6))
 (fun f xs ha nm kd=>.ofE fun e=>Gc e none fun g l k q=>D1 k none <| Hl g none fun g a ap=>BH g none fun g _=>(ck (Du ap q l)).and fun h0=>(ckD (f=.host_init)).and fun h1=>(ckD (g=("Host" : Str))).and fun h2=>(ckD (a=("__init__" : Str))).and fun h3=>(ck (okG kd g)).and fun h4=>((ha nm kd).l l).and fun h=>.yes (Ok.clsm h0 h1 h2 h3 h4 h))
 (fun xs ha nm kd=>.ofE fun e=>Gc e none fun g l k q=>D1 k none <| Hl g none fun g a ap=>BH g none fun g _=>(ck (Du ap q l)).and fun h0=>(ckD (g=("Exception" : Str))).and fun h2=>(ckD (a=("__init__" : Str))).and fun h3=>(ck (okG kd g)).and fun h4=>((ha nm kd).l l).and fun h=>.yes (Ok.excInit h0 h2 h3 h4 h))
 (fun o n ho nm kd=>.ofE fun e=>Hl e none fun oe g _=>(ckD (g=S n)).and fun h1=>(ckD (n∈attrNames)).and fun h2=>(Mc oe).and fun h3=>((ho nm kd).e oe).and fun h=>.yes (Ok.attr h1 h2 h3 h))
 (fun a b ha hb nm kd=>.ofE fun e=>MK e none fun e i _=>(ck (Eg i)).and fun h=>((ha nm kd).e e).and fun h1=>((hb nm kd).e i).and fun h2=>.yes (Ok.idx h h1 h2))
 (fun a lo hi ha hl hu nm kd=>.ofE fun e=>MK e none fun e i _=>S0 i none fun l u s _=>onO s (((ha nm kd).e e).and fun h=>((hl nm kd).part l).and fun h1=>((hu nm kd).part u).and fun h2=>.yes (Ok.slc h h1 h2)) fun _=>none)
 (fun nm kd=>⟨fun _=>none,fun _=>none,.yes Ok.noPart⟩)
 (fun f xs ha nm kd=>.ofE fun e=>Gc e none fun g l k _=>D1 k none <| BH g none fun g _=>Jv l none fun e r=>(ckD (g=Mf f)).and fun h1=>(ck (okG kd g)).and fun h2=>(ckD (f≠.isTup)).and fun h3=>((ha nm kd).l (e::r)).and fun h=>.yes (Ok.bf h1 h2 h3 h))
 (fun a ha nm kd=>.ofE fun e=>Gc e none fun g l k _=>D1 k none <| BH g none fun g _=>Ix l none fun e t=>BH t none fun t _=>(ckD (g=("isinstance" : Str))).and fun h1=>(ck (okG kd g)).and fun h2=>(ckD (t=("tuple" : Str))).and fun h3=>(ck (okG kd t)).and fun h4=>(ck (Bm e)).and fun h5=>((ha nm kd).e e).and fun h=>.yes (Ok.isT h1 h2 h3 h4 h5 h))
 (fun f o xs ho ha nm kd=>.ofE fun e=>Gc e none fun g l k q=>D1 k none <| Hl g none fun oe g ap=>(ck (Du ap q l)).and fun h0=>(ckD (g=FY f)).and fun h1=>(Mc oe).and fun h2=>((ho nm kd).e oe).and fun h3=>((ha nm kd).l l).and fun h=>.yes (Ok.bm h0 h1 h2 h3 h))
 (fun k elt cond src caps he hc hs nm kd=>.ofE fun e=>TL e none fun e gs sc q=>Ee gs none fun g=>T7 g fun tg it is a=>Db a 0 none <| (ck (CS it)).and fun h2=>((hs nm kd).e it).and fun h3=>onL is
  (RY cond none <| .or
   (Db k 1 none <| BH tg none fun x0 px=>(ck (DK nm kd 1 caps (.Name x0 px) sc)).and fun h1=>((he (Hj nm caps (.Name x0 px)) (ET sc kd)).e e).and fun h4=>.yes (Ok.comp0 h1 h2 h3 h4))
   (Db k 2 none <| IH tg none fun l kk pt=>Ix l none fun a b=>BH a none fun x0 px=>BH b none fun x1 py=>(ck (DK nm kd 2 caps (.Tuple [.Name x0 px,.Name x1 py] kk pt) sc)).and fun h1=>((he (Hj nm caps (.Tuple [.Name x0 px,.Name x1 py] kk pt)) (ET sc kd)).e e).and fun h4=>.yes (Ok.comp2 h1 h2 h3 h4)))
  fun c is=>D1 is none <| Db k 1 none <| BH tg none fun x0 px=>(ck (DK nm kd 1 caps (.Name x0 px) sc)).and fun h1=>((he (Hj nm caps (.Name x0 px)) (ET sc kd)).e e).and fun h4=>(ck (okT c)).and fun h5=>((hc (Hj nm caps (.Name x0 px)) (ET sc kd)).e c).and fun h6=>.yes (Ok.comp1 h1 h2 h3 h4 h5 h6))
 (fun nm kd=>.ofE fun _=>.yes Ok.dead) x
end
section
section
variable {p:Prm} {C:Ctx} {P:Heap} {A:Around} {m:Loc} {σ:Store} {δ:Nat->Nat} {h h':Heap} {s:Shared} {E:QW} {e:Nat}
theorem Ls {tb:Nat} {oT:Obj} {ts:Array Value} (x:St p C P m σ δ h) (hT:h.get? tb=some oT) (hc:oT.cls=.type "traceback") (hd:oT.data=.fields ts):¬BS oT/\¬Foot σ δ tb/\tb∉fa C.frs/\tb≠C.env.locals:=by
 refine⟨(by
  intro z1_;refine An z1_ fun z2_ _=>?_;clear z1_;obtain⟨n,e,_,_,h3⟩ | ⟨v,e⟩:=z2_
  ·rw[hc] at e;cases e;exact h3 rfl
  ·rw[hd] at e;exact xDx e rfl),fun f=>?_,fun hm=>?_,fun z=>?_⟩
 ·rcases f with ⟨c,e,mu⟩ | ⟨a,c,e,d,q⟩
  ·have:=x.rep.at_ tb c e;cases c with
   | lst vs=>refine Be this fun ws n e r=>?_;clear this;rw[hT] at e;obtain rfl:=xSS e;exact xDx hd rfl
   | fin vs=>exact mu.elim
   | dct ep kvs=>refine e1a2 this fun ws z3_ q=>?_;clear this;refine Kc z3_ fun o es e _ hd' _=>?_;clear z3_;rw[hT] at e;obtain rfl:=xSS e;rw[hd] at hd';exact xDx hd' rfl
   | obj c n at_=>refine e1a2 this fun sl e r=>?_;clear this;rw[hT] at e;obtain rfl:=xSS e;exact xVx hc rfl
   | exc st n at_=>refine Cc this fun vs sl e r q=>?_;clear this;rw[hT] at e;obtain rfl:=xSS e;exact xVx hc rfl
   | nex=>refine Be this fun vs sl e r=>?_;clear this;rw[hT] at e;obtain rfl:=xSS e;exact xVx hc rfl
  ·subst q;have:=x.rep.at_ a c e;cases c with
   | obj c n at_=>refine e1a2 this fun sl e z4_=>?_;clear this;obtain⟨od,es,ep,r,_,hd',_⟩:=z4_;rw[hT] at r;obtain rfl:=xSS r;rw[hd] at hd';exact xDx hd' rfl
   | exc st n at_=>refine Cc this fun vs sl e _ z5_=>?_;clear this;obtain⟨od,es,ep,r,_,hd',_⟩:=z5_;rw[hT] at r;obtain rfl:=xSS r;rw[hd] at hd';exact xDx hd' rfl
   | _=>exact d.elim
 ·refine An (x.frs.mem hm) fun _ z6_=>?_;refine e3a2 z6_ fun o es ep ho hd'=>?_;clear z6_;rw[hT] at ho;obtain rfl:=xSS ho;rw[hd] at hd';exact xDx hd' rfl
 ·refine e1a2 x.ns fun mm hn _=>?_;refine e3a2 (Ns.dict hn) fun o es ep ho hd'=>?_;rw[← z,hT] at ho;obtain rfl:=xSS ho;rw[hd] at hd';exact xDx hd' rfl
theorem CC {fl:Value} {st n:Nat} {L:Option Addr} {Q:QU} (x:St p C P m σ δ s.heap) (ex:σ e=some (.exc st n at_)) (u:UpT P e fl s.heap)
  (q:∀h',KeepI s.heap h'->St p C P m σ δ h'->UpT P e (L.elim .none fun f=>rawInt f) h'->Q () { s with heap:=h' }):wpAny (model p.prog p.w) A (setFlight (.ref e) L) Q E s:=by
 obtain⟨o,vs,T,oT,ts,he,hd,h1,hP,hT,hcT,hdT,h3⟩:=u;refine Sv (Ls x hT hcT hdT) fun f1 f2 f3 f4=>?_;have hTe:e≠T:=fun z=>f2 (z▸.inl (Ai _ ex trivial));unfold setFlight;refine wpAny_bind (wpAny_field he hd h1 ?_);rw[if_pos (show (Value.ref T != Value.none)=true from by simp)];have hsz:3 < ts.size:=(Array.getElem?_eq_some_iff.mp h3).1;refine wpAny_setField hT hdT hsz ?_;have hs:=Heap.SameBut.update s.heap T (Obj.mapFields (·.setIfInBounds 3 (L.elim Value.none fun f=>rawInt f)));refine An (x.offStep hT f1 hP f2 f3 f4 hs) fun x' ki=>?_;exact q _ ki x' ⟨o,vs,T,_,_,(hs.2 e hTe).trans he,hd,h1,hP,Heap.get?_update_self _ hT (Obj.isFreed_of_fields (Obj.data_mapFields hdT _)),by rw[Obj.cls_mapFields];exact hcT,Obj.data_mapFields hdT _,by simp[hsz]⟩
theorem St.slots (x:St p C P m σ δ h) (hs:Heap.SlotsOnly (fa C.frs) h h'):St p C P m σ δ h'/\KeepI h h':=by
 refine NK hs fun _ h1 h2=>?_;clear hs;have ki:KeepI h h':=fun b o e i=>(h1 b fun hm=>by
  refine An (x.frs.mem hm) fun _ z1_=>?_;refine e3a2 z1_ fun o' es ep e' d=>?_;clear z1_;rw[e] at e';obtain rfl:=xSS e';exact AJ d i).trans e
 refine e1a2 x.ns fun mm hn hl=>?_;exact⟨⟨x.base,fun b o e=>(h1 b fun hm=>by rw[(x.frs.mem hm).1] at e;exact xNS e).trans (x.stays b o e),x.frs.step (fun b _ o ho=>h2 b o ho) fun b hb=>(x.frs.mem hb).1,(Ai mm (Heap.Ns.slots hn fun o ho=>h2 _ o ho) (hl.step ki)),x.lP,
  x.rep.kept (fun b o f e=>(h1 b (x.off b f).2.1).trans e) ki,x.off⟩,ki⟩
theorem Le {st n:Nat} {outer:List Env} {L:Addr} {vs:Array Value} {head:Value} {hadNext:Bool} {Q:QU} (hst:1<=st) (hfr:A.frames=some C.frs) (hC:C.frs=C.env::outer) (hf:C.env.frame=some L) (x:St p C P m σ δ s.heap) (ex:σ e=some (.exc st n at_))
  (he:s.heap.get? e=some o) (hd:o.data=.fields vs) (hsz:1 < vs.size)
  (q:∀h',KeepI s.heap h'->St p C P m σ δ h'->UpT P e (rawInt L) h'->Q () { s with heap:=h' }) :
  wpAny (model p.prog p.w) A (do let a ← frameOf C.env;let pl ← entryPlaceOf L hadNext;let b ← EntryCells.newEntry head a .none (rawInt L) .none pl;setField (.ref e) 1 b) Q E s:=by
 refine wpAny_bind (wpAny_frameOf_fun (hC▸hfr) (hC▸x.frs.fun) hf fun h₁ hs₁=>?_);refine An (x.slots (h':=h₁) (by rw[hC];exact hs₁)) fun x1 k1=>?_;refine wpAny_bind (wpAny_entryPlaceOf fun pl hpl=>?_);unfold EntryCells.newEntry newFields;refine wpAny_bind (wpAny_newObj_type ?_ (hpl.sizeOk5 _ _ _ _ _));have nfr:e∉fa C.frs:=(x.off e (.inl (Ai _ ex trivial))).2.1;have he₁:h₁.get? e=some o:=(hs₁.2.1 e (by rw[hC] at nfr;exact nfr)).trans he;have he₂:=Heap.get?_push_of_some (h:=h₁) { cls:=.type "traceback",dict:=none,data:=.fields ([head,.ref L,.none,rawInt L,.none]++(if pl.isEmpty then List.replicate 6 Value.none else pl)).toArray } he₁;refine wpAny_setField he₂ hd hsz ?_;have hTe:h₁.objs.size≠e:=Nat.ne_of_gt (Heap.lt_size he₁);have kk:=Aw h₁ { cls:=.type "traceback",dict:=none,data:=.fields ([head,.ref L,.none,rawInt L,.none]++(if pl.isEmpty then List.replicate 6 Value.none else pl)).toArray };have x2:=x1.keeps kk;have nP:=(x1.newFacts (Bd h₁)).2.2.2.1;have hd₃:=Obj.data_mapFields hd (·.setIfInBounds 1 (Value.ref h₁.objs.size));have he₃:=Heap.get?_update_self (Obj.mapFields (·.setIfInBounds 1 (Value.ref h₁.objs.size))) he₂ (Obj.isFreed_of_fields hd₃);have hs3:=Heap.SameBut.update (h₁.push { cls:=.type "traceback",dict:=none,data:=.fields ([head,.ref L,.none,rawInt L,.none]++(if pl.isEmpty then List.replicate 6 Value.none else pl)).toArray }) e (Obj.mapFields (·.setIfInBounds 1 (Value.ref h₁.objs.size)));refine Cc (x2.rep.at_ e _ ex) fun ws sl ho hex hat=>?_;rw[he₂] at ho;obtain rfl:=xSS ho;cases hd
 obtain⟨x3,k3⟩:=x2.setAt ex trivial (c':=.exc st n at_) ⟨fun z=>z,fun z=>z⟩ hs3 fun ki=>by
  have hne:δ e≠e:=fun z=>by have:=x2.rep.sep e _ ex trivial;rw[z,ex] at this;exact xSN this
  refine AZ _ sl he₃ ?_ (hat.step (fun o ho=>(hs3.2 _ hne).trans ho) ki)
  match st,hst,hex with
  | 1,_,hex=>refine NS hex fun t tb z1_=>?_;clear hex;subst z1_;exact Me t (.ref h₁.objs.size) rfl
  | st+2,_,hex=>refine Un hex fun t tb cx z2_=>?_;clear hex;subst z2_;exact Jq t (.ref h₁.objs.size) cx rfl
 rw[DU ex] at x3;exact q _ ((k1.trans (.of_keeps kk)).trans k3) x3 ⟨_,_,h₁.objs.size,_,_,he₃,hd₃,by simp[hsz],nP,(hs3.2 _ hTe).trans (Heap.get?_push_size h₁ rfl),rfl,rfl,by first | (simp;done) | (rcases hpl with rfl | ⟨_,_,_,_,_,_,_,rfl⟩ <;> simp)⟩
theorem GC {st n:Nat} {outer:List Env} {L:Addr} {Q:QU} (hst:1<=st) (hfr:A.frames=some C.frs) (hC:C.frs=C.env::outer) (hf:C.env.frame=some L) (x:St p C P m σ δ s.heap) (ex:σ e=some (.exc st n at_)) (u:Up P (some L) e s.heap)
  (q:∀h',KeepI s.heap h'->St p C P m σ δ h'->UpT P e (rawInt L) h'->Q () { s with heap:=h' }):wpAny (model p.prog p.w) A (noteFrame (.ref e) C.env) Q E s:=by
 unfold noteFrame;simp only[hf];rcases u with ⟨o,vs,he,hd,h1⟩ | u | ⟨l,hl,u⟩
 ·refine wpAny_bind (wpAny_field he hd h1 ?_);rw[if_neg (by decide)];exact Le hst hfr hC hf x ex he hd (Array.getElem?_eq_some_iff.mp h1).1 q
 ·obtain⟨o,vs,T,oT,ts,he,hd,h1,hP,hT,hcT,hdT,h3⟩:=u;refine Sv (Ls x hT hcT hdT) fun f1 f2 f3 f4=>?_;have hTe:e≠T:=fun z=>f2 (z▸.inl (Ai _ ex trivial));refine wpAny_bind (wpAny_field he hd h1 ?_);rw[if_pos (show (Value.ref T != Value.none)=true from by simp)];refine wpAny_bind (wpAny_field hT hdT h3 ?_);rw[if_neg (show ¬((Value.none==rawInt L)=true) from by simp[rawInt])];refine wpAny_bind (wpAny_setField hT hdT (Array.getElem?_eq_some_iff.mp h3).1 ?_);have hs:=Heap.SameBut.update s.heap T (Obj.mapFields (·.setIfInBounds 3 Value.none));refine An (x.offStep hT f1 hP f2 f3 f4 hs) fun x' ki=>?_;exact Le (s:={ s with heap:=s.heap.update T (Obj.mapFields (·.setIfInBounds 3 Value.none)) }) hst hfr hC hf x' ex ((hs.2 e hTe).trans he) hd (Array.getElem?_eq_some_iff.mp h1).1 fun h' k' x'' u'=>q h' (ki.trans k') x'' u'
 ·obtain rfl:=xSS hl;have u0:=u;obtain⟨o,vs,T,oT,ts,he,hd,h1,hP,hT,hcT,hdT,h3⟩:=u;refine wpAny_bind (wpAny_field he hd h1 ?_);rw[if_pos (show (Value.ref T != Value.none)=true from by simp)];refine wpAny_bind (wpAny_field hT hdT h3 ?_);rw[if_pos (by simp)];exact wpAny_pure (q s.heap (.refl _) x u0)
end
end
section
noncomputable def CH:Expr->Bool
 | .ListComp ..=>false
 | .SetComp ..=>false
 | .DictComp ..=>false
 | _=>true
noncomputable def Ll:Expr->Bool
 | .Tuple ..=>false
 | _=>true
noncomputable def B5 (nm:List Str) (kd:Str->Option NameKind) (i:Nat) (n:Str):Bool:=(nm[i]?==some n)&&(kd n==some .local)
inductive FlRel (h:Heap):Flow->Fl->Prop
 | next:FlRel h .next .next
 | brk:FlRel h .brk .brk
 | cont:FlRel h .cont .cont
 | ret {w:Value} {v:V}:Rel h w v->FlRel h (.ret w) (.ret v)
theorem FlRel.inert {h h':Heap} {f:Flow} {g:Fl} (x:FlRel h f g) (k:KeepI h h'):FlRel h' f g:=by
 cases x with
 | next=>exact .next
 | brk=>exact .brk
 | cont=>exact .cont
 | ret r=>exact .ret (r.inert k)
structure CtxS (p:Prm) (C:Ctx) (A:Around):Prop extends CtxOk p C A where
 own:Own C
 nodup:C.names.Nodup
 top:∃outer,C.frs=C.env::outer
section
variable (p:Prm) (C:Ctx) (P:Heap) (s:Shared)
inductive PS (Q:QF) (f:Flow) (s':Shared):Prop
 | mk (h':Heap) (tk:Tok) (fl:Fl) (m':Loc) (σ':Store) (δ':Nat->Nat):s'={ s with heap:=h',toks:=tk }->KeepI s.heap h'->FlRel h' f fl->St p C P m' σ' δ' h'->Q fl m' σ'->PS Q f s'
inductive PX (E:EF) (x:Value) (s':Shared):Prop
 | mk (h':Heap) (tk:Tok) (e st n:Nat) (at_:List (T × V)) (m':Loc) (σ':Store) (δ':Nat->Nat):x=.ref e->s'={ s with heap:=h',toks:=tk }->KeepI s.heap h'->St p C P m' σ' δ' h'->σ' e=some (.exc st n at_)->1<=st->Up P C.env.frame e h'->E e m' σ'->PX E x s'
end
noncomputable def Uk (hd:Option Nat) (A:Around):Prop:=match (generalizing:=false) hd with
 | none=>A.handled=none
 | some h=>A.handled=some (.ref h)
section
variable (p:Prm) (C:Ctx) (A:Around) (Γ:Bool->Gam) (hd:Option Nat)
noncomputable def RZ (P:Heap) (x:SS) (st:Stmt):Prop:=∀(m:Loc) (σ:Store) (δ:Nat->Nat) (s:Shared) (Q:QF) (E:EF),St p C P m σ δ s.heap->ws Γ hd x m σ Q E ->
 wpAny (model p.prog p.w) A (exec st C.env) (PS p C P s Q) (PX p C P s E) s
noncomputable def Ma (P:Heap) (x:SS) (b:List Stmt):Prop:=∀(m:Loc) (σ:Store) (δ:Nat->Nat) (s:Shared) (Q:QF) (E:EF),St p C P m σ δ s.heap->ws Γ hd x m σ Q E ->
 wpAny (model p.prog p.w) A (execs b C.env) (PS p C P s Q) (PX p C P s E) s
structure AmbS (md:Nat):Prop where
 K:POk p
 KA:AOk p
 N:NOk p
 KS:CtxS p C A
 fr:md=0->A.handled=none
 hh:md≠2->Uk hd A
 G:KO p (Γ hd.isSome) A
 Gt:∀e:Nat,KO p (Γ true) (A.mark (some (.ref e)))
end
section
variable (nm:List Str) (kd:Str->Option NameKind) (md:Nat)
noncomputable def SE (R:Prm->Ctx->Around->(Bool->Gam)->Option Nat->Heap->Prop):Prop:=∀(p:Prm) (C:Ctx) (A:Around) (Γ:Bool->Gam) (hd:Option Nat),AmbS p C A Γ hd md->C.names=nm->C.env.kindOf=kd->∀P,R p C A Γ hd P
noncomputable def OkS (x:SS) (st:Stmt):Prop:=SE nm kd md fun p C A Γ hd P=>RZ p C A Γ hd P x st
noncomputable def OkB (x:SS) (l:List Stmt):Prop:=SE nm kd md fun p C A Γ hd P=>Ma p C A Γ hd P x l
end
section
variable {p:Prm} {C:Ctx} {P:Heap} {A:Around} {Γ:Bool->Gam} {hd:Option Nat} {m:Loc} {σ:Store} {δ:Nat->Nat} {h h':Heap} {s:Shared} {h₁:Heap} {tk₁:Nat} {md:Nat}
theorem AmbS.amb (M:AmbS p C A Γ hd md):Amb p C A (Γ hd.isSome):=⟨M.K,M.KA,M.N,M.G,M.KS.toCtxOk⟩
theorem AmbS.free (M:AmbS p C A Γ hd 0):A.handled=none:=M.fr rfl
theorem AmbS.x {x:X} {e:Expr} (M:AmbS p C A Γ hd 0) (g:OkE C.names C.env.kindOf x e) (P:Heap):GX p C P A (Γ hd.isSome) x e:=g p C A _ M.amb rfl rfl (fun _=>M.free) P
theorem AmbS.y {x:X} {e:Expr} (M:AmbS p C A Γ hd md) (h:(md==0||plX x)=true) (g:OkE C.names C.env.kindOf x e) (P:Heap):GX p C P A (Γ hd.isSome) x e:=
 g p C A _ M.amb rfl rfl (fun z=>M.fr (by rw[z,Bool.or_false,beq_iff_eq] at h;exact h)) P
theorem PS.from {Q:QF} {w:Flow} {s':Shared} (x:PS p C P { s with heap:=h₁,toks:=tk₁ } Q w s') (k:KeepI s.heap h₁):PS p C P s Q w s':=
 x.casesOn fun h' tk fl m' σ' δ' a b c d e=>⟨h',tk,fl,m',σ',δ',a,k.trans b,c,d,e⟩
theorem PX.from {E:EF} {s':Shared} (x:PX p C P { s with heap:=h₁,toks:=tk₁ } E w s') (k:KeepI s.heap h₁):PX p C P s E w s':=
 x.casesOn fun h' tk e st n at_ m' σ' δ' a b c d f g u q=>⟨h',tk,e,st,n,at_,m',σ',δ',a,b,k.trans c,d,f,g,u,q⟩
theorem PE.px {E:EF} {s':Shared} (x:PE p C P m s (fun e σ'=>E e m σ') w s'):PX p C P s E w s':=
 x.casesOn fun h' tk e st n at_ σ' δ' a b c d e1 e2 u q=>⟨h',tk,e,st,n,at_,m,σ',δ',a,b,c,d,e1,e2,u,q⟩
theorem OL {t:Sem Flow} {Q:QF} {E:EF} (ki:KeepI s.heap h₁) (h:wpAny (model p.prog p.w) A t (PS p C P { s with heap:=h₁,toks:=tk₁ } Q) (PX p C P { s with heap:=h₁,toks:=tk₁ } E) { s with heap:=h₁,toks:=tk₁ }) :
  wpAny (model p.prog p.w) A t (PS p C P s Q) (PX p C P s E) { s with heap:=h₁,toks:=tk₁ }:=wpAny_mono h (fun _ _ z=>z.from ki) fun _ _ z=>z.from ki
theorem G1 {t:Sem Value} {Φ:QW} {Q₁:QV} {E:EF} (h:wpAny (model p.prog p.w) A t (PV p C P m s Q₁) (PE p C P m s fun e σ'=>E e m σ') s)
  (k:∀w h' tk v σ' δ',KeepI s.heap h'->Rel h' w v->St p C P m σ' δ' h'->Q₁ v σ'->Φ w { s with heap:=h',toks:=tk }):wpAny (model p.prog p.w) A t Φ (PX p C P s E) s:=
 wpAny_mono h (fun w s₁ z=>z.casesOn fun h' tk v σ' δ' e ki r x' q=>e▸k w h' tk v σ' δ' ki r x' q) fun _ _ z=>z.px
theorem Gx {t:Sem Value} {Φ:QW} {Q₁:QV} {E:EF} (ki:KeepI s.heap h₁) (h:wpAny (model p.prog p.w) A t (PV p C P m { s with heap:=h₁,toks:=tk₁ } Q₁) (PE p C P m { s with heap:=h₁,toks:=tk₁ } fun e σ'=>E e m σ') { s with heap:=h₁,toks:=tk₁ })
  (k:∀w h' tk v σ' δ',KeepI s.heap h'->KeepI h₁ h'->Rel h' w v->St p C P m σ' δ' h'->Q₁ v σ'->Φ w { s with heap:=h',toks:=tk }):wpAny (model p.prog p.w) A t Φ (PX p C P s E) { s with heap:=h₁,toks:=tk₁ }:=
 wpAny_mono h (fun w s₁ z=>z.casesOn fun h' tk v σ' δ' e ki' r x' q=>e▸k w h' tk v σ' δ' (ki.trans ki') ki' r x' q) fun _ _ z=>(PE.from z ki).px
theorem PS.next {Q:QF} {tk:Tok} (ki:KeepI s.heap h₁) (x:St p C P m σ δ h₁) (q:Q .next m σ):PS p C P s Q .next { s with heap:=h₁,toks:=tk }:=⟨h₁,tk,.next,m,σ,δ,rfl,ki,.next,x,q⟩
theorem PS.stop {Q:QF} {tk:Tok} {f:Flow} {fl:Fl} (ki:KeepI s.heap h₁) (x:St p C P m σ δ h₁) (fr:FlRel h₁ f fl) (q:Q fl m σ):PS p C P s Q f { s with heap:=h₁,toks:=tk }:=⟨h₁,tk,fl,m,σ,δ,rfl,ki,fr,x,q⟩
theorem Ft {nm:List Str} {kd:Str->Option NameKind} {n:Str} (h:B5 nm kd i n=true):nm[i]?=some n/\kd n=some .local:=by
 unfold B5 at h;rw[Bool.and_eq_true,beq_iff_eq,beq_iff_eq] at h;exact h
theorem Qe {l:List Str} (hn:l.Nodup) {i:Nat} {n:Str} (hi:l[i]?=some n):∀j,l[j]?=some n->j=i:=fun j hj=>by
 have hlt:=(List.getElem?_eq_some_iff.mp hj).1;exact(List.getElem?_inj hlt hn).mp (hj.trans hi.symm)
theorem Er {e:Expr} (h:CH e=true) (t:Option Expr) (l:Nat) (env:Env):swapsWith e t l env=pure false:=by
 cases e <;> first | rfl | cases h
theorem Gi {n:Str} {tk:Tok} {Q:QU} {E:QW} (KS:CtxS p C A) (ki:KeepI s.heap h₁) (x:St p C P m σ δ h₁) (hn:B5 C.names C.env.kindOf i n=true) (r:Rel h₁ w v)
  (q:∀h3 tk3,KeepI s.heap h3->KeepI h₁ h3->St p C P (m.set i (some v)) σ δ h3->Q () { s with heap:=h3,toks:=tk3 }):wpAny (model p.prog p.w) A (storeName C.env n w) Q E { s with heap:=h₁,toks:=tk }:=
 have l:=Ft hn
 Kk (s:={ s with heap:=h₁,toks:=tk }) KS.kind KS.own x l.2 l.1 (Qe KS.nodup l.1) r fun h2 tk2 k2 _ x2=>q h2 tk2 (ki.trans k2) k2 x2
theorem GV {i j:Nat} {a b:Str} {pa pb tp:Pos} {kk:Nat} {va vb:V} {Q:QU} {E:QW} (hA:A.handled=none) (KS:CtxS p C A) (x:St p C P m σ δ s.heap) (ha:B5 C.names C.env.kindOf i a=true) (hb:B5 C.names C.env.kindOf j b=true) (r:Rel s.heap w (.tup [va,vb]))
  (q:∀h3 tk3,KeepI s.heap h3->St p C P ((m.set i (some va)).set j (some vb)) σ δ h3->Q () { s with heap:=h3,toks:=tk3 }):wpAny (model p.prog p.w) A (assign (.Tuple [.Name a pa,.Name b pb] kk tp) C.env w) Q E s:=by
 refine r.e_tup fun a ws ht hs=>?_;obtain⟨u1,q1,rfl,ra,hs⟩:=(show ∃u q,ws=u::q/\Rel s.heap u _/\Rels s.heap q _ from hs.inv);obtain⟨u2,q2,rfl,rb,hs⟩:=(show ∃u q,q1=u::q/\Rel s.heap u _/\Rels s.heap q _ from hs.inv);obtain rfl:q2=[]:=hs.inv;refine assign_Tuple_tuple hA ht rfl rfl fun h2 he=>?_;have k2:∀b o,s.heap.get? b=some o->h2.get? b=some o:=fun b o e=>he b o (fun z=>by rw[z,Bd] at e;exact xNS e) e;exact assignInOrder_cons (wpAny_assign_Name (Gi (s:=s) KS (.of_keeps k2) (x.keeps k2) ha (ra.keeps k2) fun h3 tk3 k3 k3' x3 =>
  assignInOrder_cons (wpAny_assign_Name (Gi (s:=s) KS k3 x3 hb ((rb.keeps k2).inert k3') fun h4 tk4 k4 _ x4=>assignInOrder_nil (q h4 tk4 k4 x4)))))
end
namespace OkS
section
variable {nm:List Str} {kd:Str->Option NameKind} {b:Nat}
theorem knil:OkB nm kd b .nil []:=fun p C A Γ hd M hn hk P m σ δ s Q E xs h=>wpAny_execs_nil (.next (tk:=s.toks) (.refl _) xs h)
theorem kcons {x y:SS} {st:Stmt} {r:List Stmt} (h1:OkS nm kd b x st) (h2:OkB nm kd b y r):OkB nm kd b (.cons x y) (st::r):=fun p C A Γ hd M hn hk P m σ δ s Q E xs hw=>by
 refine wpAny_execs_cons (wpAny_mono (h1 p C A Γ hd M hn hk P m σ δ s _ E xs hw) (fun f s' z=>z.casesOn fun h' tk fl m' σ' δ' e ki fr x' q=>?_) fun _ _ z=>z);subst e;cases fr with
 | next=>exact OL ki (h2 p C A Γ hd M hn hk P m' σ' δ' _ Q E x' q)
 | brk=>exact .stop ki x' .brk q
 | cont=>exact .stop ki x' .cont q
 | ret r=>exact .stop ki x' (.ret r) q
theorem asg {i x n pn e q} (h1:B5 nm kd i n=true) (h2:CH e=true) (h3:OkE nm kd x e) (h4:(b==0||plX x)=true):OkS nm kd b (.asg i x) (.Assign [.Name n pn] e q):=fun p C A Γ hd M hn hk P m σ δ s Q E xs hw=>by
 subst hn hk;exact wpAny_Assign_Name (G1 ((M.y h4 h3 P).s m σ δ s _ _ xs hw) fun w h' tk v σ' δ' ki rr x' q=>Gi M.KS ki x' h1 rr fun h2 tk2 k2 _ x2=>.next k2 x2 q) (Er h2 _ _ _)
theorem ret {x e q} (h3:OkE nm kd x e) (h4:(b==0||plX x)=true):OkS nm kd b (.ret x) (.Return (some e) q):=fun p C A Γ hd M hn hk P m σ δ s Q E xs hw=>by
 subst hn hk;rw[arm_exec_Return];refine wpAny_bind (wpAny_standAt ?_);show wpAny _ _ (eval e C.env >>= fun v=>pure (Flow.ret v)) _ _ _;exact wpAny_bind (G1 ((M.y h4 h3 P).s m σ δ s _ _ xs hw) fun w h' tk v σ' δ' ki rr x' q=>wpAny_pure (.stop ki x' (.ret rr) q))
theorem ret0 {q}:OkS nm kd b .ret0 (.Return none q):=fun p C A Γ hd M hn hk P m σ δ s Q E xs hw=>by
 rw[arm_exec_Return];exact wpAny_bind (wpAny_standAt (wpAny_pure (.stop (tk:=s.toks) (.refl _) xs (.ret .none) hw)))
theorem kite {c x y t b1 b2 q} (h1:okT t=true) (h2:OkE nm kd c t) (h5:(b==0||plX c)=true) (h3:OkB nm kd b x b1) (h4:OkB nm kd b y b2):OkS nm kd b (.ite c x y) (.If t b1 b2 q):=fun p C A Γ hd M hn hk P m σ δ s Q E xs hw=>by
 subst hn hk;refine wpAny_If (wpAny_mono ((M.y h5 h2 P).t h1 m σ δ s _ _ _ xs hw (.inl rfl)) (fun c s' z=>z.casesOn fun h' tk σ' δ' e ki x' q=>?_) fun _ _ z=>z.px);subst e;cases c with
 | true=>exact OL ki (h3 p C A Γ hd M rfl rfl P m σ' δ' _ Q E x' q)
 | false=>exact OL ki (h4 p C A Γ hd M rfl rfl P m σ' δ' _ Q E x' q)
theorem dead {st}:OkS nm kd b .dead st:=fun p C A Γ hd M hn hk P m σ δ s Q E xs hw=>False.elim hw
end
end OkS
end
section
section
variable {p:Prm} {C:Ctx} {P:Heap} {A:Around} {Γ:Bool->Gam} {hd:Option Nat} {m:Loc} {σ:Store} {δ:Nat->Nat} {h h':Heap} {s:Shared} {h₁:Heap} {tk₁:Nat}
inductive PairOk:Expr->Prop
 | no {e}:Ll e=true->PairOk e
 | fold {a b k q}:foldedForSure 8 a=true->foldedForSure 8 b=true->PairOk (.Tuple [a,b] k q)
noncomputable def RJ:∀e,Ck (PairOk e)
 | .Tuple [a,b] _ _=>(ck (foldedForSure 8 a)).and fun h1=>(ck (foldedForSure 8 b)).and fun h2=>.yes (.fold h1 h2)
 | e=>(ck (Ll e)).and fun h=>.yes (.no h)
theorem itn {α:Type _} {c:Prop} {i:Decidable c} {x y:α} (h:y=x):(if c then x else y)=x:=by split;rfl;exact h
theorem JR {a b:Expr} {k:Nat} {tp:Pos} {e:Expr} {env:Env} (h:PairOk e):swappedStores [.Tuple [a,b] k tp] e env=pure none:=by
 cases h with
 | no h=>cases e <;> first | rfl | exact xFT h
 | fold h1 h2 =>
  unfold swappedStores;dsimp only;refine itn (itn (itn (if_pos ?_)));rw[List.all_cons,List.all_cons,h1,h2];rfl
theorem EV {op:Op} {a b:Value} {v w:V} {E:QW} (ho:op=.add∨op=.sub) (x:St p C P m σ δ s.heap) (ra:Rel s.heap a v) (rb:Rel s.heap b w) (h:binSem op v w σ fun u σ'=>(∃k,u=.int k)/\Q u σ') :
  wpAny (model p.prog p.w) A (inplaceOp (Iw op) a b) (PV p C P m s Q) E s:=by
 cases h with
 | add_int h=>exact ra.e_int fun t=>rb.e_int fun u=>iadd_int (PV.now x (.int _ _) h.2)
 | sub_int h=>exact ra.e_int fun t=>rb.e_int fun u=>isub_int (PV.now x (.int _ _) h.2)
 | add_str _ h=>exact Exists.elim h.1 fun _ z=>nomatch z
 | add_lst _ _ _ _ h=>exact Exists.elim (h.2 s.heap.objs.size (x.fresh (Bd _))).1 fun _ z=>nomatch z
 | _=>exact ho.elim (fun z=>nomatch z) fun z=>nomatch z
end
namespace OkS
section
variable {nm:List Str} {kd:Str->Option NameKind} {b:Nat}
theorem asg2 {i j x a pa b pb kk tp e q} (h1:B5 nm kd i a=true) (h2:B5 nm kd j b=true) (h4:CH e=true) (h5:PairOk e) (h6:OkE nm kd x e):OkS nm kd 0 (.asg2 i j x) (.Assign [.Tuple [.Name a pa,.Name b pb] kk tp] e q):=fun p C A Γ hd M hn hk P m σ δ s Q E xs hw=>by
 subst hn hk;refine Assign_Tuple (G1 ((M.x h6 P).s m σ δ s _ _ xs hw) fun w h' tk v σ' δ' ki rr x' q=>?_) (by unfold swapsWithSole;exact Er h4 _ _ _) (JR h5);obtain⟨va,vb,rfl,q⟩:=q;exact GV (s:={ s with heap:=h',toks:=tk }) M.free M.KS x' h1 h2 rr fun h3 tk3 k3 x3=>.next (ki.trans k3) x3 q
theorem setA {o x n oe g pp e q} (h1:g=S n) (h2:n∈attrNames) (h3:CH e=true) (h4:OkE nm kd x e) (h5:OkE nm kd o oe) (h6:(b==0||plX x)=true) (h7:(b==0||plX o)=true):OkS nm kd b (.setA o n x) (.Assign [.Attribute oe g pp] e q):=fun p C A Γ hd M hn hk P m σ δ s Q E xs hw=>by
 subst h1 hn hk;refine plainObj_wpAny_Assign_Attribute (G1 ((M.y h6 h4 P).s m σ δ s _ _ xs hw) fun w h' tk v σ' δ' ki rr x' q=>Gx ki ((M.y h7 h5 P).s m σ' δ' _ _ _ x' q) fun w₂ h₂ tk₂ v₂ σ₂ δ₂ ki₂ k₂ r₂ x₂ q₂=>?_) (Er h3 _ _ _);exact wpAny_mono (MA (s:={ s with heap:=h₂,toks:=tk₂ }) (E:=PX p C P s E) M.K M.KA h2 x₂ r₂ (rr.inert k₂) q₂) (fun _ s' z=>z.casesOn fun h3 tk3 σ3 δ3 e k3 x3 q3=>e▸.next (ki₂.trans k3) x3 q3) fun _ _ z=>z
theorem setI {o k x oe ie pp e q} (h3:CH e=true) (h4:OkE nm kd x e) (h5:OkE nm kd o oe) (h6:OkE nm kd k ie):OkS nm kd 0 (.setI o k x) (.Assign [.Subscript oe ie pp] e q):=fun p C A Γ hd M hn hk P m σ δ s Q E xs hw=>by
 subst hn hk;refine wpAny_Assign_Subscript (G1 ((M.x h4 P).s m σ δ s _ _ xs hw) fun w h' tk v σ' δ' ki rr x' q=>Gx ki ((M.x h5 P).s m σ' δ' _ _ _ x' q) fun w₂ h₂ tk₂ v₂ σ₂ δ₂ ki₂ k₂ r₂ x₂ q₂ =>
  Gx ki₂ ((M.x h6 P).s m σ₂ δ₂ _ _ _ x₂ q₂) fun w₃ h₃ tk₃ v₃ σ₃ δ₃ ki₃ k₃ r₃ x₃ q₃=>?_) (Er h3 _ _ _)
 exact wpAny_mono (HD (s:={ s with heap:=h₃,toks:=tk₃ }) (E:=PX p C P s E) x₃ (r₂.inert k₃) r₃ (rr.inert (k₂.trans k₃)) q₃) (fun _ s' z=>z.casesOn fun h4 tk4 σ4 δ4 e k4 x4 q4=>e▸.next (ki₃.trans k4) x4 q4) fun _ _ z=>z
theorem expr {x e q} (h1:CH e=true) (h2:OkE nm kd x e) (h3:(b==0||plX x)=true):OkS nm kd b (.expr x) (.Expr e q):=fun p C A Γ hd M hn hk P m σ δ s Q E xs hw=>by
 subst hn hk;exact wpAny_Expr_any (G1 ((M.y h3 h2 P).s m σ δ s _ _ xs hw) fun w h' tk v σ' δ' ki rr x' q=>.next ki x' q) (by unfold interactive;rw[M.KS.kind];rfl) (Er h1 _ _ _)
theorem aug {i op x n pn o e q} (h1:B5 nm kd i n=true) (h3:op=.add∨op=.sub) (h4:o=Iw op) (h5:OkE nm kd x e):OkS nm kd 0 (.aug i op x) (.AugAssign (.Name n pn) o e q):=fun p C A Γ hd M hn hk P m σ δ s Q E xs hw=>by
 subst h4 hn hk;have l:=Ft h1;have hw:(match (m[i]?).join with | some v=>(wp (Γ hd.isSome) x).x m σ (fun w σ₁=>binSem op v w σ₁ fun u σ₂=>(∃k,u=.int k)/\Q .next (m.set i (some u)) σ₂) (fun e σ'=>E e m σ') | none=>False):=hw;refine e1a2 xs.ns fun mm hns hl=>?_;have hl:=fun v=>hl i n v l.1;generalize m[i]?=o at hw hl;cases o with
 | none=>exact hw.elim
 | some o=>cases o with
  | none=>exact hw.elim
  | some v =>
   refine e1a2 (hl v rfl) fun w r h=>?_;have hmm:mm n=some w:=by
    rcases h with ⟨_,h2⟩ | ⟨h1 | h1,_⟩
    ·exact h2
    ·rw[l.2] at h1;exact xKx (xSS h1) rfl
    ·rw[l.2] at h1;exact xKx (xSS h1) rfl
   refine wpAny_AugAssign_Name (wpAny_loadName_local M.KS.kind l.2 hns hmm (G1 ((M.x h5 P).s m σ δ s _ _ xs hw) fun w₂ h' tk v₂ σ' δ' ki rr x' q=>?_));refine wpAny_mono (EV (s:={ s with heap:=h',toks:=tk }) (E:=PX p C P s E) h3 x' (r.inert ki) rr q) (fun _ s' z=>z.casesOn fun h3 tk3 v3 σ3 δ3 e k3 r3 x3 q3=>?_) fun _ _ z=>z;subst e;exact Gi (s:=s) M.KS (ki.trans k3) x3 h1 r3 fun h4 tk4 k4 _ x4=>.next k4 x4 q3
theorem augA {o x n op oe g pp qo e q} (h1:g=S n) (h2:n∈attrNames) (h3:op=.add) (h4:qo=Iw op) (h5:OkE nm kd x e) (h6:OkE nm kd o oe):OkS nm kd 0 (.augA o n op x) (.AugAssign (.Attribute oe g pp) qo e q):=fun p C A Γ hd M hn hk P m σ δ s Q E xs hw=>by
 subst h1 h4 hn hk;refine wpAny_AugAssign_AttributeAny (G1 ((M.x h6 P).s m σ δ s _ _ xs hw) fun w h' tk v σ' δ' ki rr x' q=>?_);refine Gx ki (Mz (s:={ s with heap:=h',toks:=tk }) M.K M.KA h2 x' rr q) fun w₂ h₂ tk₂ v₂ σ₂ δ₂ ki₂ k₂ r₂ x₂ q₂=>?_;refine Gx ki₂ ((M.x h5 P).s m σ₂ δ₂ _ _ _ x₂ q₂) fun w₃ h₃ tk₃ v₃ σ₃ δ₃ ki₃ k₃ r₃ x₃ q₃=>?_;refine wpAny_mono (EV (s:={ s with heap:=h₃,toks:=tk₃ }) (E:=PX p C P s E) (Q:=fun u σ'=>setASem v n u σ' fun σ₅=>Q .next m σ₅) (.inl h3) x₃ (r₂.inert k₃) r₃ q₃) (fun _ s' z=>z.casesOn fun h4 tk4 v4 σ4 δ4 e k4 r4 x4 q4=>?_) fun _ _ z=>z;subst e;exact wpAny_mono (MA (s:={ s with heap:=h4,toks:=tk4 }) (E:=PX p C P s E) M.K M.KA h2 x4 (((rr.inert k₂).inert k₃).inert k4) r4 q4) (fun _ s' z=>z.casesOn fun h5 tk5 σ5 δ5 e k5 x5 q5=>e▸.next ((ki₃.trans k4).trans k5) x5 q5) fun _ _ z=>z
theorem augI {o k x op oe ie pp qo e q} (h1:Eg ie=true) (h3:op=.add) (h4:qo=Iw op) (h5:OkE nm kd x e) (h6:OkE nm kd o oe) (h7:OkE nm kd k ie):OkS nm kd 0 (.augI o k op x) (.AugAssign (.Subscript oe ie pp) qo e q):=fun p C A Γ hd M hn hk P m σ δ s Q E xs hw=>by
 subst h4 hn hk;refine wpAny_AugAssign_Subscript_any (G1 ((M.x h6 P).s m σ δ s _ _ xs hw) fun w h' tk v σ' δ' ki rr x' q=>?_) (fun ov iv new=>by cases ie <;> first | rfl | exact xFT h1);refine Gx ki ((M.x h7 P).s m σ' δ' _ _ _ x' q) fun w₁ h₁ tk₁ v₁ σ₁ δ₁ ki₁ k₁ r₁ x₁ q₁=>?_;refine Gx ki₁ ((Hs (s:={ s with heap:=h₁,toks:=tk₁ }) x₁ (rr.inert k₁) r₁ q₁).2) fun w₂ h₂ tk₂ v₂ σ₂ δ₂ ki₂ k₂ r₂ x₂ q₂=>?_;refine Gx ki₂ ((M.x h5 P).s m σ₂ δ₂ _ _ _ x₂ q₂) fun w₃ h₃ tk₃ v₃ σ₃ δ₃ ki₃ k₃ r₃ x₃ q₃=>?_;refine wpAny_mono (EV (s:={ s with heap:=h₃,toks:=tk₃ }) (E:=PX p C P s E) (Q:=fun r σ₅=>setISem v v₁ r σ₅ fun σ₆=>Q .next m σ₆) (.inl h3) x₃ (r₂.inert k₃) r₃ q₃) (fun _ s' z=>z.casesOn fun h4 tk4 v4 σ4 δ4 e k4 r4 x4 q4=>?_) fun _ _ z=>z;subst e;exact wpAny_mono (HD (s:={ s with heap:=h4,toks:=tk4 }) (E:=PX p C P s E) x4 ((((rr.inert k₁).inert k₂).inert k₃).inert k4) (((r₁.inert k₂).inert k₃).inert k4) r4 q4) (fun _ s' z=>z.casesOn fun h5 tk5 σ5 δ5 e k5 x5 q5=>e▸.next ((ki₃.trans k4).trans k5) x5 q5) fun _ _ z=>z
end
end OkS
end
section
section
variable {p:Prm} {C:Ctx} {P:Heap} {A:Around} {Γ:Bool->Gam} {hd:Option Nat} {m:Loc} {σ:Store} {δ:Nat->Nat} {h h':Heap} {s:Shared} {h₁:Heap} {tk₁:Nat}
theorem Ey {A':Around} {E:EF} {x:Value} {s':Shared} (KS:CtxS p C A') (z:PX p C P s E x s'):notedBy (model p.prog p.w) A' C.env (fun e s''=>cameBackBy (model p.prog p.w) A C.env (PX p C P s E) e s'') x s':=by
 obtain⟨h',tk,e,st,n,at_,m',σ',δ',rfl,rfl,ki,x',ex,hst,u,q⟩:=z;refine Aq KS.top fun outer hC=>?_;refine e1a2 KS.frame fun L hL _=>?_;rw[hL] at u;refine GC (s:={ s with heap:=h',toks:=tk }) hst KS.frames hC hL x' ex u fun h₂ k₂ x₂ u₂=>?_;have u₂':=u₂;obtain⟨o,vs,T,oT,ts,he,hd,h1,_⟩:=u₂;refine wpAny_bind (wpAny_field he hd h1 ?_);rw[if_neg (by simp),hL];refine CC (s:={ s with heap:=h₂,toks:=tk }) (L:=some L) x₂ ex u₂' fun h₃ k₃ x₃ u₃=>?_;exact⟨h₃,tk,e,st,n,at_,m',σ',δ',rfl,rfl,(ki.trans k₂).trans k₃,x₃,ex,hst,hL▸.here L rfl u₃,q⟩
inductive WhlN (p:Prm) (C:Ctx) (P:Heap) (s:Shared) (I:EF) (n:Nat) (s₃:Shared):Prop
 | mk (h:Heap) (tk:Tok) (m:Loc) (σ:Store) (δ:Nat->Nat):s₃={ s with heap:=h,toks:=tk }->KeepI s.heap h->St p C P m σ δ h->I n m σ->WhlN p C P s I n s₃
theorem OkS.whl {nm:List Str} {kd:Str->Option NameKind} {c b t b1 q} (h1:okT t=true) (h2:OkE nm kd c t) (h3:OkB nm kd 0 b b1):OkS nm kd 0 (.whl c b) (.While t b1 [] q):=fun p C A Γ hd M hn hk P m σ δ s Q E xs hw=>by
 subst hn hk;refine e1a2 hw fun I z1_ It=>?_;clear hw;refine Aq z1_ fun n₀ I0=>?_;clear z1_;refine wpAny_While (codeAny_whileLoop (WhlN p C P s I) (fun n s₃ hI=>?_) n₀ ⟨s.heap,s.toks,m,σ,δ,rfl,.refl _,xs,I0⟩);obtain⟨ha,ta,ma,σa,δa,rfl,ka,xa,Ia⟩:=hI;refine wpAny_mono ((M.x h2 P).t h1 ma σa δa { s with heap:=ha,toks:=ta } _ _ _ xa (It n ma σa Ia) (.inl rfl)) (fun c s' z=>z.casesOn fun hb' tb σb δb e kb xb q=>?_) fun x s' z=>Ey M.KS ((PE.px z).from ka);subst e;cases c with
 | true =>
  refine wpAny_mono (h3 p C A Γ hd M rfl rfl P ma σb δb { s with heap:=hb',toks:=tb } _ E xb q) (fun f s' z=>z.casesOn fun hc tc fl mc σc δc e kc fr xc qc=>?_) fun x s' z=>Ey M.KS (z.from (ka.trans kb));subst e;have kk:=(ka.trans kb).trans kc;cases fr with
  | next=>exact Exists.elim qc fun k z=>(Ai k z.1 ⟨hc,tc,mc,σc,δc,rfl,kk,xc,z.2⟩)
  | cont=>exact Exists.elim qc fun k z=>(Ai k z.1 ⟨hc,tc,mc,σc,δc,rfl,kk,xc,z.2⟩)
  | brk=>exact .next kk xc qc
  | ret r=>exact .stop kk xc (.ret r) qc
 | false=>exact wpAny_execs_nil (.next (ka.trans kb) xb q)
inductive ForN (p:Prm) (C:Ctx) (P:Heap) (s:Shared) (h':Heap) (I:Nat) (v:V) (o:Option Nat) (ys:List V) (Inv:List V->Loc->Store->Prop) (n:Nat) (s₃:Shared):Prop
 | mk (k:Nat) (h:Heap) (tk:Tok) (m:Loc) (σ:Store) (δ:Nat->Nat):s₃={ s with heap:=h,toks:=tk }->n=ys.length - k->k<=ys.length->KeepI h' h->St p C P m σ δ h->ItAt h I v o ys.length k->Inv (ys.drop k) m σ->ForN p C P s h' I v o ys Inv n s₃
theorem Kt {tg:Expr} {e:Expr} {b1:List Stmt} {pos:Pos} {x:X} {b:SS} {step:V->Loc->(Loc->Prop)->Prop} (M:AmbS p C A Γ hd 0) (h2:CS e=true) (gx:C4 p C P A (Γ hd.isSome) x e) (ib:Ma p C A Γ hd P b b1)
  (asg:∀{m:Loc} {σ:Store} {δ:Nat->Nat} {s:Shared} {w:Value} {y:V} {Φ:QU} {E:QW} {R:Loc->Prop},St p C P m σ δ s.heap->Rel s.heap w y->step y m R->(∀m' h3 tk3,R m'->KeepI s.heap h3->St p C P m' σ δ h3->Φ () { s with heap:=h3,toks:=tk3 })->wpAny (model p.prog p.w) A (assign tg C.env w) Φ E s)
  {Q:QF} {E:EF} (xs:St p C P m σ δ s.heap)
  (hw:(wp (Γ hd.isSome) x).x m σ (fun v σ₁=>∃xs ep,AW σ₁ v=some (xs,ep)/\xs.length<=LIM/\∃I:List V->Loc->Store->Prop,I xs m σ₁ /\
   (∀y ys m σ,I (y::ys) m σ->AW σ v=some (xs,ep)/\step y m fun m'=>ws Γ hd b m' σ (Dd (I ys) Q) E)/\(∀m σ,I [] m σ->AW σ v=some (xs,ep)/\Q .next m σ)) (fun e σ'=>E e m σ')) :
  wpAny (model p.prog p.w) A (exec (.For tg e b1 [] pos) C.env) (PS p C P s Q) (PX p C P s E) s:=by
 refine wpAny_For (G1 (gx m σ δ s _ _ xs hw) fun w h' tk v σ' δ' ki rr x' q=>?_) (fun x=>Fs h2 x);refine Cc q fun ys o e1 hlen z1_=>?_;clear q;refine B2 z1_ fun Inv I0 It Ie=>?_;clear z1_;have nI:=Bd h';refine H8 (s:={ s with heap:=h',toks:=tk }) M.K x' rr e1 fun ob hit=>?_;have iP:=(x'.newFacts nI).2.2.2.1;have k0:=Aw h' ob;refine codeAny_forLoop_any (ForN p C P s h' h'.objs.size v o ys Inv) (fun n s₃ hI=>?_) (ys.length - 0) ⟨0,h'.push ob,tk,m,σ',δ',rfl,rfl,Nat.zero_le _,.of_keeps k0,x'.keeps k0,hit,I0⟩;obtain⟨k,ha,ta,ma,σa,δa,rfl,rfl,hle,ka,xa,ita,Ia⟩:=hI;clear hit I0 k0 x' rr hw;generalize h'.objs.size=I at *;refine e1a2 ita.isIt fun oi hoi hii=>?_;have off:∀{h2:Heap},(∀b o,b≠I->ha.get? b=some o->h2.get? b=some o)->KeepI h' h2:=fun z b o e i=>z b o (fun z=>by rw[z,nI] at e;exact xNS e) (ka b o e i);by_cases hk:k < ys.length
 ·have hy:=List.getElem?_eq_getElem hk;rw[List.drop_eq_getElem_cons hk] at Ia;have z:=It _ _ _ _ Ia;refine IU (s:={ s with heap:=ha,toks:=ta }) xa ita iP z.1 hy fun w2 h2 tk2 hs2 r2 it2=>?_;have x2:=(xa.itStep hoi hii iP fun b o z e=>(hs2.2 b z).trans e).1;have k2:KeepI h' h2:=off fun b o z e=>(hs2.2 b z).trans e;refine Gn (s:={ s with heap:=h2,toks:=tk2 }) it2 (asg (s:={ s with heap:=h2,toks:=tk2 }) x2 r2 z.2 fun m' h3 tk3 hw' k3 x3=>?_);refine wpAny_mono (ib m' σa δa { s with heap:=h3,toks:=tk3 } _ E x3 hw') (fun f s' z=>z.casesOn fun hc tc fl mc σc δc e kc fr xc qc=>?_) fun x s' z=>Ey M.KS (z.from ((ki.trans k2).trans k3));subst e;have kk:=(k2.trans k3).trans kc;have nx:=Nat.sub_lt_sub_left hk (Nat.lt_succ_self k);cases fr with
  | next=>exact Ai _ nx ⟨k+1,hc,tc,mc,σc,δc,rfl,rfl,hk,kk,xc,(it2.keep k3).keep kc,qc⟩
  | cont=>exact Ai _ nx ⟨k+1,hc,tc,mc,σc,δc,rfl,rfl,hk,kk,xc,(it2.keep k3).keep kc,qc⟩
  | brk=>exact .next (ki.trans kk) xc qc
  | ret r=>exact .stop (ki.trans kk) xc (.ret r) qc
 ·have hk:k=ys.length:=Nat.le_antisymm hle (Nat.le_of_not_lt hk);subst hk;rw[List.drop_length] at Ia;have z:=Ie _ _ Ia;refine Hy (s:={ s with heap:=ha,toks:=ta }) M.free xa ita z.1 (Nat.le_refl _) fun hb tb he=>wpAny_execs_nil ?_;exact .next (ki.trans (off he)) (xa.itStep hoi hii iP fun b o z e=>he b o z e).1 z.2
end
namespace OkS
section
variable {nm:List Str} {kd:Str->Option NameKind}
theorem for1 {i x b n pn e b1 q} (h1:B5 nm kd i n=true) (h2:CS e=true) (h3:OkE nm kd x e) (h4:OkB nm kd 0 b b1):OkS nm kd 0 (.for1 i x b) (.For (.Name n pn) e b1 [] q):=fun p C A Γ hd M hn hk P m σ δ s Q E xs hw=>by
 subst hn hk;exact Kt (step:=fun y m R=>R (m.set i (some y))) M h2 (M.x h3 P).s (h4 p C A Γ hd M rfl rfl P) (fun {m σ δ s w y Φ E R} x r hb q=>wpAny_assign_Name (Gi (s:=s) M.KS (.refl _) x h1 r fun h3 tk3 k3 _ x3=>q _ h3 tk3 hb k3 x3)) xs hw
theorem for2 {i j x b a pa c pc kk tp e b1 q} (h1:B5 nm kd i a=true) (h1':B5 nm kd j c=true) (h2:CS e=true) (h3:OkE nm kd x e) (h4:OkB nm kd 0 b b1):OkS nm kd 0 (.for2 i j x b) (.For (.Tuple [.Name a pa,.Name c pc] kk tp) e b1 [] q):=fun p C A Γ hd M hn hk P m σ δ s Q E xs hw=>by
 subst hn hk;refine Kt (step:=fun y m R=>∃a c,y=.tup [a,c]/\R ((m.set i (some a)).set j (some c))) M h2 (M.x h3 P).s (h4 p C A Γ hd M rfl rfl P) (fun {m σ δ s w y Φ E R} x r hb' q=>?_) xs hw;obtain⟨a,c,rfl,hb'⟩:=hb';exact GV M.free M.KS x h1 h1' r fun h3 tk3 k3 x3=>q _ h3 tk3 hb' k3 x3
end
end OkS
end
section
section
variable {p:Prm} {C:Ctx} {P:Heap} {A:Around} {Γ:Bool->Gam} {hd:Option Nat} {m:Loc} {σ:Store} {δ:Nat->Nat} {h h':Heap} {s:Shared} {h₁:Heap} {tk₁:Nat}
theorem Nv {x:Sem Value} {Q:Flow->Shared->Prop} {E:QW} (N:NOk p)
  (h:wpAny (model p.prog p.w) A x (fun v s₁=>∃e t da sl,v=.ref e/\p.base.StaysIn s₁.heap/\s₁.heap.get? e=some ⟨.ref (p.cls .raised),da,.fields #[.ref t,.none,.none,.none,.bool false,.none],sl⟩/\wpAny (model p.prog p.w) A (raiseNew (.ref e)) Q E s₁) E s) :
  wpAny (model p.prog p.w) A (raiseStmt C.env (some x) none) Q E s:=by
 obtain⟨nm,q,N',bs,hdct,sn,sub,ab,col,dd,k0,k1,k2,k3,k5,mN,oI,hC,hns,hi,hI,hIc⟩:=N.rObj;have hcB:(Value.ref (p.cls .raised)::[Value.type "Exception",.type "BaseException",.type "object"]).contains (.type "BaseException")=true:=by rw[List.contains_cons];simp
 unfold raiseStmt;refine wpAny_bind (wpAny_mono h (fun v s₁ h₁=>?_) fun _ _ x=>x);refine Rv h₁ fun e t da sl z1_ hb he hE=>?_;clear h₁;subst z1_;have hC:=hb _ _ hC;obtain⟨hp,g,d,tk,os⟩:=s₁;dsimp only at he hC
 repeat (first | with_reducible refine wpAny_loadPart_at he ?_ | with_reducible refine wpAny_loadPart_at hC ?_ | (with_reducible refine wpAny_isSubtype_exc hC ?_;rw[hcB]) | wp_step)
 exact hE
theorem Im:entryFor table "proto.unchain"=some Builtin.«proto.unchain»:=entryFor_of_tree (by kernel_rfl)
inductive Raised (p:Prm) (C:Ctx) (P:Heap) (m:Loc) (σ:Store) (δ:Nat->Nat) (h:Heap) (e n:Nat) (at_:List (T × V)) (E:EF) (h':Heap):Prop
 | mk (st:Nat) (o:Obj) (vs:Array Value):1<=st->KeepI h h'->St p C P m (σ.set e (.exc st n at_)) δ h'->h'.get? e=some o->o.data=.fields vs->vs[1]?=some .none->E e m (σ.set e (.exc st n at_))->Raised p C P m σ δ h e n at_ E h'
theorem NV {e n:Nat} {Q:Flow->Shared->Prop} {E:EF} {s₀:Shared} (hhd:Uk hd A) (x:St p C P m σ δ s.heap) (ex:σ e=some (.exc 0 n at_)) (q:La hd e m σ n at_ E)
  (fin:∀h',Raised p C P m σ δ s.heap e n at_ E h'->PX p C P s₀ E (.ref e) { s with heap:=h' }) :
  wpAny (model p.prog p.w) A (raiseNew (.ref e)) Q (PX p C P s₀ E) s:=by
 refine Cc (x.rep.at_ _ _ ex) fun vs sl ho z1_ hat=>?_;refine Aq z1_ fun t z2_=>?_;clear z1_;subst z2_;cases hd with
 | none =>
  exact wpAny_raiseNew_none hhd (fin s.heap ⟨1,_,_,Nat.le_refl _,.refl _,(x.setAt ex trivial (c':=.exc 1 n at_) ⟨fun z=>z,fun z=>z⟩ ⟨rfl,fun _ _=>rfl⟩ fun _=>(AZ _ sl ho (Me t .none rfl) hat)).1,ho,rfl,rfl,q⟩)
 | some hx =>
  have hne:δ e≠e:=fun z=>by have:=x.rep.sep e _ ex trivial;rw[z,ex] at this;exact xSN this
  refine NK q fun q1 z3_ q3=>?_;clear q;refine NS z3_ fun n' at' q2=>?_;clear z3_;refine Cc (x.rep.at_ _ _ q2) fun vs' sl' ho' z4_ hat'=>?_;refine NS z4_ fun t' tb' z5_=>?_;clear z4_;subst z5_;have hhd:A.handled=some (.ref hx):=hhd;unfold raiseNew;refine wpAny_bind (wpAny_handled ?_);rw[hhd];dsimp only;rw[if_pos (show (Value.ref hx != Value.ref e)=true by simpa using q1)];refine wpAny_bind (wpAny_holding (wpAny_runValue (codeAny_builtin Im ?_)));unfold Builtin.«proto.unchain»;dsimp only;refine wpAny_bind (wpAny_field ho' rfl (x:=.none) rfl ?_);rw[if_pos (by rfl)];refine wpAny_bind (wpAny_pure (wpAny_pure ?_));show wpAny _ _ (updateField e 2 (.ref hx) >>= fun _=>throw (.ref e)) _ _ _;unfold updateField;refine wpAny_bind (wpAny_bind (wpAny_load ho ?_));dsimp only;rw[if_pos (show 2 < (#[Value.ref t,.none,.none,.none,.bool false,.none]:Array Value).size from by simp)];refine wpAny_update ho (wpAny_throw ?_);have hs:=Heap.SameBut.update s.heap e (Obj.mapFields (·.setIfInBounds 2 (Value.ref hx)));have ho2:=Heap.get?_update_self (Obj.mapFields (·.setIfInBounds 2 (Value.ref hx))) ho rfl;have z:=x.setAt ex trivial (c':=.exc 2 n at_) ⟨fun z=>z,fun z=>z⟩ hs fun ki=>(AZ _ sl ho2 (Jq t .none (.ref hx) rfl) (hat.step (fun o ho=>(hs.2 _ hne).trans ho) ki));exact fin _ ⟨2,_,_,Nat.le_succ _,z.2,z.1,ho2,rfl,rfl,q3⟩
end
theorem OkS.raise {nm:List Str} {kd:Str->Option NameKind} {b:Nat} {x e q} (h0:b≠2) (h3:OkE nm kd x e) (h4:(b==0||plX x)=true):OkS nm kd b (.raise x) (.Raise (some e) none q):=fun p C A Γ hd M hn hk P m σ δ s Q E xs hw=>by
 subst hn hk;rw[arm_exec_Raise];refine wpAny_bind (wpAny_standAt ?_);show wpAny _ _ (raiseStmt C.env (some (eval e C.env >>= fun v=>standAt q >>= fun _=>pure v)) none) _ _ _;refine Nv M.N (wpAny_bind (G1 ((M.y h4 h3 P).s m σ δ s _ _ xs hw) fun w h' tk v σ' δ' ki rr x' q=>wpAny_bind (wpAny_standAt (wpAny_pure ?_))));obtain⟨e0,n,at_,rfl,ex,q⟩:=q;obtain⟨vs,sl,ho,⟨t,rfl⟩,hat⟩:=x'.rep.at_ _ _ ex;refine Sh e0 t _ sl rr.inv (St.toBase (s:={ s with heap:=h',toks:=tk }) x') ho ?_;exact NV (s:={ s with heap:=h',toks:=tk }) (M.hh h0) x' ex q fun h2 z=>z.casesOn fun st' o vs hst k2 x2 ho hd h1 q2=>⟨h2,tk,e0,st',n,at_,m,_,δ',rfl,rfl,ki.trans k2,x2,by simp,hst,.no o vs ho hd h1,q2⟩
end
section
section
variable {p:Prm} {C:Ctx} {P:Heap} {A:Around} {Γ:Bool->Gam} {hd:Option Nat} {m:Loc} {σ:Store} {δ:Nat->Nat} {h h':Heap} {s:Shared} {h₁:Heap} {tk₁:Nat}
theorem CtxS.mark (KS:CtxS p C A) (v:Option Value):CtxS p C (A.mark v):=⟨⟨KS.frames,KS.kind,KS.glob,KS.blt,KS.frame,KS.units,KS.depth⟩,KS.own,KS.nodup,KS.top⟩
theorem M6 {E:EF} {x:Value} {s':Shared} {R:QU} {E':QW} (KS:CtxS p C A) (z:PX p C P s E x s')
  (k:∀h' tk e st n at_ m' σ' δ',x=.ref e->KeepI s.heap h'->St p C P m' σ' δ' h'->σ' e=some (.exc st n at_)->1<=st->UpT P e .none h'->E e m' σ'->R () { s with heap:=h',toks:=tk }) :
  wpAny (model p.prog p.w) A (noteFrame x C.env) (fun _ s₂=>wpAny (model p.prog p.w) A (setFlight x none) R E' s₂) E' s':=by
 obtain⟨h',tk,e,st,n,at_,m',σ',δ',rfl,rfl,ki,x',ex,hst,u,q⟩:=z;refine Aq KS.top fun outer hC=>?_;refine e1a2 KS.frame fun L hL _=>?_;rw[hL] at u;refine GC (s:={ s with heap:=h',toks:=tk }) hst KS.frames hC hL x' ex u fun h₂ k₂ x₂ u₂=>?_;exact CC (s:={ s with heap:=h₂,toks:=tk }) (L:=none) x₂ ex u₂ fun h₃ k₃ x₃ u₃=>k h₃ tk e st n at_ m' σ' δ' rfl ((ki.trans k₂).trans k₃) x₃ ex hst u₃ q
theorem St.lose {mm:Str->Option Value} (x:St p C P m σ δ h) (own:Own C) (hs:Heap.SameBut C.env.locals h h') (hn:h'.Ns C.env.locals mm):St p C P [] σ δ h'/\KeepI h h':=by
 refine e1a2 x.ns fun m0 hns hl=>?_;refine e3a2 (Ns.dict hns) fun o es ep ho hd=>?_;have ki:KeepI h h':=.sameBut hs ho (AJ hd);exact⟨⟨x.base,fun b o e=>(hs.2 b fun z=>by rw[z,x.lP] at e;exact xNS e).trans (x.stays b o e),x.frs.ownStep hs (Ns.dict hn) own,(Ai _ hn (fun j y u hj hm=>by simp at hm)),x.lP,x.rep.kept (fun b o f e=>(hs.2 b (x.off b f).2.2).trans e) ki,x.off⟩,ki⟩
theorem AmbS.mark {md:Nat} (M:AmbS p C A Γ hd md) (e:Nat):AmbS p C (A.mark (some (.ref e))) Γ (some e) 1:=⟨M.K,M.KA,M.N,M.KS.mark _,fun z=>(nomatch z),fun _=>rfl,M.Gt e,M.Gt⟩
theorem Fz {e st n:Nat} {Q:Bool->Shared->Prop} {E:QW} (N:NOk p) (x:St p C P m σ δ s.heap) (ex:σ e=some (.exc st n at_)) (q:Q true s):wpAny (model p.prog p.w) A (excMatches (.ref e) (.ref (p.cls .raised))) Q E s:=by
 refine Cc (x.rep.at_ _ _ ex) fun vs sl ho hf hat=>?_;obtain⟨nm,q',N',bs,hdct,sn,sub,ab,col,dd,w0,w1,w2,w3,w5,mN,oI,hC,hns,hi,hI,hIc⟩:=N.rObj;exact wpAny_excMatches_sub_self (St.toBase x _ _ hC) ho rfl (by simp) q
set_option backward.match.sparseCases true in
theorem KB {x:SS} {b1:List Stmt} {h₀:ExceptHandler} {pos:Pos} {Q:QF} {E:QW} {E':EF} (ib:Ma p C A Γ hd P x b1) (xs:St p C P m σ δ s.heap) (hw:ws Γ hd x m σ Q E')
  (run:∀x s',PX p C P s E' x s'->wpAny (model p.prog p.w) A (noteFrame x C.env) (fun _ s₂=>wpAny (model p.prog p.w) A (setFlight x none) (fun _ s₃=>wpAny (model p.prog p.w) A (handleBy x C.env [h₀]) (PS p C P s Q) E s₃) E s₂) E s') :
  wpAny (model p.prog p.w) A (exec (.Try b1 [h₀] [] [] pos) C.env) (PS p C P s Q) E s:=by
 refine wpAny_Try_except (wpAny_mono (ib m σ δ s _ _ xs hw) (fun f s' z=>z.casesOn fun h' tk fl m' σ' δ' e ki fr x' q=>?_) run);subst e;cases fr with
 | next=>exact wpAny_execs_nil (.next ki x' q)
 | brk=>exact .stop ki x' .brk q
 | cont=>exact .stop ki x' .cont q
 | ret r=>exact .stop ki x' (.ret r) q
theorem AmbS.glob {md:Nat} (M:AmbS p C A Γ hd md) (v:Option Value) {g:Str} {pos:Pos} {Q:QW} {E:QW} (h1:g=("Raised" : Str)) (h2:okG C.env.kindOf g=true) (x:St p C P m σ δ s.heap) (q:Q (.ref (p.cls .raised)) s):wpAny (model p.prog p.w) (A.mark v) (eval (.Name g pos) C.env) Q E s:=
 G8 M.N (M.KS.mark v).toCtxOk x (Fw h2).1 (Fw h2).2 (h1▸M.N.cl .raised) q
theorem UpT.lose {e st n:Nat} {fl:Value} (x:St p C P m σ δ h) (ex:σ e=some (.exc st n at_)) (u:UpT P e fl h) (hs:Heap.SameBut C.env.locals h h'):UpT P e fl h':=
 u.casesOn fun o vs T oT ts he hd h1 hP hT hcT hdT h3=>⟨o,vs,T,oT,ts,(hs.2 _ (x.off e (.inl (Ai _ ex trivial))).2.2).trans he,hd,h1,hP,(hs.2 _ (Ls x hT hcT hdT).2.2.2).trans hT,hcT,hdT,h3⟩
theorem R7 {E:EF} {x:Value} {n:Str} {pos:Pos} {s₀ s':Shared} {A':Around} {h3:Heap} {tk3:Tok} {R:QW} (KS:CtxS p C A') (l2:C.env.kindOf n=some .local) (k0:KeepI s₀.heap h3) (z:PX p C P { s₀ with heap:=h3,toks:=tk3 } (fun e _ σ=>E e [] σ) x s') (E3:QW)
  (fin:∀x s',PX p C P s₀ E x s'->R x s') :
  wpAny (model p.prog p.w) A' (noteFrame x C.env) (fun _ s₃'=>wpAny (model p.prog p.w) A' (do bindName C.env n .none;unbindBehindTheSuite C.env n pos) (fun _ s₄=>wpAny (model p.prog p.w) A' (passOn "try.except-as" x C.env:Sem Flow) (fun _ _=>False) R s₄) E3 s₃') R s':=by
 obtain⟨h4,tk4,e4,st4,n4,at4,m4,σ4,δ4,rfl,rfl,k4,x4,ex4,hst4,u4,q4⟩:=z;refine Aq KS.top fun outer hCf=>?_;refine e1a2 KS.frame fun L hL _=>?_;have hpz:(C.env.scope.kind==.class||(C.env.scope.kind==.module&&C.env.locals != C.env.globals))=false:=by rw[KS.kind];rfl
 rw[hL] at u4;refine GC (s:={ s₀ with heap:=h4,toks:=tk4 }) hst4 KS.frames hCf hL x4 ex4 u4 fun h5 k5 x5 u5=>?_;refine e1a2 x5.ns fun m0 hns5 _=>?_;refine wpAny_nameGoes (s:={ s₀ with heap:=h5,toks:=tk4 }) l2 hns5 hpz fun h6 m6 hn6 hs6=>?_;have x6:=x5.lose KS.own hs6 hn6;have u6:=u5.lose x5 ex4 hs6;have u6':=u6;obtain⟨o,vs,T,oT,ts,he,hd,h1,_⟩:=u6';unfold PySem.passOn;refine wpAny_bind (wpAny_field he hd h1 ?_);rw[if_neg (by simp),hL];refine wpAny_bind (CC (s:={ s₀ with heap:=h6,toks:=tk4+1 }) (L:=some L) x6.1 ex4 u6 fun h7 k7 x7 u7=>wpAny_throw (fin _ _ ?_));exact⟨h7,_,e4,st4,n4,at4,[],σ4,δ4,rfl,rfl,(((k0.trans k4).trans k5).trans x6.2).trans k7,x7,ex4,hst4,hL▸.here L rfl u7,q4⟩
end
namespace OkS
section
variable {nm:List Str} {kd:Str->Option NameKind}
theorem try0 {b k b1 g gp h0 hr hp q} (h1:g=("Raised" : Str)) (h2:okG kd g=true) (h3:OkB nm kd 0 b b1) (h4:OkB nm kd 1 k (h0::hr)):OkS nm kd 0 (.try0 b k) (.Try b1 [.ExceptHandler (some (.Name g gp)) none (h0::hr) hp] [] [] q):=fun p C A Γ hd M hn hk P m σ δ s Q E xs hw=>by
 subst hn hk;refine KB (h3 p C A Γ hd M rfl rfl P) xs hw fun x s' z=>M6 M.KS z fun h' tk e st n at_ m' σ' δ' hx ki x' ex hst u q=>?_;subst hx;refine wpAny_handleBy_cons (codeAny_handlers_test (M.glob (s:={ s with heap:=h',toks:=tk }) _ h1 h2 x' (Fz (s:={ s with heap:=h',toks:=tk }) M.N x' ex ?_))) (fun z=>nomatch z);refine codeAny_handlers_suite (CC (s:={ s with heap:=h',toks:=tk }) (L:=none) x' ex u fun h2 k2 x2 u2=>?_);exact wpAny_mono (h4 p C _ Γ (some e) (M.mark e) rfl rfl P m' σ' δ' { s with heap:=h2,toks:=tk } _ _ x2 q) (fun f s' z=>z.from (ki.trans k2)) fun x s' z=>Ey (M.KS.mark _) (z.from (ki.trans k2))
theorem try1 {b n k b1 g gp nx h0 hr hp q} (hx:B5 nm kd n nx=true) (h1:g=("Raised" : Str)) (h2:okG kd g=true) (h3:OkB nm kd 0 b b1) (h4:OkB nm kd 1 k (h0::hr)):OkS nm kd 0 (.try1 b n k) (.Try b1 [.ExceptHandler (some (.Name g gp)) (some nx) (h0::hr) hp] [] [] q):=fun p C A Γ hd M hn hk P m σ δ s Q E xs hw=>by
 subst hn hk;have l:=Ft hx;have hpz:(C.env.scope.kind==.class||(C.env.scope.kind==.module&&C.env.locals != C.env.globals))=false:=by rw[M.KS.kind];rfl
 refine KB (h3 p C A Γ hd M rfl rfl P) xs hw fun x s' z=>M6 M.KS z fun h' tk e st na at_ m' σ' δ' hx' ki x' ex hst u q=>?_;subst hx';refine wpAny_handleBy_cons (codeAny_handlers_test (M.glob (s:={ s with heap:=h',toks:=tk }) _ h1 h2 x' (Fz (s:={ s with heap:=h',toks:=tk }) M.N x' ex ?_))) (fun z=>nomatch z);refine codeAny_handlers_suite_as (CC (s:={ s with heap:=h',toks:=tk }) (L:=none) x' ex u fun h2 k2 x2 u2=>?_);refine Gi (s:=s) (tk:=tk) (v:=.ref e) (M.KS.mark _) (ki.trans k2) x2 hx (.ref e) fun h3 tk3 k3 _ x3=>?_;refine wpAny_mono (h4 p C _ Γ (some e) (M.mark e) rfl rfl P _ σ' δ' { s with heap:=h3,toks:=tk3 } _ _ x3 q) (fun f s' z=>z.casesOn fun h4 tk4 fl m4 σ4 δ4 e4 k4 fr x4 q4=>?_) fun x s' z=>R7 (s₀:=s) (M.KS.mark _) l.2 k3 z _ fun x s' z=>Ey (M.KS.mark _) z;subst e4;refine e1a2 x4.ns fun m0 hns4 _=>?_;refine wpAny_nameGoes (s:={ s with heap:=h4,toks:=tk4 }) l.2 hns4 hpz fun h5 m5 hn5 hs5=>?_;have x5:=x4.lose M.KS.own hs5 hn5;exact⟨h5,_,fl,[],σ4,δ4,rfl,(k3.trans k4).trans x5.2,fr.inert x5.2,x5.1,q4⟩
end
end OkS
end
section
section
variable {p:Prm} {C:Ctx} {P:Heap} {A:Around} {Γ:Bool->Gam} {hd:Option Nat} {m:Loc} {σ:Store} {δ:Nat->Nat} {h h':Heap} {s:Shared} {h₁:Heap} {tk₁:Nat}
set_option backward.match.sparseCases true in
theorem Ke:∀{e:Expr},Bm e=true->(match e with | .Starred ..=>true | _=>false)=false:=by
 intro e h;cases e <;> first | rfl | exact xFT h
theorem JQ {a b:Str} {pa pb tp vp:Pos} {k kk:Nat} {e1 e2:Expr} {env:Env} (hk:env.scope.kind=.function) (ha:env.kindOf a=some .local) (hb:env.kindOf b=some .local) (hab:a≠b) (hp:pa.line=pb.line) (n1:Bm e1=true) (n2:Bm e2=true)
  (f:(foldedForSure 8 e1&&foldedForSure 8 e2)=false) (c:(constantsAlone 8 e1&&constantsAlone 8 e2)=false):swappedStores [.Tuple [.Name a pa,.Name b pb] k tp] (.Tuple [e1,e2] kk vp) env=pure (some [a,b]):=by
 have bk:env.blockKind=.function:=by unfold Env.blockKind;rw[hk];rfl
 have e2':(b==a)=false:=by rw[beq_eq_false_iff_ne];exact fun z=>hab z.symm
 have fm:([.Name a pa,.Name b pb]:List Expr).filterMap (fun | .Name id pos=>if env.kindOf id==some .local&&pos.line==pa.line then some id else none | _=>none)=[a,b]:=by
  have f1:(if env.kindOf a==some .local&&pa.line==pa.line then some a else none)=some a:=if_pos (by rw[ha];simp);have f2:(if env.kindOf b==some .local&&pb.line==pa.line then some b else none)=some b:=if_pos (by rw[hb,hp];simp);exact(List.filterMap_cons_some (by exact f1)).trans (congrArg (a::·) (List.filterMap_cons_some (by exact f2)))
 have ed:[a,b].eraseDups=[a,b]:=by
  simp[List.eraseDups,List.eraseDupsBy,List.eraseDupsBy.loop,e2']
 unfold swappedStores;dsimp only;refine(if_neg (by simp[bk])).trans ?_;refine(if_neg ?_).trans ?_
 ·have h1:=Ke n1;have h2:=Ke n2;intro z;rw[List.any_cons,List.any_cons,List.any_nil,Bool.or_false,Bool.or_eq_true] at z;rcases z with z | z
  ·exact absurd (h1.symm.trans z) (by decide)
  ·exact absurd (h2.symm.trans z) (by decide)
 refine(if_neg ?_).trans ?_
 ·intro z;rw[Bool.or_eq_true] at z;rcases z with z | z
  ·refine absurd (z.symm.trans (congrArg (fun (l:List Str)=>(l.length != 2)) fm)) (fun z=>Bool.noConfusion z)
  ·refine absurd (z.symm.trans (congrArg (fun (l:List Str)=>(l.eraseDups.length != l.length)) fm)) (by rw[ed];exact fun z=>Bool.noConfusion z)
 refine(if_neg (by rw[List.all_cons,List.all_cons,List.all_nil,Bool.and_true,f];decide)).trans ?_;refine(if_neg (by rw[List.all_cons,List.all_cons,List.all_nil,Bool.and_true,c];decide)).trans ?_;exact congrArg (fun z=>(pure (some z):Sem (Option (List Str)))) fm
end
noncomputable def SP (vs:List V) (R:V->V->Prop):Prop:=match vs with
 | [a,b]=>R a b
 | _=>False
theorem RG {R:V->V->Prop} (h:SP vs R):∃a b,vs=[a,b]/\R a b:=by
 cases vs with
 | nil=>exact False.elim h
 | cons a l=>cases l with
  | nil=>exact False.elim h
  | cons b l=>cases l with
   | nil=>exact BD a b rfl h
   | cons=>exact False.elim h
namespace OkS
section
variable {nm:List Str} {kd:Str->Option NameKind}
theorem swp {i j x y a pa b pb k tp e1 e2 kk vp q} (h1:B5 nm kd i a=true) (h2:B5 nm kd j b=true) (h3:i≠j) (h4:a≠b) (h5:pa.line=pb.line) (h6:Bm e1=true) (h7:Bm e2=true) (h8:(foldedForSure 8 e1&&foldedForSure 8 e2)=false) (h9:(constantsAlone 8 e1&&constantsAlone 8 e2)=false)
  (h10:OkE nm kd x e1) (h11:OkE nm kd y e2):OkS nm kd 0 (.swp i j x y) (.Assign [.Tuple [.Name a pa,.Name b pb] k tp] (.Tuple [e1,e2] kk vp) q):=fun p C A Γ hd M hn hk P m σ δ s Q E xs hw=>by
 subst hn hk;have gl:GL p C P A (Γ hd.isSome) (.cons x (.cons y .nil)) [e1,e2]:=Ok.kcons h6 h10 (Ok.kcons h7 h11 Ok.knil) p C A _ M.amb rfl rfl (fun _=>M.free) P;have tv:wpAny (model p.prog p.w) A (eval (.Tuple [e1,e2] kk vp) C.env) (PV p C P m s fun v σ'=>∃v1 v2,v=.tup [v1,v2]/\Q .next ((List.set m i (some v1)).set j (some v2)) σ') (PE p C P m s fun e σ'=>E e m σ') s:=by
  refine Tuple_ (bindL (gl.l m σ δ s (fun vs σ'=>SP vs fun v1 v2=>Q .next ((List.set m i (some v1)).set j (some v2)) σ') _ _ xs hw) fun ws h' tk vs σ' δ' ki rr x' q=>?_);refine Be (RG q) fun v1 v2 z1_ q=>?_;subst z1_;have:=rr.length;have line:=Br;refine wpAny_newTuple ?_ (by unfold LIM at line;simp only[List.length_cons,List.length_nil] at this;exact lin 2 0 [.e Z0 (.a (.a (.c 0) (.c 1)) (.c 1)),.l (.c 8000000) Z1] (.l Z0 Z1) [[1,0,1,1]] R0 _ _ this line);exact(PV.here (s:={ s with heap:=h',toks:=tk }) x' (Aw _ _) (.tup (B9 _ (Heap.get?_push_size _ rfl) rfl ⟨_,rfl⟩) (rr.keeps (Aw _ _))) (BD v1 v2 rfl q)).from ki
 have hs:swapsWithSole [.Tuple [.Name a pa,.Name b pb] k tp] (.Tuple [e1,e2] kk vp) q.line C.env=pure false:=rfl;refine Assign_Tuple_swapped (names:=[a,b]) (G1 tv fun w h' tk v σ' δ' ki rr x' q=>?_) hs (JQ M.KS.kind (Ft h1).2 (Ft h2).2 h4 h5 h6 h7 h8 h9);obtain⟨v1,v2,rfl,q⟩:=q;refine rr.e_tup fun ad ws ht hs=>?_;obtain⟨u1,q1,rfl,ra,hs⟩:=(show ∃u q,ws=u::q/\Rel h' u _/\Rels h' q _ from hs.inv);obtain⟨u2,q2,rfl,rb,hs⟩:=(show ∃u q,q1=u::q/\Rel h' u _/\Rels h' q _ from hs.inv);obtain rfl:q2=[]:=hs.inv;refine unpackItems_tuple (s:={ s with heap:=h',toks:=tk }) (items:=#[_,_]) M.free ht fun h2' he=>?_;have k4:∀b o,h'.get? b=some o->h2'.get? b=some o:=fun b o e=>he b o (fun z=>by rw[z,Bd] at e;cases e) e;refine assignInOrder_cons (wpAny_bindName (Gi (s:=s) M.KS (ki.trans (.of_keeps k4)) (x'.keeps k4) h2 (rb.keeps k4) fun h3' tk3 ki3 k3 x3=>?_));refine assignInOrder_cons (wpAny_bindName (Gi (s:=s) M.KS ki3 x3 h1 ((ra.keeps k4).inert k3) fun h4' tk4 ki4 _ x4=>assignInOrder_nil ?_));rw[List.set_comm _ _ (fun z=>h3 z.symm)] at x4;exact .next ki4 x4 q
end
end OkS
end
section
structure OkSC (nm:List Str) (kd:Str->Option NameKind) (b:Nat) (x:SS) where
 s:∀st,Ck (OkS nm kd b x st)
 l:∀l,Ck (OkB nm kd b x l)
section
variable {nm:List Str} {kd:Str->Option NameKind} {b:Nat} {x:SS}
noncomputable def OkSC.ofS (f:∀st,Ck (OkS nm kd b x st)):OkSC nm kd b x:=⟨f,fun _=>none⟩
noncomputable def OkSC.out (f:∀st,Ck (OkS nm kd 0 x st)):OkSC nm kd b x:=match b with
 | 0=>.ofS f
 | _+1=>.ofS fun _=>none
end
section
variable {P:Stmt->Type}
@[elab_as_elim] noncomputable def Ln (e:Stmt) (d:P e) (f:∀l e p,P (.Assign l e p)):P e:=if h:e.ctorIdx=5 then Stmt.Assign.elim e h f else d
@[elab_as_elim] noncomputable def Oh (e:Stmt) (d:P e) (f:∀t o e p,P (.AugAssign t o e p)):P e:=if h:e.ctorIdx=7 then Stmt.AugAssign.elim e h f else d
@[elab_as_elim] noncomputable def SK (e:Stmt) (d:P e) (f:∀e p,P (.Expr e p)):P e:=if h:e.ctorIdx=24 then Stmt.Expr.elim e h f else d
@[elab_as_elim] noncomputable def QP (e:Stmt) (d:P e) (f:∀o p,P (.Return o p)):P e:=if h:e.ctorIdx=3 then Stmt.Return.elim e h f else d
@[elab_as_elim] noncomputable def SA (e:Stmt) (d:P e) (f:∀a b p,P (.Raise a b p)):P e:=if h:e.ctorIdx=16 then Stmt.Raise.elim e h f else d
@[elab_as_elim] noncomputable def UB (e:Stmt) (d:P e) (f:∀t a b p,P (.If t a b p)):P e:=if h:e.ctorIdx=12 then Stmt.If.elim e h f else d
@[elab_as_elim] noncomputable def SG (e:Stmt) (d:P e) (f:∀t a b p,P (.While t a b p)):P e:=if h:e.ctorIdx=11 then Stmt.While.elim e h f else d
@[elab_as_elim] noncomputable def Rd (e:Stmt) (d:P e) (f:∀t e a b p,P (.For t e a b p)):P e:=if h:e.ctorIdx=9 then Stmt.For.elim e h f else d
@[elab_as_elim] noncomputable def Rf (e:Stmt) (d:P e) (f:∀a b c d p,P (.Try a b c d p)):P e:=if h:e.ctorIdx=17 then Stmt.Try.elim e h f else d
@[elab_as_elim] noncomputable def QQ {P:ExceptHandler->Type} (g:ExceptHandler) (f:∀a b c p,P (.ExceptHandler a b c p)):P g:=match g with
 | .ExceptHandler a b c d=>f a b c d
end
noncomputable def SZ (nm:List Str) (kd:Str->Option NameKind) (x:SS):∀b,OkSC nm kd b x:=
 SS.rec (motive:=fun x=>∀b,OkSC nm kd b x)
 (fun b=>⟨fun _=>none,fun l=>D1 l none (.yes OkS.knil)⟩)
 (fun x y hx hy b=>⟨fun _=>none,fun l=>Jv l none fun s r=>((hx b).s s).and fun h1=>((hy b).l r).and fun h2=>.yes (OkS.kcons h1 h2)⟩)
 (fun i x b=>.ofS fun s=>Ln s none fun l e _=>Ee l none fun t=>BH t none fun n _=>(ck (B5 nm kd i n)).and fun h1=>(ck (CH e)).and fun h2=>((okc x nm kd).e e).and fun h3=>(ck (b==0||plX x)).and fun h4=>.yes (OkS.asg h1 h2 h3 h4))
 (fun i j x b=>.out fun s=>Ln s none fun l e _=>Ee l none fun t=>IH t none fun l _ _=>Ix l none fun a c=>BH a none fun n _=>BH c none fun m _=>(ck (B5 nm kd i n)).and fun h1=>(ck (B5 nm kd j m)).and fun h2=>(ck (CH e)).and fun h3=>(RJ e).and fun h4=>((okc x nm kd).e e).and fun h5=>.yes (OkS.asg2 h1 h2 h3 h4 h5))
 (fun i j x y b=>.out fun s=>Ln s none fun l e _=>Ee l none fun t=>IH t none fun l _ _=>Ix l none fun a c=>BH a none fun n pa=>BH c none fun m pb=>IH e none fun l _ _=>Ix l none fun e1 e2 =>
  (ck (B5 nm kd i n)).and fun h1=>(ck (B5 nm kd j m)).and fun h2=>(ckD (i≠j)).and fun h3=>(ckD (n≠m)).and fun h4=>(ckD (pa.line=pb.line)).and fun h5=>(ck (Bm e1)).and fun h6=>(ck (Bm e2)).and fun h7 =>
  (ckD ((foldedForSure 8 e1&&foldedForSure 8 e2)=false)).and fun h8=>(ckD ((constantsAlone 8 e1&&constantsAlone 8 e2)=false)).and fun h9=>((okc x nm kd).e e1).and fun h10=>((okc y nm kd).e e2).and fun h11=>.yes (OkS.swp h1 h2 h3 h4 h5 h6 h7 h8 h9 h10 h11))
 (fun o n x b=>.ofS fun s=>Ln s none fun l e _=>Ee l none fun t=>Hl t none fun oe g _=>(ckD (g=S n)).and fun h1=>(ckD (n∈attrNames)).and fun h2=>(ck (CH e)).and fun h3=>((okc x nm kd).e e).and fun h4=>((okc o nm kd).e oe).and fun h5=>(ck (b==0||plX x)).and fun h6=>(ck (b==0||plX o)).and fun h7=>.yes (OkS.setA h1 h2 h3 h4 h5 h6 h7))
 (fun o k x b=>.out fun s=>Ln s none fun l e _=>Ee l none fun t=>MK t none fun oe ie _=>(ck (CH e)).and fun h3=>((okc x nm kd).e e).and fun h4=>((okc o nm kd).e oe).and fun h5=>((okc k nm kd).e ie).and fun h6=>.yes (OkS.setI h3 h4 h5 h6))
 (fun i op x b=>.out fun s=>Oh s none fun t o e _=>BH t none fun n _=>(ck (B5 nm kd i n)).and fun h1=>(ckD (op=.add∨op=.sub)).and fun h3=>(ckD (o=Iw op)).and fun h4=>((okc x nm kd).e e).and fun h5=>.yes (OkS.aug h1 h3 h4 h5))
 (fun o n op x b=>.out fun s=>Oh s none fun t q e _=>Hl t none fun oe g _=>(ckD (g=S n)).and fun h1=>(ckD (n∈attrNames)).and fun h2=>(ckD (op=.add)).and fun h3=>(ckD (q=Iw op)).and fun h4=>((okc x nm kd).e e).and fun h5=>((okc o nm kd).e oe).and fun h6=>.yes (OkS.augA h1 h2 h3 h4 h5 h6))
 (fun o k op x b=>.out fun s=>Oh s none fun t q e _=>MK t none fun oe ie _=>(ck (Eg ie)).and fun h1=>(ckD (op=.add)).and fun h3=>(ckD (q=Iw op)).and fun h4=>((okc x nm kd).e e).and fun h5=>((okc o nm kd).e oe).and fun h6=>((okc k nm kd).e ie).and fun h7=>.yes (OkS.augI h1 h3 h4 h5 h6 h7))
 (fun x b=>.ofS fun s=>SK s none fun e _=>(ck (CH e)).and fun h1=>((okc x nm kd).e e).and fun h2=>(ck (b==0||plX x)).and fun h3=>.yes (OkS.expr h1 h2 h3))
 (fun x b=>.ofS fun s=>QP s none fun o _=>onO o none fun e=>((okc x nm kd).e e).and fun h3=>(ck (b==0||plX x)).and fun h4=>.yes (OkS.ret h3 h4))
 (fun b=>.ofS fun s=>QP s none fun o _=>onO o (.yes OkS.ret0) fun _=>none)
 (fun x b=>.ofS fun s=>SA s none fun o c _=>onO o none fun e=>onO c (((okc x nm kd).e e).and fun h3=>(ck (b==0||plX x)).and fun h4=>(ckD (b≠2)).and fun h0=>.yes (OkS.raise h0 h3 h4)) fun _=>none)
 (fun c x y hx hy b=>.ofS fun s=>UB s none fun t b1 b2 _=>(ck (okT t)).and fun h1=>((okc c nm kd).e t).and fun h2=>(ck (b==0||plX c)).and fun h5=>((hx b).l b1).and fun h3=>((hy b).l b2).and fun h4=>.yes (OkS.kite h1 h2 h5 h3 h4))
 (fun c x hx b=>.out fun s=>SG s none fun t b1 b2 _=>D1 b2 none <| (ck (okT t)).and fun h1=>((okc c nm kd).e t).and fun h2=>((hx 0).l b1).and fun h3=>.yes (OkS.whl h1 h2 h3))
 (fun i x y hy b=>.out fun s=>Rd s none fun t e b1 b2 _=>D1 b2 none <| BH t none fun n _=>(ck (B5 nm kd i n)).and fun h1=>(ck (CS e)).and fun h2=>((okc x nm kd).e e).and fun h3=>((hy 0).l b1).and fun h4=>.yes (OkS.for1 h1 h2 h3 h4))
 (fun i j x y hy b=>.out fun s=>Rd s none fun t e b1 b2 _=>D1 b2 none <| IH t none fun l _ _=>Ix l none fun a c=>BH a none fun n _=>BH c none fun m _=>(ck (B5 nm kd i n)).and fun h1=>(ck (B5 nm kd j m)).and fun h1'=>(ck (CS e)).and fun h2=>((okc x nm kd).e e).and fun h3=>((hy 0).l b1).and fun h4=>.yes (OkS.for2 h1 h1' h2 h3 h4))
 (fun x y hx hy b=>.out fun s=>Rf s none fun b1 hs c d _=>D1 c none <| D1 d none <| Ee hs none fun hn=>QQ hn fun t nx hb _=>onO t none fun t=>BH t none fun g _=>onO nx (Jv hb none fun h0 hr=>(ckD (g=("Raised" : Str))).and fun h1=>(ck (okG kd g)).and fun h2=>((hx 0).l b1).and fun h3=>((hy 1).l (h0::hr)).and fun h4=>.yes (OkS.try0 h1 h2 h3 h4)) fun _=>none)
 (fun x n y hx hy b=>.out fun s=>Rf s none fun b1 hs c d _=>D1 c none <| D1 d none <| Ee hs none fun hn=>QQ hn fun t nx hb _=>onO t none fun t=>BH t none fun g _=>onO nx none fun nx=>Jv hb none fun h0 hr=>(ck (B5 nm kd n nx)).and fun hx'=>(ckD (g=("Raised" : Str))).and fun h1=>(ck (okG kd g)).and fun h2=>((hx 0).l b1).and fun h3=>((hy 1).l (h0::hr)).and fun h4=>.yes (OkS.try1 hx' h1 h2 h3 h4))
 (fun b=>.ofS fun _=>.yes OkS.dead) x
end
section
structure FdOk (p:Prm) (f:F) (nm:List Str) (ar:Nat) (body:SS) (o:Obj) (fd:FuncData) (stmts:List Stmt):Prop where
 at_:p.base.get? (p.fn f)=some o
 data:o.data=.func fd
 bod:fd.body=.stmts stmts
 code:p.base.CodeRec fd.code fd.qualname
 glob:fd.globals=mainGlobals
 blt:fd.builtins=builtinsNs
 co:fd.scope.isCoroutine=false
 gen:fd.scope.isGenerator=false
 kind:fd.scope.kind=.function
 ok0:OkB nm (fun n=>fd.scope.names.lookup n) 0 body stmts
 nodup:nm.Nodup
 le:ar<=nm.length
inductive FunAt (p:Prm) (f:F) (nm:List Str) (ar:Nat) (body:SS) (pl:Bool) (pad:List V->Option (List V)):Prop
 | mk (o:Obj) (fd:FuncData) (stmts:List Stmt):FdOk p f nm ar body o fd stmts->(∀x∈fd.scope.names,x.2≠.cell)->(∀n∈nm.take ar,fd.scope.names.lookup n=some .local)->(pl=true->OkB nm (fun n=>fd.scope.names.lookup n) 2 body stmts) ->
  (∀(s:Shared) (ws:List Value) (vs vs':List V),p.base.StaysIn s.heap->Rels s.heap ws vs->pad vs=some vs'->∃ws',Rels s.heap ws' vs'/\ws'.length=ar/\BindsTo s fd ⟨ws,[]⟩ ((nm.take ar).zip ws'))->FunAt p f nm ar body pl pad
noncomputable def Iy (Q:QV) (fl:Fl) (_:Loc) (σ:Store):Prop:=match fl with
 | .ret v=>Q v σ
 | _=>Q .none σ
section
variable {p:Prm} {A:Around}
theorem HX {β:Type}:∀(ns:List Str) (ws:List β),ns.Nodup->ns.length=ws.length->∀(i:Nat) (n:Str),ns[i]?=some n->∃w,ws[i]?=some w/\(ns.zip ws).reverse.lookup n=some w:=by
 have aux:∀(ns:List Str) (ws:List β) (n:Str),n∉ns->(ns.zip ws).reverse.lookup n=none:=by
  intro ns ws n hn;rw[List.lookup_eq_none_iff];intro x hx;rw[List.mem_reverse] at hx;have:=(List.of_mem_zip (a:=x.1) (b:=x.2) hx).1;simp only[bne_iff_ne,ne_eq];intro z;subst z;exact hn this
 intro ns;induction ns with
 | nil=>intro ws _ _ i n h;simp at h
 | cons a ns ih =>
  intro ws hn hl i n h;cases ws with
  | nil=>cases hl
  | cons w ws =>
   rw[List.nodup_cons] at hn;rw[List.zip_cons_cons,List.reverse_cons];cases i with
   | zero =>
    simp at h;subst h;refine Ai w rfl ?_;rw[List.lookup_append,aux ns ws a hn.1];simp
   | succ i =>
    refine e1a2 (ih ws hn.2 (by simpa using hl) i n (by simpa using h)) fun u h1 h2=>?_;refine Ai u (by simpa using h1) ?_;rw[List.lookup_append,h2];rfl
theorem Dq {env:Env} {frs:List Env} (h:A.frames=some frs):(A.deeper env).frames=some (env::frs):=by
 show Option.map _ A.frames=_;rw[h];rfl
noncomputable def HF (env:Env) (frs:List Env) (rcd:List (Option Obj)) (nm:List Str):Ctx:=⟨env,env::frs,none::rcd,nm⟩
theorem GR {P:Heap} {δ:Nat->Nat} {h h₀:Heap} {env:Env} {frs:List Env} {rcd:List (Option Obj)} {nm:List Str} {ar:Nat} {ws:List Value} {mm:Str->Option Value} (hb:p.base.StaysIn P) (hP:P.StaysIn h) (hfr:FrOk h P frs rcd) (hr:Rep p σ δ h) (ho:Off P frs σ δ)
  (hL:h.get? env.locals=none) (hf:env.frame=some env.locals) (hk:env.scope.kind=.function) (keep:∀b o,h.get? b=some o->h₀.get? b=some o) (hns:h₀.Ns env.locals mm) (r:Rels h ws vs) (hlen:ws.length=ar)
  (hn:∀(i:Nat) (x:Str) (w:Value),(nm.take ar)[i]?=some x->ws[i]?=some w->(env.kindOf x=some .local/\mm x=some w)∨((env.kindOf x=some .cell∨env.kindOf x=some .free)/\∃ca o,env.cells.lookup x=some ca/\h₀.get? ca=some o/\o.data=.cell (some w)/\BS o)) :
  St p (HF env frs rcd nm) P (vs.map some++List.replicate (nm.length - ar) none) σ δ h₀:=by
 have hLP:P.get? env.locals=none:=Hp hP hL;refine e3a2 (Ns.dict hns) fun oL es ep ho' hd'=>?_;refine⟨hb,fun b o e=>keep _ _ (hP b o e),.cons (by rw[hk];intro z;cases z) hf hLP ho' hd' (fun o' z=>by exact xNS z) (hfr.keeps fun b _=>keep b),(Ai _ hns (fun i x v hi hv=>?_)),hLP,hr.keeps keep,fun b fb=>?_⟩
 ·have lv:=r.length;by_cases hi':i < vs.length
  ·rw[List.getElem?_append_left (by rw[List.length_map];exact hi'),List.getElem?_map] at hv;refine e1a2 (Option.map_eq_some_iff.mp hv) fun u hv' e=>?_;obtain rfl:=Option.some.inj e;have hia:(nm.take ar)[i]?=some x:=by rw[List.getElem?_take,if_pos (by exact lin 4 0 [.e Z0 Z1,.e Z0 Z2,.t Z3 Z1] (.t Z3 Z2) [[0,1,1,0,1,1]] R0 _ _ _ _ lv hlen hi')];exact hi
   refine e1a2 (r.get hv') fun w hw1 hw2=>?_;exact Ai w (hw2.keeps keep) (hn i x w hia hw1)
  ·rw[List.getElem?_append_right (by rw[List.length_map];exact Nat.le_of_not_lt hi'),List.getElem?_replicate] at hv;split at hv <;> (first | exact xNS hv | exact xNS (xSS hv))
 ·have z:=ho b fb;refine e1a2 (fb.there hr) fun ob hob _=>?_;have hne:b≠env.locals:=fun z=>by rw[z,hL] at hob;exact xNS hob
  refine Bk z.1 (fun y=>?_) hne;rw[show (HF env frs rcd nm).frs=env::frs from rfl,DL hf] at y;exact(List.mem_cons.mp y).elim hne z.2
theorem FrOk.tail {h P:Heap} {e:Env} {l:List Env} {q:Option Obj} {qs:List (Option Obj)} (x:FrOk h P (e::l) (q::qs)):FrOk h P l qs:=by
 cases x with
 | cons _ _ _ _ _ _ t=>exact t
set_option backward.match.sparseCases true in
theorem Mx {md:Nat} {Γ:Bool->Gam} {env:Env} {frs:List Env} {rcd:List (Option Obj)} {nm:List Str} {kd:Str->Option NameKind} {P:Heap} {body:SS} {stmts:List Stmt} {δ:Nat->Nat} {h₀:Heap} {s:Shared} {tk:Tok} (M:AmbS p (HF env frs rcd nm) (A.deeper env) Γ none md) (hL:env.frame=some env.locals)
  (ok:OkB nm kd md body stmts) (hk:env.kindOf=kd) (fr:(A.deeper env).frames=some (env::frs)) (st:St p (HF env frs rcd nm) P m σ δ h₀) (hw:ws Γ none body m σ (Iy Q) (fun e _ σ'=>E e σ')) :
  wpAny (model p.prog p.w) (A.deeper env) (execs stmts env) (fun f s'=>back (CV p P frs rcd s Q) (CE p P frs rcd s E) (.ok (.ret (match f with | .ret v=>v | _=>.none))) s')
   (fun e s'=>wpAny (model p.prog p.w) (A.deeper env) (leaving env e) (fun _ s''=>back (CV p P frs rcd s Q) (CE p P frs rcd s E) (.error e) s'') (fun e' s''=>back (CV p P frs rcd s Q) (CE p P frs rcd s E) (.error e') s'') s') { s with heap:=h₀,toks:=tk }:=by
 have tl:∀{h:Heap},FrOk h P (env::frs) (none::rcd)->FrOk h P frs rcd:=FrOk.tail;have off:∀{σ':Store} {δ':Nat->Nat} {h:Heap} {m':Loc},St p (HF env frs rcd nm) P m' σ' δ' h->Off P frs σ' δ':=fun x b fb=>⟨(x.off b fb).1,fun z=>(x.off b fb).2.1 (by rw[show (HF env frs rcd nm).frs=env::frs from rfl,DL hL];exact .tail _ z)⟩;refine wpAny_mono (ok p _ _ Γ none M rfl hk P _ σ δ { s with heap:=h₀,toks:=tk } _ _ st hw) (fun f s' z=>z.casesOn fun h' tk fl m' σ' δ' e ki fR x' q=>?_) fun x s' z=>z.casesOn fun h' tk e est n at_ m' σ' δ' ex es ki x' ee hst u q=>?_
 ·subst e;cases fR with
  | ret r=>exact⟨h',tk,_,σ',δ',rfl,r,x'.stays,tl x'.frs,x'.rep,off x',q⟩
  | _=>exact⟨h',tk,.none,σ',δ',rfl,.none,x'.stays,tl x'.frs,x'.rep,off x',q⟩
 ·subst ex es;rw[show (HF env frs rcd nm).env.frame=some env.locals from hL] at u;refine wpAny_bind (GC (s:={ s with heap:=h',toks:=tk }) hst fr (show (HF env frs rcd nm).frs=(HF env frs rcd nm).env::frs from rfl) (L:=env.locals) hL x' ee u fun h2 k2 x2 u2=>?_);exact CC (s:={ s with heap:=h2,toks:=tk }) (L:=none) x2 ee u2 fun h3 k3 x3 u3=>⟨h3,tk,e,est,n,at_,σ',δ',rfl,rfl,x3.stays,tl x3.frs,x3.rep,off x3,ee,hst,.old u3,q⟩
theorem Ms {f:F} {nm:List Str} {ar:Nat} {body:SS} {fd:FuncData} {stmts:List Stmt} {env:Env} {frs:List Env} {rcd:List (Option Obj)} {P h:Heap} (F:FdOk p f nm ar body o fd stmts) (hu:A.units+110 < cLine) (hd:A.depth+11 < recursionLimit) (hf:A.frames=some frs) (hfr:FrOk h P frs rcd)
  (hL:h.get? env.locals=none) (hfL:env.frame=some env.locals) (hk:env.scope.kind=.function) (hg:env.globals=mainGlobals) (hbl:env.builtins=builtinsNs):CtxS p (HF env frs rcd nm) (A.deeper env):=by
 refine⟨⟨Dq hf,hk,hg,hbl,(Ai env.locals hfL (by rw[show (HF env frs rcd nm).frs=env::frs from rfl,DL hfL];exact .head _)),?_,?_⟩,?_,F.nodup,⟨frs,rfl⟩⟩
 ·show A.units+3+100 < _;exact lin 2 0 [.t (.a Z0 (.c 110)) Z1] (.t (.a (.a Z0 (.c 3)) (.c 100)) Z1) [] R0 _ _ hu
 ·show A.depth+1+10 < _;assumption
 ·intro j env' q' hj hq' hfm;cases j with
  | zero=>obtain rfl:=xSS hq';rfl
  | succ j =>
   have hm:env.locals∈fa frs:=List.mem_filterMap.mpr ⟨env',List.mem_of_getElem? (show frs[j]?=some env' from hj),hfm⟩;refine An (hfr.mem hm) fun _ z1_=>?_;refine e3a2 z1_ fun o' _ _ e' _=>?_;clear z1_;rw[hL] at e';exact xNS e'
theorem entry {f:F} {nm:List Str} {ar:Nat} {body:SS} {pl:Bool} {pad:List V->Option (List V)} {Γ:Bool->Gam} {md:Nat} (hnl:p.base.NoLimit) (fa_:FunAt p f nm ar body pl pad)
  (hu:A.units+110 < cLine) (hd:A.depth+11 < recursionLimit) (hm:md=0∨md=2/\pl=true)
  (amb:∀(env:Env) (C:Ctx),CtxS p C (A.deeper env)->AmbS p C (A.deeper env) Γ none md) :
  SatAt p A f fun vs σ Q E=>∃vs',pad vs=some vs'/\ws Γ none body (vs'.map some++List.replicate (nm.length - ar) none) σ (Iy Q) (fun e _ σ'=>E e σ'):=by
 intro frs rcd P σ δ s ws vs Q E hf hb hP hfr hq hr ho r ⟨vs',hpad,hw⟩;obtain⟨o,fd,stmts,F,h10,h14,hp2,hbind⟩:=fa_;have okb:OkB nm (fun n=>fd.scope.names.lookup n) md body stmts:=by
  rcases hm with rfl | ⟨rfl,z⟩
  ·exact F.ok0
  ·exact hp2 z
 have hbs:p.base.StaysIn s.heap:=fun b o e=>hP b o (hb b o e);refine B2 (hbind s ws vs vs' hbs r hpad) fun ws' r' hlen hB=>?_;have hL:s.heap.get? s.heap.objs.size=none:=Bd _;have le:=F.le;have hlen2:(nm.take ar).length=ws'.length:=by rw[List.length_take,hlen];exact U24 _ _ le
 refine codeAny_call_def (by exact U49 _ _ hd) (hbs _ _ F.at_) F.data (hnl.keeps hbs) (F.code.keeps hbs) F.bod hB h10 (fun x hx=>h14 _ (List.of_mem_zip (a:=x.1) (b:=x.2) hx).1) (fun h₀ hns keep=>?_) F.co F.gen F.kind;have st:=GR (env:=callEnv fd s.heap.objs.size (p.fn f)) hb hP hfr hr ho hL rfl F.kind keep hns r' hlen fun i x w hi hw=>by
  refine e1a2 (HX _ _ (F.nodup.sublist (List.take_sublist _ _)) hlen2 i x hi) fun w' hw3 hw4=>?_;rw[hw] at hw3;obtain rfl:=xSS hw3;exact .inl ⟨h14 x (List.mem_of_getElem? hi),hw4⟩
 exact Mx (amb _ _ (Ms F hu hd hf hfr hL rfl F.kind F.glob F.blt)) rfl okb rfl (Dq hf) st hw
end
end
section
theorem Jh {kd:Str->Option NameKind}:∀(ns:List Str) (ws:List Value) (m:Str->Option Value) (n:Str),n∉ns->PySem.bindL kd (ns.zip ws) m n=m n/\bindC kd (ns.zip ws) m n=m n:=by
 intro ns;induction ns with
 | nil=>intro ws m n _;exact⟨rfl,rfl⟩
 | cons a ns ih =>
  intro ws m n hn;cases ws with
  | nil=>exact⟨rfl,rfl⟩
  | cons w ws =>
   rw[List.mem_cons,not_or] at hn;rw[List.zip_cons_cons];unfold PySem.bindL bindC;refine⟨(ih ws _ n hn.2).1.trans ?_,(ih ws _ n hn.2).2.trans ?_⟩ <;> split <;> first | rfl | exact if_neg hn.1
theorem RP {kd:Str->Option NameKind}:∀(ns:List Str) (ws:List Value) (m:Str->Option Value),ns.Nodup->ns.length=ws.length->∀(i:Nat) (n:Str),ns[i]?=some n->∃w,ws[i]?=some w/\(kd n=some .local->PySem.bindL kd (ns.zip ws) m n=some w)/\(kd n≠some .local->bindC kd (ns.zip ws) m n=some w):=by
 intro ns;induction ns with
 | nil=>intro ws m _ _ i n h;simp at h
 | cons a ns ih =>
  intro ws m hn hl i n h;cases ws with
  | nil=>cases hl
  | cons w ws =>
   rw[List.nodup_cons] at hn;rw[List.zip_cons_cons];unfold PySem.bindL bindC;cases i with
   | zero =>
    simp at h;subst h;refine B9 w rfl (fun z=>?_) (fun z=>?_)
    ·rw[if_pos z,(Jh ns ws _ a hn.1).1];simp
    ·rw[if_neg z,(Jh ns ws _ a hn.1).2];simp
   | succ i =>
    refine B2 (ih ws (if kd a=some .local then fun y=>if y=a then some w else m y else m) hn.2 (by simpa using hl) i n (by simpa using h)) fun u h1 h2 h3=>?_;refine B2 (ih ws (if kd a=some .local then m else fun y=>if y=a then some w else m y) hn.2 (by simpa using hl) i n (by simpa using h)) fun u' h1' h2' h3'=>?_;rw[h1] at h1';obtain rfl:=xSS h1';exact B9 u (by simpa using h1) h2 h3'
inductive FunAtC (p:Prm) (f:F) (nm:List Str) (ar:Nat) (body:SS) (pl:Bool):Prop
 | mk (o:Obj) (fd:FuncData) (stmts:List Stmt):FdOk p f nm ar body o fd stmts->fd.closure=[]->(∀n∈nm.take ar,fd.scope.names.lookup n=some .local∨(fd.scope.names.lookup n=some .cell/\∀L,((cellsFrom L fd.scope.names []).lookup n).isSome=true))->(pl=true->OkB nm (fun n=>fd.scope.names.lookup n) 2 body stmts) ->
  (∀(ws:List Value),ws.length=ar->bindArgs fd ⟨ws,[]⟩=pure ((nm.take ar).zip ws))->FunAtC p f nm ar body pl
section
variable {p:Prm} {A:Around}
theorem LG {v:Option Value} (h:o.data=.cell v):BS o:=⟨.inr ⟨v,h⟩,fun es ep z=>by rw[h] at z;exact xDx z rfl⟩
theorem Sc {f:F} {nm:List Str} {ar:Nat} {body:SS} {pl:Bool} {Γ:Bool->Gam} {md:Nat} (hnl:p.base.NoLimit) (fa_:FunAtC p f nm ar body pl)
  (hu:A.units+110 < cLine) (hd:A.depth+11 < recursionLimit) (hm:md=0∨md=2/\pl=true)
  (amb:∀(env:Env) (C:Ctx),CtxS p C (A.deeper env)->AmbS p C (A.deeper env) Γ none md) :
  SatAt p A f fun vs σ Q E=>vs.length=ar/\ws Γ none body (vs.map some++List.replicate (nm.length - ar) none) σ (Iy Q) (fun e _ σ'=>E e σ'):=by
 intro frs rcd P σ δ s ws vs Q E hf hb hP hfr hq hr ho r ⟨hpad,hw⟩;obtain⟨o,fd,stmts,F,h10,h14,hp2,hbind⟩:=fa_;have okb:OkB nm (fun n=>fd.scope.names.lookup n) md body stmts:=by
  rcases hm with rfl | ⟨rfl,z⟩
  ·exact F.ok0
  ·exact hp2 z
 have hbs:p.base.StaysIn s.heap:=fun b o e=>hP b o (hb b o e);have hlen:ws.length=ar:=r.length.trans hpad;have hL:s.heap.get? s.heap.objs.size=none:=Bd _;have le:=F.le;have hlen2:(nm.take ar).length=ws.length:=by rw[List.length_take,hlen];exact U24 _ _ le
 refine codeAny_call_cells (by exact U49 _ _ hd) (hbs _ _ F.at_) F.data (hnl.keeps hbs) (F.code.keeps hbs) F.bod (hbind ws hlen) h10 (fun x hx=>(h14 _ (List.of_mem_zip (a:=x.1) (b:=x.2) hx).1).imp id fun z=>⟨z.1,z.2 _⟩) (fun s₁ ic=>?_) F.co F.gen F.kind;refine Be ic.done fun h₀ tk₀ z1_ keep=>?_;subst z1_;have st:=GR (env:=callEnvC fd s.heap.objs.size (p.fn f)) hb hP hfr hr ho hL rfl F.kind keep ic.toInCall.ns r hlen fun i x w hi hw=>by
  refine B2 (RP (kd:=(callEnvC fd s.heap.objs.size (p.fn f)).kindOf) _ _ (fun _=>none) (F.nodup.sublist (List.take_sublist _ _)) hlen2 i x hi) fun w' hw3 hwl hwc=>?_;rw[hw] at hw3;obtain rfl:=xSS hw3;rcases h14 x (List.mem_of_getElem? hi) with z | ⟨z,zc⟩
  ·exact .inl ⟨z,hwl z⟩
  ·refine Aq (Option.isSome_iff_exists.mp (zc (s.heap.objs.size+1))) fun ca hca=>?_;refine e1a2 (ic.cell x ca hca) fun oc e1 e2=>?_;rw[hwc (by rw[show (callEnvC fd s.heap.objs.size (p.fn f)).kindOf x=_ from z];intro q;exact xKx (xSS q) rfl)] at e2;exact .inr ⟨.inl z,Gz ca oc hca e1 e2 (LG e2)⟩
 exact Mx (amb _ _ (Ms F hu hd hf hfr hL rfl F.kind F.glob F.blt)) rfl okb rfl (Dq hf) st hw
end
end
section
noncomputable def plS:SS->Bool
 | .nil=>true
 | .ret0=>true
 | .cons a b=>plS a&&plS b
 | .asg _ x=>plX x
 | .expr x=>plX x
 | .ret x=>plX x
 | .setA o _ x=>plX o&&plX x
 | .ite c a b=>plX c&&(plS a&&plS b)
 | _=>false
noncomputable def Fy (f:F) (ar:Nat) (vs:List V):Option (List V):=match f,vs with
 | .raised_init,[a,b,c,d]=>some [a,b,c,d,.int 0,.int 0]
 | .sh_init,[a]=>some [a,.int 40,.none]
 | _,vs=>if vs.length=ar then some vs else none
noncomputable def SubS (a b:Store):Prop:=∀i c,a i=some c->b i=some c
theorem SubS.refl (a:Store):SubS a a:=fun _ _ h=>h
theorem SubS.trans {a b c:Store} (h:SubS a b) (k:SubS b c):SubS a c:=fun i x e=>k i x (h i x e)
inductive dropQ (Q:QV) (v:V) (σ:Store):Prop
 | mk (τ:Store):SubS τ σ->Q v τ->dropQ Q v σ
inductive IsExc (τ:Store) (e:Nat):Prop
 | mk (st n:Nat) (at_:List (T × V)):τ e=some (.exc st n at_)->1<=st->IsExc τ e
inductive dropE (E:QE) (e:Nat) (σ:Store):Prop
 | mk (τ:Store):SubS τ σ->IsExc τ e->E e τ->dropE E e σ
noncomputable def FL (Q:QV):QF:=fun fl _ σ=>Iy (dropQ Q) fl [] σ
noncomputable def Es (E:QE):EF:=fun e _ σ=>dropE E e σ
noncomputable def lev:Nat->Bool->Gam
 | 0=>fun _ _ _ _ _ _=>False
 | n+1=>fun b f vs σ Q E=>match C7 f with
  | none=>False
  | some fn=>(b=true->plS fn.body=true)/\∃vs',Fy f fn.arity vs=some vs' /\
    ws (fun c=>lev n (b||c)) none fn.body (vs'.map some++List.replicate (fn.names.length - fn.arity) none) σ (FL Q) (Es E)
structure Facts (p:Prm):Prop where
 K:POk p
 KA:AOk p
 N:NOk p
 nl:p.base.NoLimit
 fn:∀f x,C7 f=some x->FunAt p f x.names x.arity x.body (plS x.body) (Fy f x.arity)∨(FunAtC p f x.names x.arity x.body (plS x.body)/\∀vs vs',Fy f x.arity vs=some vs'->vs'=vs/\vs.length=x.arity)
section
variable {p:Prm} {A:Around}
theorem Off.sub {P:Heap} {frs:List Env} {σ τ:Store} {δ:Nat->Nat} (hs:SubS τ σ) (x:Off P frs σ δ):Off P frs τ δ:=fun b f=>x b (f.sub hs)
theorem SatAt.drop {f:F} {T:List V->Store->(QV)->(QE)->Prop} (h:SatAt p A f T):SatAt p A f fun vs σ Q E=>T vs σ (dropQ Q) (dropE E):=fun frs rcd P σ δ s ws vs Q E a1 a2 a3 a4 a5 a6 a7 a8 a9 =>
 codeAny_mono (h frs rcd P σ δ s ws vs _ _ a1 a2 a3 a4 a5 a6 a7 a8 a9) fun r s' z=>by
  cases r with
  | error e =>
   obtain⟨h',tk,e,st,n,at_,σ',δ',rfl,rfl,b,c,d,o,ee,es,u,τ,hs,⟨st',n',at',ee',es'⟩,q⟩:=z;exact⟨h',tk,e,st',n',at',τ,δ',rfl,rfl,b,c,d.sub hs,o.sub hs,ee',es',u,q⟩
  | ok fl =>
   cases fl <;> try exact False.elim z
   obtain⟨h',tk,v,σ',δ',rfl,a,b,c,d,e,τ,hs,q⟩:=z;exact⟨h',tk,v,τ,δ',rfl,a,b,c,d.sub hs,e.sub hs,q⟩
theorem SatAt.mono {f:F} {T T':List V->Store->(QV)->(QE)->Prop} (h:SatAt p A f T) (k:∀vs σ Q E,T' vs σ Q E->T vs σ Q E):SatAt p A f T':=
 fun frs rcd P σ δ s ws vs Q E a1 a2 a3 a4 a5 a6 a7 a8 a9=>h frs rcd P σ δ s ws vs Q E a1 a2 a3 a4 a5 a6 a7 a8 (k _ _ _ _ a9)
theorem Pu (Fa:Facts p) {f:F} {x:Fn} (hx:C7 f=some x) {Γ:Bool->Gam} {md:Nat} (hu:A.units+110 < cLine) (hd:A.depth+11 < recursionLimit) (hm:md=0∨md=2/\plS x.body=true)
  (amb:∀(env:Env) (C:Ctx),CtxS p C (A.deeper env)->AmbS p C (A.deeper env) Γ none md) :
  SatAt p A f fun vs σ Q E=>∃vs',Fy f x.arity vs=some vs'/\ws Γ none x.body (vs'.map some++List.replicate (x.names.length - x.arity) none) σ (FL Q) (Es E):=
 SatAt.drop (T:=fun vs σ Q E=>∃vs',Fy f x.arity vs=some vs'/\ws Γ none x.body (vs'.map some++List.replicate (x.names.length - x.arity) none) σ (fun fl _ σ'=>Iy Q fl [] σ') (fun e _ σ'=>E e σ')) (by
  rcases Fa.fn f x hx with h | ⟨h,hp⟩
  ·exact entry Fa.nl h hu hd hm amb
  ·refine SatAt.mono (Sc Fa.nl h hu hd hm amb) ?_;intro vs σ Q E z1_;refine e1a2 z1_ fun vs' h1 h2=>?_;clear z1_;refine An (hp _ _ h1) fun z2_ h3=>?_;subst z2_;exact⟨h3,h2⟩)
theorem Qq (Fa:Facts p):∀(n:Nat) (b:Bool) (A:Around),(b=false->A.handled=none)->A.depth+2*n+11 < recursionLimit->A.units+11*n+110 < cLine->∀f,SatAt p A f (lev n b f):=by
 intro n;induction n with
 | zero=>intro b A _ _ _ f frs rcd P σ δ s ws vs Q E _ _ _ _ _ _ _ _ h;exact h.elim
 | succ n ih =>
  intro b A hb hd hu f;have lv:lev (n+1) b f=fun vs σ Q E=>match C7 f with
   | none=>False
   | some fn=>(b=true->plS fn.body=true)/\∃vs',Fy f fn.arity vs=some vs' /\
    ws (fun c=>lev n (b||c)) none fn.body (vs'.map some++List.replicate (fn.names.length - fn.arity) none) σ (FL Q) (Es E):=rfl
  rw[lv];cases hx:C7 f with
  | none=>exact fun frs rcd P σ δ s ws vs Q E _ _ _ _ _ _ _ _ h=>False.elim h
  | some x =>
   by_cases hpl:b=true->plS x.body=true
   ·have gam:∀(c:Bool) (A' A'':Around),A''.depth<=A'.depth+1->A''.units<=A'.units+8->A'.depth=A.depth+1->A'.units=A.units+3->(c=false->A''.handled=none)->∀f,SatAt p A'' f (lev n c f):=
     fun c A' A'' h3 h4 d1 d2 hh f'=>ih c A'' hh (by exact lin 5 0 [.e Z0 (.a Z1 (.c 1)),.l Z2 (.a Z0 (.c 1)),.t (.a (.a Z1 (.m 2 (.a Z3 (.c 1)))) (.c 11)) Z4] (.t (.a (.a Z2 (.m 2 Z3)) (.c 11)) Z4) [[1,0,1,1,1]] R0 _ _ _ _ _ d1 h3 hd) (by exact lin 5 0 [.e Z0 (.a Z1 (.c 3)),.l Z2 (.a Z0 (.c 8)),.t (.a (.a Z1 (.m 11 (.a Z3 (.c 1)))) (.c 110)) Z4] (.t (.a (.a Z2 (.m 11 Z3)) (.c 110)) Z4) [[1,0,1,1,1]] R0 _ _ _ _ _ d2 h4 hu) f'
    cases b with
    | false =>
     have hh:=hb rfl;refine SatAt.mono (Pu (Γ:=fun c=>lev n (false||c)) (md:=0) Fa hx (by exact U50 _ _ _ hu) (by exact U51 _ _ _ hd) (.inl rfl) fun env C KS=>?_) fun vs σ Q E h=>h.2;exact⟨Fa.K,Fa.KA,Fa.N,KS,fun _=>hh,fun _=>hh,fun A' h1 h2 h3 h4 f'=>gam false (A.deeper env) A' h3 h4 rfl rfl (fun _=>h2.trans hh) f',fun e A' h1 h2 h3 h4 f'=>gam true ((A.deeper env).mark (some (.ref e))) A' h3 h4 rfl rfl (fun z=>nomatch z) f'⟩
    | true =>
     refine SatAt.mono (Pu (Γ:=fun c=>lev n (true||c)) (md:=2) Fa hx (by exact U50 _ _ _ hu) (by exact U51 _ _ _ hd) (.inr ⟨rfl,hpl rfl⟩) fun env C KS=>?_) fun vs σ Q E h=>h.2;exact⟨Fa.K,Fa.KA,Fa.N,KS,fun z=>(nomatch z),fun z=>absurd rfl z,fun A' h1 h2 h3 h4 f'=>gam true (A.deeper env) A' h3 h4 rfl rfl (fun z=>nomatch z) f',fun e A' h1 h2 h3 h4 f'=>gam true ((A.deeper env).mark (some (.ref e))) A' h3 h4 rfl rfl (fun z=>nomatch z) f'⟩
   ·exact fun frs rcd P σ δ s ws vs Q E _ _ _ _ _ _ _ _ h=>absurd h.1 hpl
end
end
section
noncomputable def Qc:NameKind->Bool
 | .cell=>true
 | _=>false
noncomputable def JP:List Str->Bool
 | []=>true
 | a::r=>!r.contains a&&JP r
noncomputable def isNone:Value->Bool
 | .none=>true
 | _=>false
theorem IK:∀{l:List Str},JP l=true->l.Nodup
 | [],_=>.nil
 | a::r,h=>by
  rw[JP,Bool.and_eq_true] at h;refine List.nodup_cons.mpr ⟨fun m=>?_,IK h.2⟩;have:=h.1;rw[List.contains_iff_mem.mpr m] at this;exact xFT this
theorem Ng {k:Value} (h:isNone k=true):k=.none:=by
 cases k <;> first | rfl | exact xFT h
noncomputable def BG (q:Arguments) (ns:List Str):Bool:=q.posonlyargs.isEmpty&&(q.args.map (·.arg)==ns)&&q.vararg.isNone&&q.kwonlyargs.isEmpty&&q.kwarg.isNone
structure FnRec (K:Frag) (a:Addr) where
 o:Obj
 fd:FuncData
 ss:List Stmt
 at_:K.lookup a=some o
 data:o.data=.func fd
 bod:fd.body=.stmts ss
noncomputable def Rj (K:Frag) (a:Addr):Option (FnRec K a):=match h1:K.lookup a with
 | some o=>(match h2:o.data with
  | .func fd=>(match h3:fd.body with
   | .stmts ss=>some ⟨o,fd,ss,h1,h2,h3⟩
   | _=>none)
  | _=>none)
 | none=>none
theorem JH {α:Type} {o:Option α} {g:α->Bool} (h:o.any g=true):∃r,g r=true:=by
 cases o with
 | none=>exact xFT h
 | some r=>exact⟨r,h⟩
noncomputable def P3 (K:Frag) (fd:FuncData) (ss:List Stmt) (x:Fn):Bool:=
 codeIn K fd.code fd.qualname&&decide (fd.globals=mainGlobals)&&decide (fd.builtins=builtinsNs)&&!fd.scope.isCoroutine&&!fd.scope.isGenerator&&(fd.scope.kind==.function) &&
  ((SZ x.names (fun n=>fd.scope.names.lookup n) x.body 0).l ss).isSome&&(!plS x.body||((SZ x.names (fun n=>fd.scope.names.lookup n) x.body 2).l ss).isSome)&&JP x.names&&decide (x.arity<=x.names.length)
theorem Mq {p:Prm} (KX:p.K.In p.base) {f:F} {x:Fn} (r:FnRec p.K (p.fn f)) (h:P3 p.K r.fd r.ss x=true):FdOk p f x.names x.arity x.body r.o r.fd r.ss/\(plS x.body=true->OkB x.names (fun n=>r.fd.scope.names.lookup n) 2 x.body r.ss):=by
 unfold P3 at h;simp only[Bool.and_eq_true,decide_eq_true_eq,Bool.not_eq_true',Bool.or_eq_true,beq_iff_eq] at h;refine An h fun z1_ h9=>?_;clear h;refine An z1_ fun z2_ h8=>?_;clear z1_;refine An z2_ fun z3_ hp=>?_;clear z2_;refine An z3_ fun z4_ h7=>?_;clear z3_;refine An z4_ fun z5_ h6=>?_;clear z4_;refine An z5_ fun z6_ h5=>?_;clear z5_;refine An z6_ fun z7_ h4=>?_;clear z6_;refine An z7_ fun z8_ h3=>?_;clear z7_;refine An z8_ fun h1 h2=>?_;clear z8_;exact⟨⟨KX _ _ r.at_,r.data,r.bod,codeRec_of KX h1,h2,h3,h4,h5,h6,Ck.of h7,IK h8,h9⟩,fun z=>Ck.of (hp.resolve_left fun y=>by rw[z] at y;cases y)⟩
noncomputable def LR (K:Frag) (a:Addr) (x:Fn) (more:FuncData->Bool):Bool:=(Rj K a).any fun r=>P3 K r.fd r.ss x&&r.fd.scope.names.all (fun y=>!Qc y.2)&&(x.names.take x.arity).all (fun n=>r.fd.scope.names.lookup n==some .local)&&BG r.fd.params (x.names.take x.arity)&&more r.fd
theorem KQ {α β:Type} {f g:α->Option β}:∀(l:List α),(∀x∈l,f x=g x)->l.filterMap f=l.filterMap g
 | [],_=>rfl
 | a::r,h=>by rw[List.filterMap_cons,List.filterMap_cons,h a (.head _),KQ r fun x m=>h x (.tail _ m)]
theorem ED {β:Type}:∀(ns:List Str) (ws:List β),ns.Nodup->ns.length=ws.length->ns.filterMap (fun n=>((ns.zip ws).lookup n).map (n,·))=ns.zip ws
 | [],_,_,_=>by simp
 | a::ns,[],_,h=>by cases h
 | a::ns,w::ws,hn,hl=>by
  rw[List.nodup_cons] at hn;rw[List.zip_cons_cons,List.filterMap_cons];simp only[List.lookup_cons_self,Option.map_some,List.cons.injEq,true_and];refine Eq.trans (KQ _ fun n m=>?_) (ED ns ws hn.2 (by simpa using hl));rw[List.lookup_cons];have:(n==a)=false:=by
   rw[beq_eq_false_iff_ne];rintro rfl;exact hn.1 m
  rw[this]
theorem C6 {β:Type}:∀(ns:List Str) (ws:List β),ns.length=ws.length->∀n∈ns,((ns.zip ws).lookup n).isNone=false
 | [],_,_,n,m=>by cases m
 | a::ns,[],h,_,_=>by cases h
 | a::ns,w::ws,hl,n,m=>by
  rw[List.zip_cons_cons,List.lookup_cons];cases e:n==a with
  | true=>rfl
  | false =>
   refine C6 ns ws (by simpa using hl) n ?_;rcases List.mem_cons.mp m with rfl | m
   ·simp at e
   ·exact m
theorem MF {α β:Type} (f:α->β->Sem (ForInStep β)) (b:β):∀(l:List α),(∀x∈l,f x b=pure (ForInStep.yield b))->(forIn l b f:Sem β)=pure b
 | [],_=>rfl
 | a::r,h=>by
  rw[List.forIn_cons,h a (.head _)];exact MF f b r fun x m=>h x (.tail _ m)
theorem emp {α:Type} {l:List α} (h:l=[]):¬(!l.isEmpty)=true:=by subst h;exact Bool.false_ne_true
theorem Od {o:Bool} (h:o=false):¬o=true:=by subst h;exact Bool.false_ne_true
theorem flt {ns:List Str} {ws:List Value} (hl:ns.length=ws.length) (i:Nat):(ns.take i).filter (fun n=>((ns.zip ws).lookup n).isNone)=[]:=List.filter_eq_nil_iff.mpr fun n m=>by rw[C6 _ ws hl n (List.mem_of_mem_take m)];exact Bool.false_ne_true
theorem IB {fd:FuncData} {ns:List Str} {ws:List Value} (h:BG fd.params ns=true) (hn:ns.Nodup) (hl:ns.length=ws.length):∃k,bindArgs fd ⟨ws,[]⟩=(seqItems? fd.defaults >>= k)/\∀it,k it=pure (ns.zip ws):=by
 obtain⟨nm,q,⟨po,ar,va,ko,kd',kw,dd⟩,bd,sc,gl,cl,df,kd,d1,d2,d3,d4,d5,d6⟩:=fd;unfold BG at h;simp only[Bool.and_eq_true,List.isEmpty_iff,beq_iff_eq,Option.isNone_iff_eq_none] at h;refine An h fun z1_ h5=>?_;clear h;refine An z1_ fun z2_ h4=>?_;clear z1_;refine An z2_ fun z3_ h3=>?_;clear z2_;refine An z3_ fun h1 h2=>?_;clear z3_;subst h1 h2 h3 h4 h5;refine⟨_,rfl,fun it=>?_⟩;refine(if_neg fun z=>Nat.lt_irrefl _ (Nat.lt_of_lt_of_le (of_decide_eq_true (Bool.and_eq_true_iff.mp z).1) (Nat.le_of_eq hl.symm))).trans ?_;refine(if_neg (emp (flt hl _))).trans ?_;refine(congrArg (fun (m:Sem (List (Str × Value)))=>m >>= _) (MF _ _ _ fun x m=>if_neg (Od (C6 _ ws hl x.1 (List.mem_of_mem_drop (List.of_mem_zip (a:=x.1) (b:=x.2) m).1))))).trans ?_;exact congrArg (pure:_->Sem _) ((congrArg (List.filterMap _) (List.append_nil _)).trans (ED _ ws hn hl))
theorem Mo {fd:FuncData} {ns:List Str} {ws:List Value} (h:BG fd.params ns=true) (hd:isNone fd.defaults=true) (hn:ns.Nodup) (hl:ns.length=ws.length):bindArgs fd ⟨ws,[]⟩=pure (ns.zip ws):=by
 refine e1a2 (IB h hn hl) fun k e h=>?_;rw[e,Ng hd];exact h none
theorem FunAt.of {p:Prm} (KX:p.K.In p.base) {f:F} {x:Fn} {pad:List V->Option (List V)} {more:FuncData->Bool} (h:LR p.K (p.fn f) x more=true)
  (hp:∀(fd:FuncData),BG fd.params (x.names.take x.arity)=true->more fd=true->(x.names.take x.arity).Nodup->(x.names.take x.arity).length=x.arity->∀(s:Shared) (ws:List Value) (vs vs':List V),p.base.StaysIn s.heap->Rels s.heap ws vs->pad vs=some vs'->∃ws',Rels s.heap ws' vs'/\ws'.length=x.arity/\BindsTo s fd ⟨ws,[]⟩ ((x.names.take x.arity).zip ws')) :
  FunAt p f x.names x.arity x.body (plS x.body) pad:=by
 refine Aq (JH h) fun r h=>?_;simp only[Bool.and_eq_true,List.all_eq_true,beq_iff_eq] at h;refine An h fun z1_ hm=>?_;clear h;refine An z1_ fun z2_ hq=>?_;clear z1_;refine An z2_ fun z3_ hl=>?_;clear z2_;refine An z3_ fun h hc=>?_;clear z3_;have z:=Mq KX r h;exact⟨r.o,r.fd,r.ss,z.1,fun y m e=>(by have:=hc y m;rw[e] at this;cases this),hl,z.2,hp r.fd hq hm (z.1.nodup.sublist (List.take_sublist _ _)) (by rw[List.length_take,Nat.min_eq_left z.1.le])⟩
theorem FunAt.plain {p:Prm} (KX:p.K.In p.base) {f:F} {x:Fn} {pad:List V->Option (List V)} (h:LR p.K (p.fn f) x (fun fd=>isNone fd.defaults)=true) (hp:∀vs vs',pad vs=some vs'->vs'=vs/\vs.length=x.arity):FunAt p f x.names x.arity x.body (plS x.body) pad:=
 .of KX h fun fd hq hd hn hl s ws vs vs' _ r e=>by
  refine An (hp vs vs' e) fun z1_ e=>?_;subst z1_;have e':ws.length=x.arity:=r.length.trans e;exact⟨ws,r,e',BindsTo.of_eq (Mo hq hd hn (hl.trans e'.symm))⟩
noncomputable def Ug (K:Frag) (a:Addr) (x:Fn):Bool:=(Rj K a).any fun r=>P3 K r.fd r.ss x&&r.fd.closure.isEmpty&&(x.names.take x.arity).all (fun n=>(r.fd.scope.names.lookup n==some .local)||(decide (r.fd.scope.names.lookup n=some .cell)&&((cellsFrom 0 r.fd.scope.names []).lookup n).isSome))&&BG r.fd.params (x.names.take x.arity)&&isNone r.fd.defaults
theorem EZ:∀(ns:List (Str × NameKind)) (L L':Nat) (acc acc':List (Str × Addr)),(∀n,(acc.lookup n).isSome=(acc'.lookup n).isSome)->∀n,((cellsFrom L ns acc).lookup n).isSome=((cellsFrom L' ns acc').lookup n).isSome
 | [],_,_,_,_,h,n=>h n
 | (a,k)::r,L,L',acc,acc',h,n=>by
  rw[cellsFrom,cellsFrom];split
  ·refine EZ r _ _ _ _ (fun m=>?_) n;rw[List.lookup_cons,List.lookup_cons];cases m==a with
   | true=>rfl
   | false=>exact h m
  ·exact EZ r _ _ _ _ h n
theorem FunAtC.of {p:Prm} (KX:p.K.In p.base) {f:F} {x:Fn} (h:Ug p.K (p.fn f) x=true):FunAtC p f x.names x.arity x.body (plS x.body):=by
 refine Aq (JH h) fun r h=>?_;simp only[Bool.and_eq_true,List.all_eq_true,Bool.or_eq_true,beq_iff_eq,decide_eq_true_eq,List.isEmpty_iff] at h;refine An h fun z1_ hd=>?_;clear h;refine An z1_ fun z2_ hq=>?_;clear z1_;refine An z2_ fun z3_ hl=>?_;clear z2_;refine An z3_ fun h hc=>?_;clear z3_;have z:=Mq KX r h;exact⟨r.o,r.fd,r.ss,z.1,hc,fun n m=>(hl n m).imp id fun e=>⟨e.1,fun L=>(EZ _ _ _ _ _ (fun _=>rfl) n).trans e.2⟩,z.2,fun ws e'=>Mo hq hd (z.1.nodup.sublist (List.take_sublist _ _)) (by rw[List.length_take,e',Nat.min_eq_left z.1.le])⟩
end
section
@[elab_as_elim] theorem Ff {l:List Arg} {x:Str} {q:List Str} {P:List Arg->Prop} (h:l.map (·.arg)=x::q) (k:∀e p r,r.map (·.arg)=q->P (⟨x,e,p⟩::r)):P l:=by
 cases l with
 | nil=>exact xNC h
 | cons a r =>
  obtain⟨n,e,p⟩:=a;refine An (List.cons.inj h) fun h1 h2=>?_;have h1:n=x:=h1;exact h1▸k e p r h2
@[elab_as_elim] theorem QO {l:List Arg} {P:List Arg->Prop} (h:l.map (·.arg)=[]) (k:P []):P l:=List.map_eq_nil_iff.mp h▸k
theorem Sg {fd:FuncData} {a b c d:Value} (h:BG fd.params (["self","code","value","errorcode","level","ret"].map Str.ofString)=true):∃k,bindArgs fd ⟨[a,b,c,d],[]⟩=(seqItems? fd.defaults >>= k) /\
  ∀x t1 t2,k (some #[x,.int 0 t1,.int 0 t2])=pure ((["self","code","value","errorcode","level","ret"].map Str.ofString).zip [a,b,c,d,.int 0 t1,.int 0 t2]):=by
 obtain⟨nm,q,⟨po,ar,va,ko,kd',kw,dd⟩,bd,sc,gl,cl,df,kd,d1,d2,d3,d4,d5,d6⟩:=fd;unfold BG at h;simp only[Bool.and_eq_true,List.isEmpty_iff,beq_iff_eq,Option.isNone_iff_eq_none] at h;refine An h fun z1_ h5=>?_;clear h;refine An z1_ fun z2_ h4=>?_;clear z1_;refine An z2_ fun z3_ h3=>?_;clear z2_;refine An z3_ fun h1 h2=>?_;clear z3_;subst h1 h3 h4 h5;refine Ff h2 (fun _ _ _ g1=>?_);refine Ff g1 (fun _ _ _ g2=>?_);refine Ff g2 (fun _ _ _ g3=>?_);refine Ff g3 (fun _ _ _ g4=>?_);refine Ff g4 (fun _ _ _ g5=>?_);refine Ff g5 (fun _ _ _ g6=>?_);refine QO g6 ?_;exact⟨_,rfl,fun x t1 t2=>rfl⟩
theorem Sn {fd:FuncData} {a:Value} (h:BG fd.params (["self","limit","fuel"].map Str.ofString)=true):∃k,bindArgs fd ⟨[a],[]⟩=(seqItems? fd.defaults >>= k) /\
  ∀t1,k (some #[.int 40 t1,.none])=pure ((["self","limit","fuel"].map Str.ofString).zip [a,.int 40 t1,.none]):=by
 obtain⟨nm,q,⟨po,ar,va,ko,kd',kw,dd⟩,bd,sc,gl,cl,df,kd,d1,d2,d3,d4,d5,d6⟩:=fd;unfold BG at h;simp only[Bool.and_eq_true,List.isEmpty_iff,beq_iff_eq,Option.isNone_iff_eq_none] at h;refine An h fun z1_ h5=>?_;clear h;refine An z1_ fun z2_ h4=>?_;clear z1_;refine An z2_ fun z3_ h3=>?_;clear z2_;refine An z3_ fun h1 h2=>?_;clear z3_;subst h1 h3 h4 h5;refine Ff h2 (fun _ _ _ g1=>?_);refine Ff g1 (fun _ _ _ g2=>?_);refine Ff g2 (fun _ _ _ g3=>?_);refine QO g3 ?_;exact⟨_,rfl,fun t1=>rfl⟩
structure Dfl (K:Frag) (v:Value) where
 t:Addr
 o:Obj
 items:Array Value
 n:Nat
 is:v=.ref t
 at_:K.lookup t=some o
 data:o.data=.seq items n
noncomputable def dfl (K:Frag) (v:Value):Option (Dfl K v):=match h:v with
 | .ref t=>(match h1:K.lookup t with
  | some o=>(match h2:o.data with
   | .seq items n=>some ⟨t,o,items,n,rfl,h1,h2⟩
   | _=>none)
  | _=>none)
 | _=>none
theorem FI {K:Frag} {base:Heap} (X:K.In base) {fd:FuncData} (d:Dfl K fd.defaults) {s:Shared} (st:base.StaysIn s.heap) {args:Args} {binds:List (Str × Value)} {k:Option (Array Value)->Sem (List (Str × Value))}
  (h1:bindArgs fd args=(seqItems? fd.defaults >>= k)) (h2:k (some d.items)=pure binds):BindsTo s fd args binds:=
 BindsTo.of_defaults d.is (st _ _ (X _ _ d.at_)) d.data h1 h2
theorem EY {p:Prm} (KX:p.K.In p.base) {x:Fn} {fd:FuncData} (d:Dfl p.K fd.defaults) (hq:BG fd.params (x.names.take x.arity)=true) (hn:(x.names.take x.arity).Nodup) (hl:(x.names.take x.arity).length=x.arity)
  {s:Shared} {ws:List Value} {vs:List V} (st:p.base.StaysIn s.heap) (r:Rels s.heap ws vs) (hv:vs.length=x.arity):∃ws',Rels s.heap ws' vs/\ws'.length=x.arity/\BindsTo s fd ⟨ws,[]⟩ ((x.names.take x.arity).zip ws'):=by
 have e':ws.length=x.arity:=r.length.trans hv;refine e1a2 (IB (ws:=ws) hq hn (by rw[hl,e'])) fun k h1 h2=>?_;exact⟨ws,r,e',FI KX d st h1 (h2 _)⟩
theorem FunAt.ofFull {p:Prm} (KX:p.K.In p.base) {f:F} {x:Fn} {pad:List V->Option (List V)} (h:LR p.K (p.fn f) x (fun fd=>(dfl p.K fd.defaults).isSome)=true) (hp:∀vs vs',pad vs=some vs'->vs'=vs/\vs.length=x.arity):FunAt p f x.names x.arity x.body (plS x.body) pad:=
 .of KX h fun fd hq e hn hl s ws vs vs' st r q=>by
  refine An (hp vs vs' q) fun z1_ q=>?_;subst z1_;refine Aq (Option.isSome_iff_exists.mp e) fun d _=>?_;exact EY KX d hq hn hl st r q
structure IsR (l:Array Value):Prop where
 ok:∃x t1 t2,l=#[x,.int 0 t1,.int 0 t2]
structure IsS (l:Array Value):Prop where
 ok:∃t1,l=#[.int 40 t1,.none]
noncomputable def Uh:∀l:Array Value,Ck (IsR l)
 | ⟨[x,.int 0 t1,.int 0 t2]⟩=>.yes ⟨x,t1,t2,rfl⟩
 | _=>none
noncomputable def TG:∀l:Array Value,Ck (IsS l)
 | ⟨[.int 40 t1,.none]⟩=>.yes ⟨t1,rfl⟩
 | _=>none
end
section
noncomputable def B0:F->Addr
 | .raised_init=>81
 | .error=>139
 | .wrong_args=>146
 | .is_blank=>181
 | .digit=>188
 | .digits_value=>195
 | .base_of=>202
 | .whole_of=>209
 | .need_whole=>216
 | .check_behind=>244
 | .braced_element=>251
 | .bare_element=>265
 | .find_element=>272
 | .split_list=>279
 | .mode_of=>286
 | .quote=>301
 | .join_list=>308
 | .dict_fault=>315
 | .dict_of=>322
 | .text_of_dict=>329
 | .unknown_key=>336
 | .open_path=>343
 | .close_path=>350
 | .set_path=>357
 | .unset_path=>364
 | .value_of=>371
 | .text_in=>378
 | .dict_append=>385
 | .dict_lappend=>392
 | .dict_incr=>399
 | .dict_set=>406
 | .dict_unset=>413
 | .var_init=>427
 | .host_init=>449
 | .no_variable=>526
 | .var_in=>533
 | .put_value=>540
 | .sh_init=>569
 | .sh_has=>576
 | .sh_place=>583
 | .sh_read_var=>590
 | .sh_write_var=>597
 | .sh_read=>604
 | .sh_write=>611
 | .sh_stamp=>625
 | .l_keys=>680
 | .l_values=>687
 | .l_texts=>694
 | .l_close=>701
 | .l_list=>708
 | .l_form=>715
 | .l_text=>720
 | .l_put=>725
 | .l_at=>732
 | .l_pairs=>739
 | .l_dict=>746
 | .l_whole=>753
 | .l_first=>758
 | .l_deed=>765
 | .l_lacks=>772
 | .l_set=>779
 | .l_unset=>784
 | .l_none=>791
 | .l_behind=>798
 | .l_usage=>805
 | .l_due=>812
 | .l_done=>819
 | .l_stands=>826
 | .law=>833
 | .quoted_element=>258
 | .escaped=>293
 | .backslash=>237
noncomputable def AX:Cls->Addr
 | .host=>671
 | .var=>430
 | .raised=>84
theorem mg_of {K:Frag} {a:Addr} {m:Str->Option Value} {x:Str} {r:Option Value} (X:K.In h) (n:h.Ns a m) (e:nsIn K a x=some r):m x=r:=by
 unfold nsIn at e;generalize ho:K.lookup a=r0 at e;cases r0 with
 | none=>exact xNS e
 | some r0 =>
  obtain⟨c0,d0,q0,s0⟩:=r0;cases q0 <;> try exact xNS e
  rename_i es n';refine JD n fun o es' ep h1 h2 _ h4=>?_;clear n;rw[X _ _ ho] at h1;obtain rfl:=xSS h1;cases h2
  rw[← h4 x,nsFind,findBy,← Array.find?_toList];dsimp only at e;generalize es.toList.find? (fun y=>y.key.isStr x)=f0 at e ⊢;cases f0 with
  | some q =>
   obtain rfl:=xSS e;rfl
  | none =>
   dsimp only at e;split at e
   ·exact xNS e
   ·obtain rfl:=xSS e;rfl
noncomputable def Js (e:DictEntry):Bool:=match e.key with
 | .str _ _=>true
 | _=>false
theorem SH {K:Frag} {a:Addr} {oc:Value} {od:Option Addr} {es:Array DictEntry} {ep:Nat} {sl:Array (Option Value)} (X:K.In h) (e:K.lookup a=some ⟨oc,od,.dict es ep,sl⟩) (k:es.toList.all Js=true):h.Ns a (nsFind es):=by
 refine⟨_,es,ep,X _ _ e,rfl,fun y m=>?_,fun _=>rfl⟩;have:=List.all_eq_true.mp k y (Array.mem_toList_iff.mpr m);unfold Js at this;generalize y.key=q at this ⊢;cases q <;> first | exact⟨_,_,rfl⟩ | exact xFT this
noncomputable def allF:List F:=[.error,.wrong_args,.is_blank,.digit,.digits_value,.base_of,.whole_of,.need_whole,.check_behind,.braced_element,.bare_element,.find_element,.split_list,.mode_of,.quote,.join_list,.dict_fault,.dict_of,.text_of_dict,.unknown_key,.open_path,.close_path,.set_path,.unset_path,.value_of,.text_in,.dict_append,.dict_lappend,.dict_incr,.dict_set,.dict_unset,.no_variable,.var_in,.put_value,.raised_init,.var_init,.host_init,.sh_init,.sh_has,.sh_place,.sh_read_var,.sh_write_var,.sh_read,.sh_write,.sh_stamp,.quoted_element,.escaped,.backslash,.l_keys,.l_values,.l_texts,.l_close,.l_list,.l_form,.l_text,.l_put,.l_at,.l_pairs,.l_dict,.l_whole,.l_first,.l_deed,.l_lacks,.l_set,.l_unset,.l_none,.l_behind,.l_usage,.l_due,.l_done,.l_stands,.law]
theorem Pm (f:F):f∈allF:=List.mem_of_getElem? (i:=f.ctorIdx) (by cases f <;> rfl)
noncomputable def allC:List Cls:=[.host,.var,.raised]
theorem O8 (c:Cls):c∈allC:=by cases c <;> decide
noncomputable def TZ:F->Nat
 | .raised_init=>3
 | .error=>2
 | .quote=>2
 | .host_init=>2
 | .sh_init=>4
 | .l_text=>1
 | .l_put=>1
 | .l_unset=>1
 | _=>0
noncomputable def Sl (K:Frag) (f:F) (x:Fn):Bool:=match TZ f with
 | 0=>LR K (B0 f) x fun fd=>isNone fd.defaults
 | 1=>Ug K (B0 f) x
 | 2=>LR K (B0 f) x fun fd=>(dfl K fd.defaults).isSome
 | 3=>LR K (B0 f) x fun fd=>(dfl K fd.defaults).any fun d=>(Uh d.items).isSome
 | _=>LR K (B0 f) x fun fd=>(dfl K fd.defaults).any fun d=>(TG d.items).isSome
noncomputable def Dg (K:Frag) (f:F):Bool:=(C7 f).all (Sl K f)&&(Dc f).all (fun x=>nsIn K 3 x==some (some (.ref (B0 f))))&&(!((C7 f).isSome||(Dc f).isSome)||keepIn K (.ref (B0 f))) &&
 (Dz f).all (fun n=>findIn K (.ref 671) n==some (some (.ref (B0 f)))&&typeIn K (.ref (B0 f))==some (.type "function"))
noncomputable def Oo (K:Frag) (c:Cls):Bool:=attrNames.all (fun n=>findIn K (.ref (AX c)) (S n)==some none)&&(decide (c=.raised)||(findIn K (.ref (AX c)) "__getattribute__"==some (some (.builtin "object.__getattribute__"))&&makesIn K (AX c))) &&
 findIn K (.ref (AX c)) "__setattr__"==some (some (.builtin "object.__setattr__"))&&K8 K (AX c)&&hasDictIn K (AX c)&&keepIn K (.ref (AX c))&&nsIn K 3 (Ka c)==some (some (.ref (AX c))) &&
 findIn K (.ref (AX c)) "__init__"==some (some (.ref (B0 (Dr c))))&&typeIn K (.ref (B0 (Dr c)))==some (.type "function")
noncomputable def OW (r:Option CFound) (v:Value):Bool:=match r with
 | some (.val x)=>x==v
 | _=>false
theorem KP {r:Option CFound} {v:Value} (h:OW r v=true):r=some (.val v):=by
 cases r with
 | none=>exact xFT h
 | some r=>cases r <;> first | exact xFT h | exact congrArg (fun z=>some (CFound.val z)) (beq_iff_eq.mp h)
noncomputable def OT (K:Frag) (a:Addr):Bool:=match K.lookup a with
 | some ⟨_,_,.dict es _,_⟩=>es.toList.all Js
 | _=>false
theorem Pe {K:Frag} {a:Addr} (X:K.In h) (e:OT K a=true):∃m,h.Ns a m:=by
 unfold OT at e;generalize ho:K.lookup a=o at e;cases o with
 | none=>exact xFT e
 | some o =>
  obtain⟨_,_,d,_⟩:=o;cases d <;> first | exact⟨_,SH X ho e⟩ | exact xFT e
noncomputable def Tu:Data->Bool
 | .cls cd=>!cd.hasDel&&decide (cd.ns=83)&&cd.mro==[.ref 84,.type "Exception",.type "BaseException",.type "object"]
 | _=>false
noncomputable def UO (o:Obj):Bool:=o.cls==.type "type"&&Tu o.data&&decide (o.slots.toList.length=6)&&o.slots.toList[4]?==some (some (.builtin "Exception.__new__"))
noncomputable def Tj (K:Frag):Bool:=(K.lookup 84).any UO
theorem Iz {α:Type} {l:List α} (h:l.length=n+1):∃a r,l=a::r/\r.length=n:=by
 cases l with
 | nil=>cases h
 | cons a r=>exact⟨a,r,rfl,Nat.succ.inj h⟩
theorem six {α:Type} {l:List α} {e:α} (h:l.length=6) (h4:l[4]?=some e):∃a b c d f,l=[a,b,c,d,e,f]:=by
 refine Be (Iz h) fun a r1 z1_ g1=>?_;subst z1_;refine Be (Iz g1) fun b r2 z1_ g2=>?_;subst z1_;refine Be (Iz g2) fun c r3 z1_ g3=>?_;subst z1_;refine Be (Iz g3) fun d r4 z1_ g4=>?_;subst z1_;refine Be (Iz g4) fun e' r5 z1_ g5=>?_;subst z1_;refine Be (Iz g5) fun f r6 z1_ g6=>?_;subst z1_;obtain rfl:=List.length_eq_zero_iff.mp g6;obtain rfl:e'=e:=Option.some.inj h4;exact⟨a,b,c,d,f,rfl⟩
theorem Qm {d:Data} (h:Tu d=true):∃cd,d=.cls cd/\((!cd.hasDel)=true/\decide (cd.ns=83)=true)/\(cd.mro==[.ref 84,.type "Exception",.type "BaseException",.type "object"])=true:=by
 cases d <;> first | exact absurd h Bool.false_ne_true | exact⟨_,rfl,(Bool.and_eq_true_iff.mp h).imp Bool.and_eq_true_iff.mp id⟩
theorem Qz {K:Frag} (h:Tj K=true):∃nm q bs hdct sn sub ab col dd k0 k1 k2 k3 k5,K.lookup 84=some (excClassObj nm q 84 83 bs [.type "Exception",.type "BaseException",.type "object"] hdct sn sub ab col dd k0 k1 k2 k3 k5 "Exception.__new__"):=by
 refine e1a2 ((Option.any_eq_true _ _).mp h) fun o e h=>?_;obtain⟨oc,dd,data,⟨sl⟩⟩:=o;refine An (Bool.and_eq_true_iff.mp h) fun h h6=>?_;refine An (Bool.and_eq_true_iff.mp h) fun h h5=>?_;refine An (Bool.and_eq_true_iff.mp h) fun h1 h2=>?_;refine B2 (Qm h2) fun cd z1_ z2_ h7=>?_;subst z1_;refine An z2_ fun h3 h4=>?_;clear z2_;refine Ur (six (of_decide_eq_true h5) (beq_iff_eq.mp h6)) fun k0 k1 k2 k3 k5 z1_=>?_;subst z1_;obtain rfl:=beq_iff_eq.mp h1;obtain⟨nm,bs,mro,ns,q,hdct,sn,sub,ab,col,hdl⟩:=cd;obtain rfl:=of_decide_eq_true h4;obtain rfl:=beq_iff_eq.mp h7;obtain rfl:=Bool.not_eq_true' _▸h3;exact⟨nm,q,bs,hdct,sn,sub,ab,col,dd,k0,k1,k2,k3,k5,e⟩
noncomputable def OY (K:Frag):Bool:=findIn K (.ref 84) "__getattribute__"==some (some (.builtin "BaseException.__getattribute__"))&&findIn K (.ref 84) "__getattr__"==some none&&mroIn K 84 (.type "BaseException")==some true &&
 findIn K (.ref 671) "__getattr__"==some none&&readsIn K 515 (.type "type")&&OW (findCls K (.ref 515) (.type "type") "__init__") (.ref 449)&&specialIn K (.ref 515) "__getattribute__"==some (some (.builtin "type.__getattribute__")) &&
 OW (findCls K (.type "Exception") (.type "type") "__init__") (.builtin "Exception.__init__")&&nsIn K 3 "Host"==some (some (.ref 515))&&bltVal.all (fun y=>nsIn K 3 y.1==some none)&&nsIn K 3 "law"==some (some (.ref 833)) &&
 OT K 83&&nsIn K 83 "__init__"==some (some (.ref 81))&&Tj K
noncomputable def chk (K:Frag):Bool:=allF.all (Dg K)&&allC.all (Oo K)&&OY K
theorem Va:(bltVal.map fun y=>bootBuiltins y.1)=bltVal.map fun y=>some y.2:=by kernel_rfl
theorem UK:bltVal.all (fun y=>!(y.1=="__name__"))=true:=by kernel_rfl
end
section
noncomputable abbrev prm (prog:Program) (w:World) (K:Frag) (mg mb:Str->Option Value) (base:Heap):Prm:=
 { prog,w,K,mg,mb,base,cls:=AX,hcls:=515,fn:=B0 }
theorem C1 {c:Prop} [Decidable c] {α:Type} {a b:α} (h:(if c then some a else none)=some b):b=a/\c:=by
 by_cases e:c
 ·rw[if_pos e] at h;cases h;exact⟨rfl,e⟩
 ·rw[if_neg e] at h;exact xNS h
theorem Lx {f:F} (h1:f≠.raised_init) (h2:f≠.sh_init) {ar:Nat} {vs vs':List V} (h:Fy f ar vs=some vs'):vs'=vs/\vs.length=ar:=by
 cases f <;> first | exact C1 h | exact absurd rfl h1 | exact absurd rfl h2
theorem Rs {ar:Nat} {vs vs':List V} (h:Fy .raised_init ar vs=some vs'):(∃a b c d,vs=[a,b,c,d]/\vs'=[a,b,c,d,.int 0,.int 0])∨(vs'=vs/\vs.length=ar):=by
 cases vs with | nil=>exact .inr (C1 h) | cons a vs =>
 cases vs with | nil=>exact .inr (C1 h) | cons b vs =>
 cases vs with | nil=>exact .inr (C1 h) | cons c vs =>
 cases vs with | nil=>exact .inr (C1 h) | cons d vs =>
 cases vs with | nil=>cases h;exact .inl ⟨a,b,c,d,rfl,rfl⟩ | cons=>exact .inr (C1 h)
theorem Ro {ar:Nat} {vs vs':List V} (h:Fy .sh_init ar vs=some vs'):(∃a,vs=[a]/\vs'=[a,.int 40,.none])∨(vs'=vs/\vs.length=ar):=by
 cases vs with | nil=>exact .inr (C1 h) | cons a vs =>
 cases vs with | nil=>cases h;exact .inl ⟨a,rfl,rfl⟩ | cons=>exact .inr (C1 h)
section
variable {prog:Program} {w:World} {K:Frag} {mg mb:Str->Option Value} {h:Heap}
theorem Qx (KX:K.In h) {f:F} {x:Fn} (hx:C7 f=some x) (c:Sl K f x=true):FunAt (prm prog w K mg mb h) f x.names x.arity x.body (plS x.body) (Fy f x.arity)∨(FunAtC (prm prog w K mg mb h) f x.names x.arity x.body (plS x.body)/\∀vs vs',Fy f x.arity vs=some vs'->vs'=vs/\vs.length=x.arity):=by
 by_cases r1:f=.raised_init
 ·subst r1;obtain rfl:=xSS hx;refine .inl (.of (p:=prm prog w K mg mb h) KX (f:=.raised_init) (more:=fun fd=>(dfl K fd.defaults).any fun (d:Dfl K fd.defaults)=>(Uh d.items).isSome) c fun fd hq hm hn hl s ws vs vs' st r q=>?_);refine Aq (JH hm) fun dd hd=>?_;rcases Rs q with ⟨a,b,c',d,rfl,rfl⟩ | ⟨rfl,el⟩
  ·refine Un ((Ck.of hd).ok) fun y t1 t2 e=>?_;refine r.e_cons fun wa r ra r'=>r'.e_cons fun wb r rb r'=>r'.e_cons fun wc r rc r'=>r'.e1 fun wd rd=>?_;obtain⟨k,h1,h2⟩:=Sg hq;exact⟨_,.cons ra (.cons rb (.cons rc (.cons rd (.cons (.int _ _) (.cons (.int _ _) .nil))))),rfl,FI KX dd st h1 ((congrArg (fun l=>k (some l)) e).trans (h2 _ _ _))⟩
  ·exact EY (p:=prm prog w K mg mb h) KX dd hq hn hl st r el
 ·by_cases r2:f=.sh_init
  ·subst r2;obtain rfl:=xSS hx;refine .inl (.of (p:=prm prog w K mg mb h) KX (f:=.sh_init) (more:=fun fd=>(dfl K fd.defaults).any fun (d:Dfl K fd.defaults)=>(TG d.items).isSome) c fun fd hq hm hn hl s ws vs vs' st r q=>?_);refine Aq (JH hm) fun dd hd=>?_;rcases Ro q with ⟨a,rfl,rfl⟩ | ⟨rfl,el⟩
   ·refine Aq ((Ck.of hd).ok) fun t1 e=>?_;refine r.e1 fun wa ra=>?_;obtain⟨k,h1,h2⟩:=Sn hq;exact⟨_,.cons ra (.cons (.int _ _) (.cons .none .nil)),rfl,FI KX dd st h1 ((congrArg (fun l=>k (some l)) e).trans (h2 _))⟩
   ·exact EY (p:=prm prog w K mg mb h) KX dd hq hn hl st r el
  ·have pl:∀vs vs',Fy f x.arity vs=some vs'->vs'=vs/\vs.length=x.arity:=fun _ _=>Lx r1 r2;cases f <;> first
    | exact absurd rfl r1
    | exact absurd rfl r2
    | exact .inl (.plain (p:=prm prog w K mg mb h) KX c pl)
    | exact .inr ⟨.of (p:=prm prog w K mg mb h) KX c,pl⟩
    | exact .inl (.ofFull (p:=prm prog w K mg mb h) KX c pl)
theorem facts (KX:K.In h) (hc:chk K=true) (hg:h.Ns mainGlobals mg) (hb:h.Ns builtinsNs mb) (nl:h.NoLimit) (dig:h.NoDigits) (sy:∃o,h.get? sysModules=some o) (bt:∀x:Str,x≠"__name__"->mb x=bootBuiltins x) :
  Facts (prm prog w K mg mb h):=by
 unfold chk at hc;rw[Bool.and_eq_true,Bool.and_eq_true] at hc;refine An hc fun z1_ hM=>?_;clear hc;refine An z1_ fun hF hC=>?_;clear z1_;have hF:∀f,Dg K f=true:=fun f=>List.all_eq_true.mp hF f (Pm f);have hC:∀c,Oo K c=true:=fun c=>List.all_eq_true.mp hC c (O8 c);unfold OY at hM;simp only[Bool.and_eq_true,beq_iff_eq] at hM;refine An hM fun z1_ m14=>?_;clear hM;refine An z1_ fun z2_ m13=>?_;clear z1_;refine An z2_ fun z3_ m12=>?_;clear z2_;refine An z3_ fun z4_ m11=>?_;clear z3_;refine An z4_ fun z5_ m10=>?_;clear z4_;refine An z5_ fun z6_ m9=>?_;clear z5_;refine An z6_ fun z7_ m8=>?_;clear z6_;refine An z7_ fun z8_ m7=>?_;clear z7_;refine An z8_ fun z9_ m6=>?_;clear z8_;refine An z9_ fun z10_ m5=>?_;clear z9_;refine An z10_ fun z11_ m4=>?_;clear z10_;refine An z11_ fun z12_ m3=>?_;clear z11_;refine An z12_ fun m1 m2=>?_;clear z12_;have cc:∀c,(∀n∈attrNames,findIn K (.ref (AX c)) (S n)=some none)/\(c=.raised∨(findIn K (.ref (AX c)) "__getattribute__"=some (some (.builtin "object.__getattribute__"))/\makesIn K (AX c)=true)) /\
   findIn K (.ref (AX c)) "__setattr__"=some (some (.builtin "object.__setattr__"))/\K8 K (AX c)=true/\hasDictIn K (AX c)=true/\keepIn K (.ref (AX c))=true/\nsIn K 3 (Ka c)=some (some (.ref (AX c))) /\
   findIn K (.ref (AX c)) "__init__"=some (some (.ref (B0 (Dr c))))/\typeIn K (.ref (B0 (Dr c)))=some (.type "function"):=by
  intro c;have:=hC c;unfold Oo at this;simp only[Bool.and_eq_true,Bool.or_eq_true,beq_iff_eq,decide_eq_true_eq,List.all_eq_true] at this;refine An this fun z1_ a9=>?_;clear this;refine An z1_ fun z2_ a8=>?_;clear z1_;refine An z2_ fun z3_ a7=>?_;clear z2_;refine An z3_ fun z4_ a6=>?_;clear z3_;refine An z4_ fun z5_ a5=>?_;clear z4_;refine An z5_ fun z6_ a4=>?_;clear z5_;refine An z6_ fun z7_ a3=>?_;clear z6_;refine An z7_ fun a1 a2=>?_;clear z7_;exact⟨a1,a2,a3,a4,a5,a6,a7,a8,a9⟩
 have cf:∀f,(∀x,C7 f=some x->Sl K f x=true)/\(∀x,Dc f=some x->nsIn K 3 x=some (some (.ref (B0 f))))/\(((C7 f).isSome||(Dc f).isSome)=true->keepIn K (.ref (B0 f))=true) /\
   (∀n,Dz f=some n->findIn K (.ref 671) n=some (some (.ref (B0 f)))/\typeIn K (.ref (B0 f))=some (.type "function")):=by
  intro f;have:=hF f;unfold Dg at this;rw[Bool.and_eq_true,Bool.and_eq_true,Bool.and_eq_true] at this;refine An this fun z1_ a4=>?_;clear this;refine An z1_ fun z2_ a3=>?_;clear z1_;refine An z2_ fun a1 a2=>?_;clear z2_;refine⟨fun x e=>?_,fun x e=>?_,fun e=>?_,fun n e=>?_⟩
  ·rw[e] at a1;exact a1
  ·rw[e,Option.all_some,beq_iff_eq] at a2;exact a2
  ·rw[e] at a3;exact a3
  ·rw[e,Option.all_some,Bool.and_eq_true,beq_iff_eq,beq_iff_eq] at a4;exact a4
 refine { K:=⟨KX,sy,dig⟩,KA:={ none_:=fun c n m=>(cc c).1 n m,ga:=fun c h=>((cc c).2.1.resolve_left h).1,gaX:=m1,ghX:=m2,sa:=fun c=>(cc c).2.2.1,over:=fun c=>(cc c).2.2.2.1,hasD:=fun c=>(cc c).2.2.2.2.1,sup:=m3 },N:=?_,nl:=nl,fn:=fun f x hx=>Qx KX hx ((cf f).1 x hx) };refine { g:=hg,b:=hb,blt:=fun y m=>?_,fn:=fun f x e=>mg_of KX hg ((cf f).2.1 x e),cl:=fun c=>mg_of KX hg (cc c).2.2.2.2.2.2.1,host:=mg_of KX hg m9,keepF:=fun f e=>(cf f).2.2.1 e,keepC:=fun c=>(cc c).2.2.2.2.2.1,meth:=fun f n e=>(cf f).2.2.2 n e,gh:=m4,hReads:=m5,hFind:=KP m6,hGa:=m7,makes:=fun c h=>((cc c).2.1.resolve_left h).2,init:=fun c=>(cc c).2.2.2.2.2.2.2,rObj:=?_,eFind:=KP m8 }
 ·have e1:=List.all_eq_true.mp m10 y m;have e2:=List.map_inj_left.mp Va y m;have e3:=List.all_eq_true.mp UK y m;refine⟨mg_of KX hg (beq_iff_eq.mp e1),(bt _ fun z=>?_).trans e2⟩;rw[z] at e3;simp at e3
 ·obtain⟨nm,q,bs,hdct,sn,sub,ab,col,dd,k0,k1,k2,k3,k5,e⟩:=Qz m14;refine Aq (Pe KX m12) fun mN hN=>?_;have ti:=(cc .raised).2.2.2.2.2.2.2.2;unfold typeIn at ti;refine e1a2 (Option.map_eq_some_iff.mp ti) fun oI e1 e2=>?_;exact⟨nm,q,83,bs,hdct,sn,sub,ab,col,dd,k0,k1,k2,k3,k5,mN,oI,KX _ _ e,hN,mg_of KX hN m13,KX _ _ e1,e2⟩
end
end
section
noncomputable def No (st:SharedT->Thread->Option (SharedT × Thread)) (okk:Thread->Bool):Nat->SharedT->Thread->Option SharedT
 | 0,_,_=>none
 | n+1,s,t=>match through t with
  | true=>some s
  | false=>match okk t with
   | false=>none
   | true=>match st s t with
    | some (s',t')=>No st okk n s' t'
    | none=>none
theorem IZ {tb:String->Option Builtin} {p:Program} {w:World} {m:Nat} {ann:Option Value}:∀{n:Nat} {s s':SharedT} {t:Thread},No (stepT (denote tb) p w) (stepOk m ann) n s t=some s'->topRun tb p w m ann n s.abs t=some s'.abs
 | 0,_,_,_,h=>by exact xNS h
 | n+1,s,s',t,h=>by
  unfold No at h;unfold topRun;cases ht:through t with
  | true=>rw[ht] at h;cases h;rfl
  | false =>
   rw[ht] at h;cases hk:stepOk m ann t with
   | false=>rw[hk] at h;exact xNS h
   | true =>
    rw[hk] at h;cases hs:stepT (denote tb) p w s t with
    | none=>rw[hs] at h;exact xNS h
    | some q =>
     obtain⟨s1,t1⟩:=q;rw[hs] at h;dsimp only;rw[stepT_spec hs];exact IZ h
noncomputable def SU (P:Params):BT:=(.node (boot_o_0 P) (.node (boot_o_1 P) (.node (boot_o_3 P) (.node (boot_o_7 P) .nil .nil) .nil) (.node (boot_o_5 P) (.node (boot_o_9 P) .nil .nil) .nil)) (.node (boot_o_2 P) (.node (boot_o_4 P) (.node (boot_o_8 P) .nil .nil) .nil) (.node (boot_o_6 P) (.node (boot_o_10 P) .nil .nil) .nil)))
noncomputable def Mv (w:World) (os:OsState):SharedT:=⟨SU w.params,11,{},#[],boot_drawn,boot_toks,os⟩
theorem Nf (w:World) (os:OsState):(Mv w os).abs={ heap:=boot_heap w.params,gens:=#[],drawn:=boot_drawn,toks:=boot_toks,os:=os }:=by kernel_rfl
end
section
theorem OG {p q:Program} {loose:List Str} {Xt:Shared->Bool} {α:Type} {Yf:Shared->α} {Ya:World->α} {N:Nat} {g0:Bool}
  (hopen:∀w:World,Option.map (fun s=>(s.heap,s.gens,s.drawn,s.toks)) (fencedOpening treeTable p w N)=some (boot_heap w.params,#[],boot_drawn,boot_toks))
  (hs:∀w:World,((boot_heap w.params).isNs mainGlobals&&(#[]:Array GenState).size==0,(boot_heap w.params).objs.size,(boot_heap w.params).nsMap mainGlobals "__annotations__")=(true,11,some (.ref 6)))
  (h:∀(w:World) (os:OsState),(No (stepT (denote treeTable) p w) (stepOk 11 (some (.ref 6))) N (Mv w os) (topStub p)).map (fun S =>
   (staticsOk (importedModules p.main.body) (boot_heap w.params) S.abs.heap&&namesBound p S.abs.heap&&gensDone S.abs&&laidKept (boot_heap w.params) S.abs.heap,openSeen q loose (importedModules p.main.body) Xt g0 S.abs,Yf S.abs))=some (true,openGood q loose,Ya w)) :
  LeftO p q loose Xt Yf Ya N g0:=by
 intro w;refine e1a2 (Option.map_eq_some_iff.mp (hopen w)) fun s₀ e0 e1=>?_;obtain⟨hp,gs,dr,tk,os⟩:=s₀;refine An (Prod.mk.inj e1) fun z1_ e1=>?_;subst z1_;refine An (Prod.mk.inj e1) fun z1_ e1=>?_;subst z1_;refine An (Prod.mk.inj e1) fun z1_ z2_=>?_;subst z1_;subst z2_;refine e1a2 (Option.map_eq_some_iff.mp (h w os)) fun S r1 r2=>?_;have R:=IZ r1;rw[Nf] at R;refine An (Prod.mk.inj (hs w)) fun a1 a2=>?_;refine An (Prod.mk.inj a2) fun a2 a3=>?_;refine An (Prod.mk.inj r2) fun b1 b2=>?_;refine An (Prod.mk.inj b2) fun b2 b3=>?_;unfold openEnds;rw[e0,Option.bind_some];unfold topFrom
 try dsimp only
 rw[a1,a2,a3]
 try dsimp only
 rw[R,Option.bind_some]
 try dsimp only
 rw[b1]
 try dsimp only
 rw[Option.map_some,b2,b3]
noncomputable def CY (h:Heap) (as:List Addr):Frag:=as.filterMap fun a=>(h.get? a).map (a,·)
theorem FK (h:Heap):∀as,(CY h as).In h
 | [],_,_,e=>by exact xNS e
 | b::as,a,o,e=>by
  unfold CY at e;rw[List.filterMap_cons] at e;cases hb:h.get? b with
  | none=>rw[hb] at e;exact FK h as a o e
  | some x =>
   rw[hb] at e;simp only[Option.map_some] at e;rw[List.lookup_cons] at e;cases q:a==b with
   | true =>
    rw[q] at e;obtain rfl:=xSS e;rw[beq_iff_eq.mp q,hb]
   | false =>
    rw[q] at e;exact FK h as a o e
noncomputable def hookOf (as:List Addr) (chk:Frag->Bool):Hook where
 α:=Bool
 obs s:=chk (CY s.heap as)
 val _:=true
 says _ h:=∃K:Frag,K.In h/\chk K=true
 of _ s e:=⟨_,FK s.heap as,e⟩
 keeps _ _ _:=fun ⟨K,a,b⟩ k=>⟨K,a.keeps k,b⟩
end
section
noncomputable abbrev pr:Program:=PySem.Challenge.pw_pb0572_01
noncomputable def vw:Program:=view pr [87]
noncomputable def loo:List Str:=(pr.main.scope.names.map (·.1)).filter fun x=>!(x==("law" : Str))
theorem Ry (w:World):Option.map (fun s=>(s.heap,s.gens,s.drawn,s.toks)) (fencedOpening treeTable pr w 5300)=some (boot_heap w.params,#[],boot_drawn,boot_toks):=
 boot_open (by kernel_rfl) (by kernel_rfl) (fun s=>by kernel_rfl) w
theorem Sm (w:World):((boot_heap w.params).isNs mainGlobals&&(#[]:Array GenState).size==0,(boot_heap w.params).objs.size,(boot_heap w.params).nsMap mainGlobals "__annotations__")=(true,11,some (.ref 6)):=by kernel_rfl
end
section
noncomputable def ads:List Addr:=[3,2,83,84,429,430,514,515,670,671,74,132,294,442,562]++(allF.map B0).flatMap fun a=>[a,a - 1]
noncomputable abbrev rwv:OpenRow:=PySem.Challenge.rw_pb0572_01.row
noncomputable def xt (s:Shared):Bool:=xlAt vw [] s&&recOk rwv.records s
noncomputable abbrev LV (w:World) (os:OsState):=No (Fast.tw10156331382660048174 (Fast.tw11892475500146522536 Fast.tw14364793385576792824) pr w) (Fast.tw6613529449190102663 11 (some (.ref 6))) 5300 (Mv w os) (topStub pr)
theorem UM (w:World) (os:OsState):(LV w os).map (fun S=>(staticsOk (importedModules pr.main.body) (boot_heap w.params) S.abs.heap&&namesBound pr S.abs.heap&&gensDone S.abs&&laidKept (boot_heap w.params) S.abs.heap,Fast.tw4187177175401517315 vw loo (importedModules pr.main.body) xt true S.abs))=some (true,openGood vw loo):=by kernel_rfl
theorem UI (w:World) (os:OsState):(LV w os).map (fun S=>(allF.take 24).all (Dg (CY S.abs.heap ads)))=some true:=by kernel_rfl
theorem Uy (w:World) (os:OsState):(LV w os).map (fun S=>((allF.drop 24).take 18).all (Dg (CY S.abs.heap ads)))=some true:=by kernel_rfl
theorem UV (w:World) (os:OsState):(LV w os).map (fun S=>((allF.drop 42).take 12).all (Dg (CY S.abs.heap ads)))=some true:=by kernel_rfl
theorem UF (w:World) (os:OsState):(LV w os).map (fun S=>((allF.drop 54).take 10).all (Dg (CY S.abs.heap ads)))=some true:=by kernel_rfl
theorem Ux (w:World) (os:OsState):(LV w os).map (fun S=>(allF.drop 64).all (Dg (CY S.abs.heap ads)))=some true:=by kernel_rfl
theorem Uz (w:World) (os:OsState):(LV w os).map (fun S=>allC.all (Oo (CY S.abs.heap ads))&&OY (CY S.abs.heap ads))=some true:=by kernel_rfl
theorem G9 {α:Type} {p:α->Bool} {l:List α} {n m k:Nat} (e:n+m=k) (h1:((l.drop n).take m).all p=true) (h2:(l.drop k).all p=true):(l.drop n).all p=true:=by
 rw[← List.take_append_drop m (l.drop n),List.all_append,h1,List.drop_drop,e,h2];rfl
theorem NR {α:Type} {x:Option α} {f:α->Frag} (h1:x.map (fun s=>(allF.take 24).all (Dg (f s)))=some true) (h2:x.map (fun s=>((allF.drop 24).take 18).all (Dg (f s)))=some true) (h3:x.map (fun s=>((allF.drop 42).take 12).all (Dg (f s)))=some true)
  (h4:x.map (fun s=>((allF.drop 54).take 10).all (Dg (f s)))=some true) (h5:x.map (fun s=>(allF.drop 64).all (Dg (f s)))=some true) (h6:x.map (fun s=>allC.all (Oo (f s))&&OY (f s))=some true):x.map (fun s=>chk (f s))=some true:=by
 cases x with
 | none=>exact xNS h1
 | some y =>
  rw[Option.map_some] at *;have e:allF.all (Dg (f y))=true:=G9 (n:=0) (m:=24) rfl (xSS h1) (G9 (m:=18) rfl (xSS h2) (G9 (m:=12) rfl (xSS h3) (G9 (m:=10) rfl (xSS h4) (xSS h5))));have c:=xSS h6;unfold chk;rw[e,Bool.true_and,c]
theorem Uu {α β γ δ:Type} {x:Option α} {f:α->β} {g:α->γ} {k:α->δ} {a:β} {b:γ} {c:δ} (h1:x.map (fun s=>(f s,g s))=some (a,b)) (h3:x.map k=some c):x.map (fun s=>(f s,g s,k s))=some (a,b,c):=by
 cases x with
 | none=>exact xNS h1
 | some y=>rw[Option.map_some] at *;rw[xSS h3];exact xPr (xSS h1) fun z1 z2=>by rw[z1,z2]
theorem Q8 (w:World) (os:OsState):(No (Fast.tw10156331382660048174 (Fast.tw11892475500146522536 Fast.tw14364793385576792824) pr w) (Fast.tw6613529449190102663 11 (some (.ref 6))) 5300 (Mv w os) (topStub pr)).map (fun S =>
  (staticsOk (importedModules pr.main.body) (boot_heap w.params) S.abs.heap&&namesBound pr S.abs.heap&&gensDone S.abs&&laidKept (boot_heap w.params) S.abs.heap,Fast.tw4187177175401517315 vw loo (importedModules pr.main.body) xt true S.abs,chk (CY S.abs.heap ads))) =
  some (true,openGood vw loo,true):=Uu (UM w os) (NR (UI w os) (Uy w os) (UV w os) (UF w os) (Ux w os) (Uz w os))
theorem left:LeftO pr vw loo xt (hookOf ads chk).obs (hookOf ads chk).val 5300:=
 OG Ry Sm fun w os=>by
  have:=Q8 w os;rw[← (Fast.te10156331382660048174:@stepT=_),← (Fast.te11892475500146522536:@denote=_),← (Fast.te14364793385576792824:treeTable=_),← (Fast.te6613529449190102663:@stepOk=_),← (Fast.te4187177175401517315:@openSeen=_)] at this;exact this
end
section
theorem wsaid:PySem.Challenge.rw_pb0572_01.wellSaid=true:=by
 rw[(Fast.te9446332074065402090:@OpenLaw.wellSaid=_)]
 iterate 18 refine look_both ?_ (by as_aux_lemma=>kernel_rfl)
 as_aux_lemma=>kernel_rfl
end
section
theorem G2 {α β:Type} {f:α->β} (hf:∀a b,f a=f b->a=b):∀(xs ys:List α),xs.map f=ys.map f->xs=ys
 | [],[],_=>rfl
 | [],_::_,h=>by exact xNC h
 | _::_,[],h=>by exact xCN h
 | a::xs,b::ys,h=>by
  rw[List.map_cons,List.map_cons,List.cons.injEq] at h;rw[hf a b h.1,G2 hf xs ys h.2]
theorem AD {f:F} {x:Fn} {vs vs':List V} (hx:C7 f=some x) (hp:Fy f x.arity vs=some vs') (hm:vs'.map some++List.replicate (x.names.length - x.arity) none=m)
  (h:ws (lev n) none x.body m σ (FL Q) (Es E)):lev (n+1) false f vs σ Q E:=by
 subst hm;rw[lev];simp only[hx];exact⟨fun z=>(by exact xFT z),Ai vs' hp h⟩
theorem RF {f:F} {x:Fn} {vs vs':List V} (hx:C7 f=some x) (hp:Fy f x.arity vs=some vs') (hm:vs'.map some++List.replicate (x.names.length - x.arity) none=m) (hpl:plS x.body=true)
  (h:ws (fun _=>lev n true) none x.body m σ (FL Q) (Es E)):lev (n+1) true f vs σ Q E:=by
 subst hm;rw[lev];simp only[hx];exact⟨fun z=>hpl,Ai vs' hp h⟩
noncomputable abbrev G0 (Γ:Bool->Gam) (hd:Option Nat) (b:SS) (Q:QF) (E:EF):QF:=SI (ws Γ hd b) Q E
noncomputable abbrev bmQ (f:BM) (o:V) (σ:Store) (q:Prop):Prop:=Hg f o σ/\q
noncomputable abbrev limQ (n:Nat) (q:Prop):Prop:=n<=LIM/\q
theorem Af {c:Prop} {i:Decidable c} {a b:Prop} (h1:c->a) (h2:¬c->b):ifQ (decide c) a b:=by
 by_cases h:c
 ·rw[decide_eq_true h];exact h1 h
 ·rw[decide_eq_false h];exact h2 h
theorem ifQ_y {c:Prop} {i:Decidable c} {a b:Prop} (h:c) (k:a):ifQ (decide c) a b:=by rw[decide_eq_true h];exact k
theorem ifQ_n {c:Prop} {i:Decidable c} {a b:Prop} (h:¬c) (k:b):ifQ (decide c) a b:=by rw[decide_eq_false h];exact k
theorem AF {t:Bool} {a b:Prop} (h1:t=true->a) (h2:t=false->b):ifQ t a b:=by cases t;exact h2 rfl;exact h1 rfl
theorem ifQ_t {a b:Prop} (h:a):ifQ true a b:=h
theorem ifQ_f {a b:Prop} (h:b):ifQ false a b:=h
section
variable {Γ:Bool->Gam} {hd:Option Nat} {m m':Loc} {σ τ:Store} {Q:QF} {E:EF} {Qv:QV} {Ev:QE}
theorem Ku (h:Q .next m σ):ws Γ hd .nil m σ Q E:=h
theorem AO {a b:SS} (h:ws Γ hd a m σ (G0 Γ hd b Q E) E):ws Γ hd (.cons a b) m σ Q E:=by
 exact h
theorem AU {b:SS} (h:ws Γ hd b m σ Q E):G0 Γ hd b Q E .next m σ:=h
theorem Ah (h:Qv v σ):dropQ Qv v σ:=⟨σ,SubS.refl σ,h⟩
theorem AB (hs:SubS τ σ) (h:Qv v τ):dropQ Qv v σ:=⟨τ,hs,h⟩
theorem FH {e st n:Nat} (he:σ e=some (.exc st n at_)) (hs:1<=st) (h:Ev e σ):dropE Ev e σ:=⟨σ,SubS.refl σ,⟨st,n,at_,he,hs⟩,h⟩
theorem DC {x:X} (h:(wp (Γ false) x).x m σ (Tp Q m i) (atE E m)):ws Γ none (.asg i x) m σ Q E:=h
theorem Sd {x:X} (h:(wp (Γ false) x).x m σ (Rl Q m) (atE E m)):ws Γ none (.expr x) m σ Q E:=h
theorem Kl {x:X} (h:(wp (Γ false) x).x m σ (Sf Q m) (atE E m)):ws Γ none (.ret x) m σ Q E:=h
theorem He {c:X} {a b:SS} (h:(wp (Γ false) c).t m σ (TV (ws Γ none a) (ws Γ none b) m Q E) (atE E m)):ws Γ none (.ite c a b) m σ Q E:=h
theorem RQ {b h:SS} (hh:ws Γ none b m σ Q (Rk (fun e=>ws Γ (some e) h) n Q E)):ws Γ none (.try1 b n h) m σ Q E:=hh
theorem Kr {R:(EF)->EF} (I:EF) {n:Nat} (h0:I n m σ) (hs:∀n m σ,I n m σ->R I n m σ):∃I:EF,(∃n,I n m σ)/\∀n m σ,I n m σ->R I n m σ:=(Ai I ⟨n,h0⟩ hs)
theorem Ic {R:(EF)->EF} (I:EF) (h0:∃n,I n m σ) (hs:∀n m σ,I n m σ->R I n m σ):∃I:EF,(∃n,I n m σ)/\∀n m σ,I n m σ->R I n m σ:=(Ai I h0 hs)
noncomputable abbrev for1Sem (Γ:Bool->Gam) (i:Nat) (b:SS) (m:Loc) (Q:QF) (E:EF) (v:V) (σ₁:Store):Prop:=QJ (ws Γ none b) i m Q E v σ₁
noncomputable abbrev for2Sem (Γ:Bool->Gam) (i j:Nat) (b:SS) (m:Loc) (Q:QF) (E:EF) (v:V) (σ₁:Store):Prop:=Rh (ws Γ none b) i j m Q E v σ₁
theorem Mr {b:SS} (I:T->Loc->Store->Prop) (hl:s.length<=LIM) (h0:I s m σ)
  (hs:∀c cs m σ,I (c::cs) m σ->ws Γ none b (m.set i (some (.str [c]))) σ (Dd (I cs) Q) E) (he:∀m σ,I [] m σ->Q .next m σ):for1Sem Γ i b m Q E (.str s) σ:=by
 refine AZ (s.map fun c=>.str [c]) none rfl (by simpa using hl) (B9 (fun xs m σ=>∃t:T,xs=t.map (fun c=>.str [c])/\I t m σ) (Ai s rfl h0) ?_ ?_)
 ·intro y ys m σ z1_;refine e1a2 z1_ fun t e hI=>?_;clear z1_;cases t with
  | nil=>exact xCN e
  | cons c cs =>
   rw[List.map_cons] at e;refine xCC e fun z2_ z3_=>?_;subst z2_;subst z3_;refine⟨rfl,?_⟩;refine Eq.mp (congrArg (fun q=>ws Γ none b _ σ q E) (funext fun f=>funext fun m=>funext fun σ=>?_)) (hs c cs m σ hI);cases f <;> (try rfl) <;> simp only[Dd] <;> refine propext ⟨fun h=>(Ai cs rfl h),?_⟩
   all_goals
    intro z4_;refine e1a2 z4_ fun t e h=>?_;clear z4_;rw[G2 (fun a b z=>by cases z;rfl) _ _ e];exact h
 ·intro m σ z5_;refine e1a2 z5_ fun t e hI=>?_;clear z5_;cases t with
  | nil=>exact⟨rfl,he m σ hI⟩
  | cons c cs=>exact xNC e
theorem PF {b:SS} {lo hi st:Int} (I:List Int->Loc->Store->Prop) (h1:lo.natAbs < 2 ^ 40/\hi.natAbs < 2 ^ 40/\st.natAbs < 2 ^ 40/\st≠0) (hl:(Cl lo hi st).length<=LIM) (h0:I (Cl lo hi st) m σ)
  (hs:∀c cs m σ,I (c::cs) m σ->ws Γ none b (m.set i (some (.int c))) σ (Dd (I cs) Q) E) (he:∀m σ,I [] m σ->Q .next m σ):for1Sem Γ i b m Q E (.rng lo hi st) σ:=by
 have it:∀σ,AW σ (.rng lo hi st)=some ((Cl lo hi st).map .int,none):=fun σ=>by rw[AW,if_pos h1]
 refine AZ ((Cl lo hi st).map .int) none (it σ) (by simpa using hl) (B9 (fun xs m σ=>∃t:List Int,xs=t.map .int/\I t m σ) (Ai _ rfl h0) ?_ ?_)
 ·intro y ys m σ z1_;refine e1a2 z1_ fun t e hI=>?_;clear z1_;cases t with
  | nil=>exact xCN e
  | cons c cs =>
   rw[List.map_cons] at e;refine xCC e fun z2_ z3_=>?_;subst z2_;subst z3_;refine⟨it σ,?_⟩;refine Eq.mp (congrArg (fun q=>ws Γ none b _ σ q E) (funext fun f=>funext fun m=>funext fun σ=>?_)) (hs c cs m σ hI);cases f <;> (try rfl) <;> simp only[Dd] <;> refine propext ⟨fun h=>(Ai cs rfl h),?_⟩
   all_goals
    intro z4_;refine e1a2 z4_ fun t e h=>?_;clear z4_;rw[G2 (fun a b z=>by cases z;rfl) _ _ e];exact h
 ·intro m σ z5_;refine e1a2 z5_ fun t e hI=>?_;clear z5_;cases t with
  | nil=>exact⟨it σ,he m σ hI⟩
  | cons c cs=>exact xNC e
theorem DB:∀σ:Store,Ag σ (.ref a)=some xs->AW σ (.ref a)=some (xs,none):=by
 intro σ h;unfold Ag at h;unfold AW;dsimp only at h ⊢;cases q:σ a with
 | none=>rw[q] at h;exact xNS h
 | some c =>
  rw[q] at h;cases c <;> simp at h ⊢ <;> exact h
theorem GA {b:SS} (I:List V->Loc->Store->Prop) (hx:Ag σ (.ref a)=some xs) (hl:xs.length<=LIM) (h0:I xs m σ)
  (hs:∀y ys m σ,I (y::ys) m σ->Ag σ (.ref a)=some xs/\ws Γ none b (m.set i (some y)) σ (Dd (I ys) Q) E) (he:∀m σ,I [] m σ->Ag σ (.ref a)=some xs/\Q .next m σ):for1Sem Γ i b m Q E (.ref a) σ:=by
 have it:=DB (a:=a) (xs:=xs);exact AZ xs none (it σ hx) hl (B9 I h0 (fun y ys m σ hI=>⟨it _ (hs y ys m σ hI).1,(hs y ys m σ hI).2⟩) (fun m σ hI=>⟨it _ (he m σ hI).1,(he m σ hI).2⟩))
theorem Lg {i j:Nat} {b:SS} (I:List V->Loc->Store->Prop) (hx:Ag σ (.ref a)=some xs) (hl:xs.length<=LIM) (h0:I xs m σ)
  (hs:∀y ys m σ,I (y::ys) m σ->Ag σ (.ref a)=some xs/\∃u v,y=.tup [u,v]/\ws Γ none b ((m.set i (some u)).set j (some v)) σ (Dd (I ys) Q) E) (he:∀m σ,I [] m σ->Ag σ (.ref a)=some xs/\Q .next m σ):for2Sem Γ i j b m Q E (.ref a) σ:=by
 have it:=DB (a:=a) (xs:=xs);exact AZ xs none (it σ hx) hl (B9 I h0 (fun y ys m σ hI=>⟨it _ (hs y ys m σ hI).1,(hs y ys m σ hI).2⟩) (fun m σ hI=>⟨it _ (he m σ hI).1,(he m σ hI).2⟩))
theorem Ue {x:X} {e:Nat} (h:(wp (Γ true) x).x m σ (Sf Q m) (atE E m)):ws Γ (some e) (.ret x) m σ Q E:=h
end
section
variable {G:Gam} {m m':Loc} {σ τ:Store} {Q:QV} {Ql:QL} {Qt:QB} {E:QE}
theorem AI (hv:m[i]?=some (some v)) (h:Q v σ):(wp G (.var i)).x m σ Q E:=by
 show (match (m[i]?).join with | some v=>Q v σ | none=>False);rw[hv];exact h
theorem Sy {b:Bool} (h:Q (.bool b) σ):(wp G (.cBool b)).x m σ Q E:=h
theorem Dn {i:Int} (h:Q (.int i) σ):(wp G (.cInt i)).x m σ Q E:=h
theorem CL (h:Q (.str s) σ):(wp G (.cStr s)).x m σ Q E:=h
theorem UN (h:Q .none σ):(wp G .no).x m σ Q E:=h
theorem Ri {xs:X} (h:(wp G xs).l m σ (TW Q) E):(wp G (.tup xs)).x m σ Q E:=h
theorem Re {xs:X} (h:(wp G xs).l m σ (SX Q) E):(wp G (.lst xs)).x m σ Q E:=h
theorem Oc {k1 k2:T} {a b:X} (hk:k1≠k2) (h:(wp G a).x m σ (fun v σ₁=>(wp G b).x m σ₁ (fun w σ₂=>∀a ep,σ₂ a=none->Q (.ref a) (σ₂.set a (.dct ep [(k1,v),(k2,w)]))) E) E):(wp G (.dct2 k1 a k2 b)).x m σ Q E:=⟨hk,h⟩
theorem Tn {op:Op} {a b:X} (h:(wp G a).x m σ (kx (wp G b) m (Oi op Q) E) E):(wp G (.bin op a b)).x m σ Q E:=h
theorem F9 {op:Cop} {a b:X} (h:(wp G a).x m σ (kx (wp G b) m (TH op Q) E) E):(wp G (.cmp op a b)).x m σ Q E:=h
theorem Rb {a:X} (h:(wp G a).x m σ (isQ Q) E):(wp G (.isN a)).x m σ Q E:=h
theorem Oz {a:X} (h:(wp G a).x m σ (Rp Q) E):(wp G (.isNN a)).x m σ Q E:=h
theorem inQ_of {v w:V} {Q:Bool->Prop} {r:Bool} (hr:BR v w σ=some r) (h:Q r):inQ v w σ Q:=by rw[inQ,hr];exact h
theorem ninQ_no {v w:V} {Q:Bool->Prop} {r:Bool} (hr:BR v w σ=some r) (h:Q (!r)):ninQ v w σ Q:=by rw[ninQ,hr];exact h
theorem Dl {v w:V} {Q:Bool->Prop} {r:Bool} (hr:BR v w σ=some (!r)) (h:Q r):ninQ v w σ Q:=by
 unfold ninQ;rw[hr];cases r <;> exact h
theorem CT {t t':Bool} {a b:Prop} (e:t=t') (h:ifQ t' a b):ifQ t a b:=e▸h
theorem OM {a b:X} (h:(wp G a).x m σ (kx (wp G b) m (TT Q) E) E):(wp G (.inn a b)).x m σ Q E:=h
theorem Mw {c a b:X} (h:(wp G c).t m σ (TP (wp G a) (wp G b) m Q E) E):(wp G (.ite c a b)).x m σ Q E:=h
theorem FT {f:F} {xs:X} (h:(wp G xs).l m σ (O9 G f Q E) E):(wp G (.call f xs)).x m σ Q E:=h
theorem T4 {c:Cls} {f:F} {xs:X} (h:(wp G xs).l m σ (TC G c f Q E) E):(wp G (.new c f xs)).x m σ Q E:=h
theorem OK {f:F} {n:T} {o xs:X} (h:(wp G o).x m σ (QR G f (wp G xs) m Q E) E):(wp G (.meth f n o xs)).x m σ Q E:=h
theorem Mh {o:X} {n:T} (h:(wp G o).x m σ (QZ n Q) E):(wp G (.attr o n)).x m σ Q E:=h
theorem IG {a b:X} (h:(wp G a).x m σ (kx (wp G b) m (Ti Q) E) E):(wp G (.idx a b)).x m σ Q E:=h
theorem TY {a lo hi:X} (h:(wp G a).x m σ (SQ (wp G lo) (wp G hi) m Q E) E):(wp G (.slc a lo hi)).x m σ Q E:=h
theorem TK {f:BF} {xs:X} (h:(wp G xs).l m σ (kBf f Q) E):(wp G (.bf f xs)).x m σ Q E:=h
theorem Q0 {f:BM} {o xs:X} (h:(wp G o).x m σ (kBm f (wp G xs) m Q E) E):(wp G (.bm f o xs)).x m σ Q E:=h
theorem C8 (h:Ql [] σ):(wp G .nil).l m σ Ql E:=h
theorem AY {a b:X} (h:(wp G a).x m σ (kl (wp G b) m (QG Ql) E) E):(wp G (.cons a b)).l m σ Ql E:=h
theorem BA {b:Bool} (h:Qt b σ):Dv (.bool b) σ Qt:=h
theorem TO (h:(wp G (.var i)).x m σ (LJ Qt) E):(wp G (.var i)).t m σ Qt E:=h
theorem G3 {b:Bool} (h:Qt b σ):(wp G (.cBool b)).t m σ Qt E:=h
theorem F7 {op:Cop} {a b:X} (h:(wp G (.cmp op a b)).x m σ (LJ Qt) E):(wp G (.cmp op a b)).t m σ Qt E:=h
theorem Ra {a:X} (h:(wp G (.isN a)).x m σ (LJ Qt) E):(wp G (.isN a)).t m σ Qt E:=h
theorem OO {a:X} (h:(wp G (.isNN a)).x m σ (LJ Qt) E):(wp G (.isNN a)).t m σ Qt E:=h
theorem Pd {a b:X} (h:(wp G (.inn a b)).x m σ (LJ Qt) E):(wp G (.inn a b)).t m σ Qt E:=h
theorem NZ {a b:X} (h:(wp G a).t m σ (Ts (wp G b) m Qt E) E):(wp G (.and a b)).t m σ Qt E:=h
theorem RX {a b:X} (h:(wp G a).t m σ (tOr (wp G b) m Qt E) E):(wp G (.or a b)).t m σ Qt E:=h
end
end
theorem cs_eq_int {a b:Int} (h:Q (.bool (decide (a=b))) σ):cmpSem .eq (.int a) (.int b) σ Q:=.eq_int h
theorem cs_ne_int {a b:Int} (h:Q (.bool (decide (a≠b))) σ):cmpSem .ne (.int a) (.int b) σ Q:=.ne_int h
theorem cs_lt_int {a b:Int} (h:Q (.bool (decide (a < b))) σ):cmpSem .lt (.int a) (.int b) σ Q:=.lt_int h
theorem cs_gt_int {a b:Int} (h:Q (.bool (decide (b < a))) σ):cmpSem .gt (.int a) (.int b) σ Q:=.gt_int h
theorem cs_ge_int {a b:Int} (h:Q (.bool (decide (b<=a))) σ):cmpSem .ge (.int a) (.int b) σ Q:=.ge_int h
theorem cs_eq_str {a b:T} (h:Q (.bool (decide (a=b))) σ):cmpSem .eq (.str a) (.str b) σ Q:=.eq_str h
theorem cs_ne_str {a b:T} (h:Q (.bool (decide (a≠b))) σ):cmpSem .ne (.str a) (.str b) σ Q:=.ne_str h
theorem cs_ne_bool {a b:Bool} (h:Q (.bool (decide (a≠b))) σ):cmpSem .ne (.bool a) (.bool b) σ Q:=.ne_bool h
theorem bs_add_int {a b:Int} (h:Q (.int (a+b)) σ):binSem .add (.int a) (.int b) σ Q:=.add_int h
theorem bs_sub_int {a b:Int} (h:Q (.int (a - b)) σ):binSem .sub (.int a) (.int b) σ Q:=.sub_int h
theorem Bx {a b:Int} (hb:a.natAbs < 2 ^ 63∨b.natAbs < 2 ^ 63) (h:Q (.int (a*b)) σ):binSem .mul (.int a) (.int b) σ Q:=.mul_int hb h
theorem bs_add_str {a b:T} (hl:a.length+b.length<=LIM) (h:Q (.str (a++b)) σ):binSem .add (.str a) (.str b) σ Q:=.add_str hl h
theorem bs_neg {a:Int} (h:Q (.int (-a)) σ):negSem (.int a) σ Q:=.mk h
theorem P2 (h:Q (.bool true) σ):isQ Q .none σ:=h
theorem PG (h:Q (.bool false) σ):isQ Q (.str s) σ:=h
theorem K5 (h:Q (.bool true) σ):Rp Q (.str s) σ:=h
theorem bf_tup_t (h:Q (.bool true) σ):bfSem .isTup [.tup vs] σ Q:=.tup_t h
theorem ifQ_not {t:Bool} {a b:Prop} (h:ifQ t b a):ifQ (!t) a b:=by cases t <;> exact h
theorem lm {q:Prop} (h:n<=LIM) (k:q):n<=LIM/\q:=⟨h,k⟩
theorem AL (h:vs.length<=LIM) (k:∀a,σ a=none->Q (.ref a) (σ.set a (.lst vs))):newL σ vs Q:=⟨h,k⟩
theorem ch_int {T:Int->Prop} {F:Prop} {a b:Int} (h:ifQ (decide (a<=b)) (T b) F):ChR T F (.int a) (.int b):=by
 by_cases z:a<=b
 ·rw[decide_eq_true z] at h;exact .yes z h
 ·rw[decide_eq_false z] at h;exact .no z h
theorem ex_int {q:Prop} {a:Int} (h:q):(∃k,V.int a=.int k)/\q:=⟨⟨a,rfl⟩,h⟩
theorem ex_tup2 {Q:QF} {i j:Nat} {u v:V} (h:Q .next ((m.set i (some u)).set j (some v)) σ):∃a b,V.tup [u,v]=.tup [a,b]/\Q .next ((m.set i (some a)).set j (some b)) σ:=(BD u v rfl h)
theorem len_str (h:s.length<=LIM) (k:Q (.int s.length) σ):bfSem .len [.str s] σ Q:=.len_str h k
theorem len_ref {s:List V} (e:Ag σ (.ref a)=some s) (h:s.length<=LIM) (k:Q (.int s.length) σ):bfSem .len [.ref a] σ Q:=.len_ref s e h k
theorem len_lst {s:List V} (e:σ a=some (.lst s)) (h:s.length<=LIM) (k:Q (.int s.length) σ):bfSem .len [.ref a] σ Q:=len_ref (by unfold Ag;dsimp only;rw[e]) h k
theorem len_fin {s:List V} (e:σ a=some (.fin s)) (h:s.length<=LIM) (k:Q (.int s.length) σ):bfSem .len [.ref a] σ Q:=len_ref (by unfold Ag;dsimp only;rw[e]) h k
theorem len_set {s:List V} (h:s.length<=LIM) (k:Q (.int s.length) (σ.set a (.lst s))):bfSem .len [.ref a] (σ.set a (.lst s)) Q:=len_lst (Aa _ _ _) h k
theorem ord_str (k:Q (.int c) σ):bfSem .ord [.str [c]] σ Q:=.ord k
theorem AM {i:Int} (h:s.length<=LIM) (h0:0<=i) (hc:s[i.toNat]?=some c) (k:Q (.str [c]) σ):idxSem (.str s) (.int i) σ Q:=.str h h0 hc k
theorem idx_tup {s:List V} {i:Int} {x:V} (h:s.length<=LIM) (h0:0<=i) (hc:s[i.toNat]?=some x) (k:Q x σ):idxSem (.tup s) (.int i) σ Q:=.tup h h0 hc k
theorem By {key:T} {x:V} (e:dictAt σ (.ref a)=some kvs) (hc:Da kvs key=some x) (k:Q x σ):idxSem (.ref a) (.str key) σ Q:=.dct e hc k
theorem Bz {l u:V} {lo hi:Option Int} (hl:Fv l=some lo) (hu:Fv u=some hi) (h:s.length<=LIM) (k:Q (.str (Cr s lo hi)) σ):slcSem (.str s) l u σ Q:=.str hl hu h k
theorem BJ {s:List V} {l u:V} {lo hi:Option Int} (hl:Fv l=some lo) (hu:Fv u=some hi) (e:Ag σ (.ref a)=some s) (h:s.length<=LIM) (k:newL σ (Cr s lo hi) Q):slcSem (.ref a) l u σ Q:=.lst hl hu e h k
theorem BC {x:V} (e:σ a=some (.lst xs)) (h:xs.length<=LIM) (k:Q .none (σ.set a (.lst (xs++[x])))):bmSem .append (.ref a) [x] σ Q:=.append e h k
theorem BB {q:Prop} (e:σ a=some (.lst xs)) (k:q):Hg .append (.ref a) σ/\q:=⟨.append e,k⟩
theorem bm_strp {f:BM} {q:Prop} (hf:f.isStr=true) (k:q):Hg f (.str s) σ/\q:=⟨.str hf,k⟩
theorem Aj (σ:Store) (a:Nat) (c d:Cell):(σ.set a c).set a d=σ.set a d:=by
 funext b;simp only[Store.set];split <;> rfl
theorem Ar {a b:Nat} {c d:Cell} (h:σ b=some c) (ha:σ a=none):(σ.set a d) b=some c:=by
 rw[Ab];exact h;intro z;subst z;rw[ha] at h;exact xNS h
theorem Bg {a b:Nat} {c:Cell} (h:σ b=some c) (ha:σ a=none):b≠a:=by
 intro z;subst z;rw[ha] at h;exact xNS h
theorem Ac (h:σ a=some (.lst vs)):Ag σ (.ref a)=some vs:=by unfold Ag;dsimp only;rw[h]
theorem HO (h:σ a=some (.fin vs)):Ag σ (.ref a)=some vs:=by unfold Ag;dsimp only;rw[h]
theorem Az {a ep:Nat} (h:σ a=some (.dct ep kvs)):dictAt σ (.ref a)=some kvs:=by unfold dictAt;dsimp only;rw[h]
theorem Al {σ τ:Store} (h:Ag σ v=some vs) (k:SubS σ τ):Ag τ v=some vs:=by
 cases v <;> try exact xNS h
 rename_i a;unfold Ag at h ⊢;dsimp only at h ⊢;cases e:σ a with
 | none=>rw[e] at h;exact xNS h
 | some c=>rw[e] at h;rw[k _ _ e];exact h
theorem SubS.new {c:Cell} (h:σ a=none):SubS σ (σ.set a c):=fun _ _ e=>Ar e h
theorem SubS.put {σ τ:Store} {c:Cell} (h:SubS σ τ) (ha:τ a=some c):SubS (σ.set a c) τ:=fun b d e=>by
 by_cases z:b=a
 ·subst z;rw[Aa] at e;obtain rfl:=xSS e;exact ha
 ·rw[Ab _ _ z] at e;exact h _ _ e
theorem Jl {σ τ:Store} {c:Cell} (h:∀b d,b≠a->σ b=some d->τ b=some d) (ha:τ a=some c):SubS (σ.set a c) τ:=fun b d e=>by
 by_cases z:b=a
 ·subst z;rw[Aa] at e;obtain rfl:=xSS e;exact ha
 ·rw[Ab _ _ z] at e;exact h _ _ z e
theorem SubS.turn {σ τ:Store} {c:Cell} (h:SubS σ τ) (ha:σ a=none):SubS σ (τ.set a c):=fun b d e=>by
 rw[Ab _ _ (Bg e ha)];exact h _ _ e
theorem SubS.none {σ τ:Store} (h:SubS σ τ) (ha:τ a=none):σ a=none:=by
 cases q:σ a with
 | none=>rfl
 | some c=>rw[h _ _ q] at ha;exact xSN ha
local macro_rules | `(tactic| walk_at $s)=>do
 let n:=s.getString
 if n != "w"&&n != "wd"&&n != "w1" then Lean.Macro.throwUnsupported
 let d ← `(by k_dflt (first | assumption | rfl | (simp[LIM];done) | (simp only[LIM,List.length_cons,List.length_append,List.length_map,List.length_nil] at *;omega) | decide))
 let r ← `(tactic| refine x)
 let c ← `((?_:x ..))
 let q ← `(?_)
 let t ← ("cs_eq_str cs_eq_int cs_lt_int cs_ge_int cs_gt_int cs_ne_str cs_ne_int cs_ne_bool bs_add_int bs_sub_int ,bs_add_str ifQ_t ifQ_f ifQ_not ,len_str ,,len_ref ,,len_lst ,,len_fin ,len_set bf_tup_t ord_str ,lm ,bm_strp ,,,idx_tup bs_neg ch_int IntR.mk ex_int ex_tup2|,inQ_of ,ninQ_no|:inQ :ninQ :ifQ :lev :cmpSem :binSem :idxSem :bfSem :bmQ :dropQ :newL :bmSem :attrSem :for1Sem :for2Sem :IntR :setISem :setASem :slcSem :ChR :negSem :dropE :limQ :Exists|ifQ_t ifQ_f ,ifQ_n ,ifQ_y".splitOn "|").toArray.mapM fun g=>do
  let l:=(g.splitOn " ").toArray.map fun w=>(⟨r.raw.setArg 1 (match w.splitOn ":" with
   | [_,f]=>c.raw.modifyArg 3 (·.modifyArg 0 (·.setArg 0 (Lean.mkIdent f.toName)))
   | _ =>
    let p:=w.splitOn ","
    Lean.Syntax.mkApp (Lean.mkIdent p.getLast!.toName) (p.tail.toArray.map (fun _=>d) |>.push q))⟩ : Lean.TSyntax `tactic)
  `(tactic| first $[| $l:tactic]*)
 let f:=t[2]!
 let w ← `(tactic| first | (with_reducible $(t[0]!):tactic) | $(t[1]!):tactic | ((fail_if_success (with_reducible $f:tactic));$f:tactic))
 if n="w1" then return w else if n="w" then `(tactic| repeat $w:tactic) else `(tactic| repeat (first | $w:tactic | $(t[3]!):tactic))
noncomputable def Cp:T:=[32,35,43,45,48,49,50,51,52,53,54,55,56,57,97,98,102,120,122,123,125]
noncomputable def okt (t:T):Prop:=∀c∈t,c∈Cp
theorem Ps (h:c∈Cp):([V.str [32],V.str [9],V.str [10],V.str [11],V.str [12],V.str [13]].any fun x=>V.same x (.str [c]))=(c==32):=by
 revert c;decide
theorem BW {n c:Nat} (hc:c∈Cp) (h:Q (.bool (c==32)) σ):lev (n+1) false .is_blank [.str [c]] σ Q E:=by
 refine AD (m:=[some (.str [c])]) rfl rfl rfl ?_;dsimp only[Gb];walk_at"w";rw[Ps hc];exact Ah h
noncomputable def BV (c:Nat):Int:=if 48<=c/\c<=57 then c - 48 else if 97<=c/\c<=122 then c - 87 else if 65<=c/\c<=90 then c - 55 else -1
theorem Q1 {n c:Nat} (h:Q (.int (BV c)) σ):lev (n+1) false .digit [.str [c]] σ Q E:=by
 refine AD (m:=[some (.str [c]),none]) rfl rfl rfl ?_;dsimp only[KI];unfold BV at h;have y {k j:Nat} (a:k<=j):(k:Int)<=(j:Int):=Int.ofNat_le.2 a;have n {k j:Nat} (a:j < k):¬(k:Int)<=(j:Int):=fun z=>Nat.not_le_of_lt a (Int.ofNat_le.1 z);walk_at"w";by_cases a:48<=c
 ·refine ifQ_y (y a) ?_;walk_at"w";by_cases b:c<=57
  ·rw[if_pos ⟨a,b⟩] at h;refine ifQ_y (y b) ?_;walk_at"w";exact Ah h
  ·have b:=Nat.lt_of_not_le b;rw[if_neg fun z=>Nat.not_le_of_lt b z.2] at h;refine ifQ_n (n b) ?_;walk_at"w";by_cases d:97<=c
   ·refine ifQ_y (y d) ?_;walk_at"w";by_cases e:c<=122
    ·rw[if_pos ⟨d,e⟩] at h;refine ifQ_y (y e) ?_;walk_at"w";exact Ah h
    ·have e:=Nat.lt_of_not_le e;rw[if_neg fun z=>Nat.not_le_of_lt e z.2,if_neg fun z=>Nat.not_le_of_lt (Nat.lt_trans (by decide) e) z.2] at h;refine ifQ_n (n e) ?_;walk_at"w";refine ifQ_y (y (Nat.le_trans (by decide) d)) ?_;walk_at"w";refine ifQ_n (n (Nat.lt_trans (by decide) e)) ?_;walk_at"w";exact Ah h
   ·have d:=Nat.lt_of_not_le d;rw[if_neg fun z=>Nat.not_le_of_lt d z.1] at h;refine ifQ_n (n d) ?_;walk_at"w";by_cases e:65<=c
    ·refine ifQ_y (y e) ?_;walk_at"w";by_cases f:c<=90
     ·rw[if_pos ⟨e,f⟩] at h;refine ifQ_y (y f) ?_;walk_at"w";exact Ah h
     ·have f:=Nat.lt_of_not_le f;rw[if_neg fun z=>Nat.not_le_of_lt f z.2] at h;refine ifQ_n (n f) ?_;walk_at"w";exact Ah h
    ·have e:=Nat.lt_of_not_le e;rw[if_neg fun z=>Nat.not_le_of_lt e z.1] at h;refine ifQ_n (n e) ?_;walk_at"w";exact Ah h
 ·have a:=Nat.lt_of_not_le a;rw[if_neg fun z=>Nat.not_le_of_lt a z.1,if_neg fun z=>Nat.not_le_of_lt (Nat.lt_trans a (by decide)) z.1,if_neg fun z=>Nat.not_le_of_lt (Nat.lt_trans a (by decide)) z.1] at h;refine ifQ_n (n a) ?_;walk_at"w";refine ifQ_n (n (Nat.lt_trans a (by decide))) ?_;walk_at"w";refine ifQ_n (n (Nat.lt_trans a (by decide))) ?_;walk_at"w";exact Ah h
noncomputable abbrev AG:=T × List T
noncomputable def tx (s:String):T:=s.toList.map Char.toNat
noncomputable def Ae (l:List T):List V:=l.map .str
structure FaultAt (at_:List (T × V)) (f:AG):Prop where
 code:at_.lookup [99,111,100,101]=some (.int 1)
 value:at_.lookup [118,97,108,117,101]=some (.str f.1)
 err:at_.lookup [101,114,114,111,114,99,111,100,101]=some (.tup (Ae f.2))
theorem C9 (at_:List (T × V)) (n:T) (x:V):(Cf at_ n x).lookup n=some x:=by
 unfold Cf;split
 ·rename_i h;induction at_ with
  | nil=>exact xFT h
  | cons p r ih =>
   rw[List.map_cons];by_cases e:p.1=n
   ·subst e;simp
   ·have e1:(p.1==n)=false:=by simpa using e
    have e2:(n==p.1)=false:=by simpa using fun z:n=p.1=>e z.symm
    rw[List.any_cons,e1,Bool.false_or] at h;rw[e1,if_neg (by simp)];rw[show p=(p.1,p.2) from rfl,List.lookup_cons,e2];exact ih h
 ·rename_i h;induction at_ with
  | nil=>simp
  | cons p r ih =>
   rw[List.any_cons,Bool.or_eq_true,not_or] at h;have e2:(n==p.1)=false:=by
    have:=h.1;simp only[beq_iff_eq] at this;simpa using fun z:n=p.1=>this z.symm
   rw[List.cons_append,show p=(p.1,p.2) from rfl,List.lookup_cons,e2];exact ih h.2
theorem CI (at_:List (T × V)) {n k:T} (x:V) (hn:(n==k)=false):(Cf at_ k x).lookup n=at_.lookup n:=by
 have hk:k≠n:=by
  intro z;subst z;simp at hn
 unfold Cf;split
 ·rename_i h;clear h;induction at_ with
  | nil=>rfl
  | cons p r ih =>
   rw[List.map_cons];by_cases e:p.1=k
   ·have e1:(p.1==k)=true:=by simpa using e
    rw[e1,if_pos rfl,List.lookup_cons];rw[show p=(p.1,p.2) from rfl,List.lookup_cons,e,hn];exact ih
   ·have e1:(p.1==k)=false:=by simpa using e
    rw[e1,if_neg (by simp)];rw[show p=(p.1,p.2) from rfl,List.lookup_cons,List.lookup_cons];split
    ·rfl
    ·exact ih
 ·rename_i h;clear h;induction at_ with
  | nil=>rw[List.nil_append,List.lookup_cons,hn]
  | cons p r ih =>
   rw[List.cons_append,show p=(p.1,p.2) from rfl,List.lookup_cons,List.lookup_cons,ih]
theorem O2 {n:T} {x:V} {Q:Store->Prop} (e:σ a=some .nex) (h:Q (σ.set a (.exc 0 1 [(n,x)]))):setASem (.ref a) n x σ Q:=.nex e h
theorem Cz {a st k:Nat} {n:T} {x:V} {Q:Store->Prop} (e:σ a=some (.exc st k at_)) (hk:k<=100) (h:∀k',k'<=k+1->Q (σ.set a (.exc st k' (Cf at_ n x)))):setASem (.ref a) n x σ Q:=.exc e hk (h _ (by split <;> first | exact U25 _ | exact U52 _))
theorem CU {a k:Nat} {c:Cls} {n:T} {x:V} {Q:Store->Prop} (e:σ a=some (.obj c k at_)) (hk:k<=100) (h:∀k',k'<=k+1->Q (σ.set a (.obj c k' (Cf at_ n x)))):setASem (.ref a) n x σ Q:=.obj e hk (h _ (by split <;> first | exact U25 _ | exact U52 _))
theorem PR {q:Prop} (e:σ a=some .nex) (h:q):∃a' v',[V.ref a,v]=[.ref a',v']/\σ a'=some .nex/\q:=(AZ a v rfl e h)
theorem Ih {n a:Nat} {b:Bool} {code value ec:V} (ha:σ a=some .nex)
  (h:∀k at_,at_.lookup [99,111,100,101]=some code->at_.lookup [118,97,108,117,101]=some value->at_.lookup [101,114,114,111,114,99,111,100,101]=some ec->Q .none (σ.set a (.exc 0 k at_))) :
  lev (n+1) b .raised_init [.ref a,code,value,ec] σ Q E:=by
 have key:∀Γ:Bool->Gam,ws Γ none CK [some (.ref a),some code,some value,some ec,some (.int 0),some (.int 0)] σ (FL Q) (Es E):=by
  intro Γ;dsimp only[CK];walk_at"w";refine PR ha ?_;walk_at"w";refine O2 ha ?_;walk_at"w";refine Cz (Aa _ _ _) (by decide) (fun k1 hk1=>?_);rw[Aj];walk_at"w";refine Cz (Aa _ _ _) (by exact lin 1 0 [.l Z0 (.a (.c 1) (.c 1))] (.l Z0 (.c 100)) [] R0 _ hk1) (fun k2 hk2=>?_);rw[Aj];walk_at"w";refine Cz (Aa _ _ _) (by exact lin 2 0 [.l Z0 (.a (.c 1) (.c 1)),.l Z1 (.a Z0 (.c 1))] (.l Z1 (.c 100)) [] R0 _ _ hk1 hk2) (fun k3 hk3=>?_);rw[Aj];walk_at"w";refine Cz (Aa _ _ _) (by exact lin 3 0 [.l Z0 (.a (.c 1) (.c 1)),.l Z1 (.a Z2 (.c 1)),.l Z2 (.a Z0 (.c 1))] (.l Z1 (.c 100)) [] R0 _ _ _ hk1 hk3 hk2) (fun k4 hk4=>?_);rw[Aj];walk_at"w";refine Cz (Aa _ _ _) (by exact lin 4 0 [.l Z0 (.a (.c 1) (.c 1)),.l Z1 (.a Z2 (.c 1)),.l Z3 (.a Z0 (.c 1)),.l Z2 (.a Z3 (.c 1))] (.l Z1 (.c 100)) [] R0 _ _ _ _ hk1 hk4 hk2 hk3) (fun k5 hk5=>?_);rw[Aj];walk_at"w";refine Cz (Aa _ _ _) (by exact lin 5 0 [.l Z0 (.a (.c 1) (.c 1)),.l Z1 (.a Z2 (.c 1)),.l Z3 (.a Z0 (.c 1)),.l Z4 (.a Z3 (.c 1)),.l Z2 (.a Z4 (.c 1))] (.l Z1 (.c 100)) [] R0 _ _ _ _ _ hk1 hk5 hk2 hk3 hk4) (fun k6 hk6=>?_);rw[Aj];walk_at"w";refine Cz (Aa _ _ _) (by exact lin 6 0 [.l Z0 (.a (.c 1) (.c 1)),.l Z1 (.a Z2 (.c 1)),.l Z3 (.a Z0 (.c 1)),.l Z4 (.a Z3 (.c 1)),.l Z5 (.a Z4 (.c 1)),.l Z2 (.a Z5 (.c 1))] (.l Z1 (.c 100)) [] R0 _ _ _ _ _ _ hk1 hk6 hk2 hk3 hk4 hk5) (fun k7 hk7=>?_);rw[Aj];walk_at"w";refine AL (by decide) (fun x hx=>?_);walk_at"w";have hxa:a≠x:=fun z=>by rw[← z,Aa] at hx;exact xSN hx
  refine Cz (by rw[Ab _ _ hxa];exact Aa _ _ _) (by exact lin 7 0 [.l Z0 (.a (.c 1) (.c 1)),.l Z1 (.a Z2 (.c 1)),.l Z3 (.a Z0 (.c 1)),.l Z4 (.a Z3 (.c 1)),.l Z5 (.a Z4 (.c 1)),.l Z6 (.a Z5 (.c 1)),.l Z2 (.a Z6 (.c 1))] (.l Z1 (.c 100)) [] R0 _ _ _ _ _ _ _ hk1 hk7 hk2 hk3 hk4 hk5 hk6) (fun k8 hk8=>?_);walk_at"w";refine AB (Jl (fun b d hb e=>?_) (Aa _ _ _)) (h k8 _ ?_ ?_ ?_)
  ·rw[Ab _ _ (Ne.symm hxa)] at hx;rw[Ab _ _ hb,Ab _ _ (Bg e hx),Ab _ _ hb];exact e
  ·iterate 8 rw[CI _ _ (by decide)]
   rfl
  ·iterate 7 rw[CI _ _ (by decide)]
   exact C9 _ _ _
  ·iterate 6 rw[CI _ _ (by decide)]
   exact C9 _ _ _
 cases b with
 | false=>exact AD rfl rfl rfl (key _)
 | true=>exact RF rfl rfl rfl rfl (key _)
theorem Dm {b:Bool} {f:AG} (h:∀e k at_,σ e=none->FaultAt at_ f->Q (.ref e) (σ.set e (.exc 0 k at_))) :
  lev (n+2) b .error [.str f.1,.tup (Ae f.2)] σ Q E:=by
 have key:∀Γ:Bool->Gam,Γ false=lev (n+1) b->ws Γ none HV [some (.str f.1),some (.tup (Ae f.2))] σ (FL Q) (Es E):=by
  intro Γ hΓ;dsimp only[HV];refine(?_:_<=1000/\_);refine⟨by simp,fun a ha=>?_⟩;show Γ false .raised_init _ _ _ _;rw[hΓ];refine Ih (Aa _ _ _) fun k at_ h1 h2 h3=>?_;rw[Aj];refine⟨rfl,?_⟩;walk_at"w";exact Ah (h a k at_ ha ⟨h1,h2,h3⟩)
 cases b with
 | false=>exact AD rfl rfl rfl (key _ rfl)
 | true=>exact RF rfl rfl rfl rfl (key _ rfl)
theorem BZ {e k:Nat} {f:AG} (he:σ e=none) (hf:FaultAt at_ f) (h:∀e k at_,σ e=none->FaultAt at_ f->E e (σ.set e (.exc 1 k at_))) :
  ∃e' n' at',V.ref e=.ref e'/\(σ.set e (.exc 0 k at_)) e'=some (.exc 0 n' at')/\dropE E e' ((σ.set e (.exc 0 k at_)).set e' (.exc 1 n' at')):=
 (Kn e k at_ rfl (Aa _ _ _) (by rw[Aj];exact FH (Aa _ _ _) (Nat.le_refl _) (h e k at_ he hf)))
theorem I9 {σ τ:Store} {e k:Nat} {f:AG} (hs:SubS σ τ) (he:τ e=none) (hf:FaultAt at_ f) (h:∀e k at_,σ e=none->FaultAt at_ f->E e (σ.set e (.exc 1 k at_))) :
  ∃e' n' at',V.ref e=.ref e'/\(τ.set e (.exc 0 k at_)) e'=some (.exc 0 n' at')/\dropE E e' ((τ.set e (.exc 0 k at_)).set e' (.exc 1 n' at')):=by
 refine Kn e k at_ rfl (Aa _ _ _) ?_;rw[Aj];exact⟨σ.set e (.exc 1 k at_),SubS.put (hs.turn (hs.none he)) (Aa _ _ _),⟨1,k,at_,Aa _ _ _,Nat.le_refl _⟩,h e k at_ (hs.none he) hf⟩
theorem Oy (n:Nat) (h:¬(n:Int) % 2=1):(Builtin.Range.rangeSize 0 (n:Int) 2).toNat=n / 2:=by unfold Builtin.Range.rangeSize;rw[if_pos (by decide)];split <;> omega
theorem QX (n:Nat) (h:¬(n:Int) % 2=1):n<=2*(n / 2):=by omega
theorem Oa (h:¬(n:Int) % 2=1):¬n % 2=1:=by omega
theorem OZ (h:(n:Int) % 2=1):n % 2=1:=by omega
theorem lt8 {p:Nat} (h:p < 8):p=0∨p=1∨p=2∨p=3∨p=4∨p=5∨p=6∨p=7:=(by decide:∀p,p < 8->p=0∨p=1∨p=2∨p=3∨p=4∨p=5∨p=6∨p=7) p h
theorem ST {n k:Nat} (h:k < n):n - (k+1)+1=n - k:=by omega
theorem dv4 {l b:Nat} (h:4*l<=5*b+300):l<=(5*b+300) / 4+1:=by omega
theorem dv5 {l b:Nat} (h:l<=b):l<=(5*b+300) / 4+1:=by omega
section
noncomputable def skip (t:T):T:=t.dropWhile (·==32)
noncomputable def AA (t:T):T:=t.takeWhile (· != 32)
noncomputable def rest (t:T):T:=t.dropWhile (· != 32)
noncomputable def clo:Nat->T->Option (T × T)
 | _,[]=>none
 | d,c::r=>if c=125 then (if d=1 then some ([],r) else (clo (d - 1) r).map fun p=>(c::p.1,p.2)) else (clo (if c=123 then d+1 else d) r).map fun p=>(c::p.1,p.2)
set_option genCtorIdx true in
inductive Bad | brace | junk (b:T)
noncomputable def Bu (t:T):Option (Except Bad (T × T)):=match skip t with
 | []=>none
 | c::r=>if c=123 then (match clo 1 r with
    | none=>some (.error .brace)
    | some (i,q)=>if AA q=[] then some (.ok (i,q)) else some (.error (.junk ((AA q).take 20))))
   else some (.ok (AA (c::r),rest (c::r)))
theorem HY:∀(t:T) (d:Nat) (i q:T),clo d t=some (i,q)->t=i++125::q:=by
 intro t;induction t with
 | nil=>intro d i q h;exact xNS h
 | cons c r ih =>
  intro d i q h;rw[clo] at h;split at h
  ·rename_i hc;subst hc;split at h
   ·refine xPr (xSS h) fun z38_ z39_=>?_;subst z38_;subst z39_;rfl
   ·rw[Option.map_eq_some_iff] at h;refine e1a2 h fun z1_ h1 h2=>?_;clear h;obtain⟨i',q'⟩:=z1_;refine xPr h2 fun z2_ z3_=>?_;subst z2_;subst z3_;rw[ih _ _ _ h1];rfl
  ·rw[Option.map_eq_some_iff] at h;refine e1a2 h fun z4_ h1 h2=>?_;clear h;obtain⟨i',q'⟩:=z4_;refine xPr h2 fun z5_ z6_=>?_;subst z5_;subst z6_;rw[ih _ _ _ h1];rfl
theorem CB (t:T):AA t++rest t=t:=List.takeWhile_append_dropWhile
theorem HG (t:T):(skip t).length<=t.length:=(List.dropWhile_sublist _).length_le
theorem Cv {t x q:T} (h:Bu t=some (.ok (x,q))):q.length < t.length:=by
 have hs:=HG t;unfold Bu at h;split at h
 ·exact xNS h
 ·rename_i c r e;rw[e] at hs;split at h
  ·split at h
   ·exact xEO (xSS h)
   ·rename_i i q' hc;split at h
    ·refine xPr (xOO ((xSS h))) fun z1_ z2_=>?_;subst z1_;subst z2_;have:=congrArg List.length (HY _ _ _ _ hc);simp at this hs;exact lin 4 0 [.e Z0 (.a Z1 (.a Z2 (.c 1))),.l (.a Z0 (.c 1)) Z3] (.t Z2 Z3) [[0,1,1,1]] R0 _ _ _ _ this hs
    ·exact xEO (xSS h)
  ·rename_i hc;refine xPr (xOO ((xSS h))) fun z3_ z4_=>?_;subst z3_;subst z4_;have h1:c≠32:=by
    intro z;subst z;have:(skip t).head?=some 32:=by rw[e];rfl
    unfold skip at this;have:=List.head?_dropWhile_not (p:=(·==32)) t;rw[show (List.dropWhile (fun x=>x==32) t)=skip t from rfl,e] at this;simp at this
   have h2:rest (c::r)=rest r:=by unfold rest;simp[h1]
   have h3:=(List.dropWhile_sublist (l:=r) (fun x=>x != 32)).length_le;rw[h2];unfold rest;simp at hs;exact lin 3 0 [.l (.a Z0 (.c 1)) Z1,.l Z2 Z0] (.t Z2 Z1) [] R0 _ _ _ hs h3
noncomputable def A0 (t:T):Except Bad (List T):=match h:Bu t with
 | none=>.ok []
 | some (.error e)=>.error e
 | some (.ok (x,q))=>(A0 q).map (x::·)
termination_by t.length
decreasing_by exact Cv h
theorem Av (h:Bu t=none):A0 t=.ok []:=by
 rw[A0];split <;> rename_i e <;> rw[h] at e <;> first | rfl | exact xNS e
theorem AT {e:Bad} (h:Bu t=some (.error e)):A0 t=.error e:=by
 rw[A0];split <;> rename_i e' <;> rw[h] at e' <;> first | ((first | exact xSN e' | obtain rfl:=xEE ((xSS e')) | exact xEO (xSS e'));rfl) | (first | exact xSN e' | exact xEO (xSS e'))
theorem B4 {t x q:T} (h:Bu t=some (.ok (x,q))):A0 t=(A0 q).map (x::·):=by
 rw[A0];split <;> rename_i e' <;> rw[h] at e' <;> first | ((first | exact xSN e' | exact xOE (xSS e') | (refine xPr (xOO ((xSS e'))) fun z42_ z43_=>?_;subst z42_;subst z43_));rfl) | (first | exact xSN e' | exact xOE (xSS e'))
noncomputable def Bad.pre:Bad->T
 | .brace=>tx "unmatched open brace in "
 | .junk _=>[]
noncomputable def Bad.suf:Bad->T
 | .brace=>[]
 | .junk b=>tx " element in braces followed by \""++b++tx "\" instead of space"
noncomputable def Bad.kind:Bad->T
 | .brace=>tx "BRACE"
 | .junk _=>tx "JUNK"
noncomputable def AH (e:Bad):AG:=(e.pre++tx "list"++e.suf,[tx "TCL",tx "VALUE",tx "LIST",e.kind])
noncomputable def Cb (e:Bad):AG:=(e.pre++tx "dict"++e.suf,[tx "TCL",tx "VALUE",tx "DICTIONARY",e.kind])
theorem BU {p:Nat} (h:p < t.length):∃c,t[p]?=some c/\t.drop p=c::t.drop (p+1)/\c∈t:=
 (B9 (t[p]) (List.getElem?_eq_getElem h) (List.drop_eq_getElem_cons h) (List.getElem_mem h))
theorem Dx (n i:Nat):Bp n (i:Int)=min i n:=by unfold Bp;rw[if_neg (by exact lin 1 0 [] (.n (.T (.o Z0) (.c 0))) [] R0 _)];rfl
theorem GH {α:Type} (s:List α) (lo hi:Nat):Cr s (some (lo:Int)) (some (hi:Int))=(s.take hi).drop lo:=by
 unfold Cr;simp only[Option.map_some,Option.getD_some,Dx];have h1:s.take (min hi s.length)=s.take hi:=by
  rcases Nat.le_total hi s.length with h | h
  ·rw[Nat.min_eq_left h]
  ·rw[Nat.min_eq_right h,List.take_of_length_le h,List.take_of_length_le (Nat.le_refl _)]
 rw[h1];rcases Nat.le_total lo s.length with h | h
 ·rw[Nat.min_eq_left h]
 ·rw[Nat.min_eq_right h,List.drop_of_length_le (by rw[List.length_take];exact lin 2 0 [] (.l (.n Z0 Z1) Z1) [[],[0,1]] R0 _ _),List.drop_of_length_le (by rw[List.length_take];exact lin 3 0 [.l Z0 Z1] (.l (.n Z2 Z0) Z1) [[],[1,0,1]] R0 _ _ _ h)]
theorem D0 {α:Type} (s:List α) (lo:Nat):Cr s (some (lo:Int)) none=s.drop lo:=by
 unfold Cr;simp only[Option.map_some,Option.getD_some,Dx,Option.map_none,Option.getD_none];rw[List.take_of_length_le (Nat.le_refl _)];rcases Nat.le_total lo s.length with h | h
 ·rw[Nat.min_eq_left h]
 ·rw[Nat.min_eq_right h,List.drop_of_length_le (Nat.le_refl _),List.drop_of_length_le h]
theorem Hn {α:Type} (s:List α) (hi:Nat):Cr s none (some (hi:Int))=s.take hi:=by
 unfold Cr;simp only[Option.map_some,Option.getD_some,Dx,Option.map_none,Option.getD_none,List.drop_zero];rcases Nat.le_total hi s.length with h | h
 ·rw[Nat.min_eq_left h]
 ·rw[Nat.min_eq_right h,List.take_of_length_le h,List.take_of_length_le (Nat.le_refl _)]
theorem MY {α:Type} (s:List α) (k:Nat) (hk:0 < k) (h:k<=s.length):Cr s none (some (-(k:Int)))=s.take (s.length - k):=by
 unfold Cr Bp;simp only[Option.map_some,Option.getD_some,Option.map_none,Option.getD_none,List.drop_zero];rw[if_pos (by exact lin 1 0 [.t (.c 0) Z0] (.T (.n (.o Z0)) (.c 0)) [] R0 _ hk)];congr 1;exact lin 2 0 [] (.e (.t (.a (.n (.o Z0)) (.o Z1))) (.s Z1 Z0)) [[0,0,1],[0,0,1],[1,1,0],[1,1,0],[1,0,1],[0,1,1],[0,0,1],[0,0,1]] R0 _ _
theorem N6 {q:T} {k:Nat} (h:∀c∈q.take k,c≠32):AA q=q.take k++AA (q.drop k):=by
 induction k generalizing q with
 | zero=>simp
 | succ k ih =>
  cases q with
  | nil=>simp[AA]
  | cons c r =>
   have hc:c≠32:=h c (by simp);rw[List.take_succ_cons,List.drop_succ_cons,List.cons_append,← ih fun d hd=>h d (by rw[List.take_succ_cons];exact .tail _ hd)];unfold AA;simp[hc]
theorem Ph {q:T} {k:Nat} (h:∀c∈q.take k,c≠32) (hk:k<=20) (hq:k<=q.length) (he:k=q.length∨k=20∨q[k]?=some 32):(AA q).take 20=q.take k:=by
 rw[N6 h];have hl:(q.take k).length=k:=by rw[List.length_take];exact U24 _ _ hq
 rcases he with he | he | he
 ·subst he;rw[List.drop_of_length_le (Nat.le_refl _),show AA []=[] from rfl,List.append_nil,List.take_of_length_le (by exact U53 _ _ hl hk)]
 ·subst he;rw[List.take_append_of_le_length (by exact lin 1 0 [.e Z0 (.c 20)] (.l (.c 20) Z0) [[0,1,1]] R0 _ hl),List.take_of_length_le (by exact lin 1 0 [.e Z0 (.c 20)] (.l Z0 (.c 20)) [[1,0,1]] R0 _ hl)]
 ·have:AA (q.drop k)=[]:=by
   have hlt:=(List.getElem?_eq_some_iff.mp he).1;rw[List.drop_eq_getElem_cons hlt];have:q[k]=32:=by rw[List.getElem?_eq_getElem hlt] at he;exact Option.some.inj he
   unfold AA;simp[this]
  rw[this,List.append_nil,List.take_of_length_le (by exact U53 _ _ hl hk)]
theorem KY {q:T} (h:q=[]∨q[0]?=some 32):AA q=[]:=by
 rcases h with h | h
 ·subst h;rfl
 ·cases q with
  | nil=>rfl
  | cons c r =>
   simp at h;subst h;rfl
end
section
noncomputable def Raises (σ:Store) (E:QE) (f:AG):Prop:=∀e k at_,σ e=none->FaultAt at_ f->E e (σ.set e (.exc 1 k at_))
theorem OD (b:T):[108,105,115,116,32,101,108,101,109,101,110,116,32,105,110,32]++tx "braces"++[32,102,111,108,108,111,119,101,100,32,98,121,32,34]++b++[34,32,105,110,115,116,101,97,100,32,111,102,32,115,112,97,99,101]=(AH (.junk b)).1:=by
 rw[show [108,105,115,116,32,101,108,101,109,101,110,116,32,105,110,32]++tx "braces"++[32,102,111,108,108,111,119,101,100,32,98,121,32,34]=tx "list"++tx " element in braces followed by \"" from by decide];rw[show [34,32,105,110,115,116,101,97,100,32,111,102,32,115,112,97,99,101]=tx "\" instead of space" from by decide];unfold AH Bad.pre Bad.suf;simp only[List.append_assoc,List.nil_append]
theorem HA {n p:Nat} (ht:okt t) (hl:t.length<=4000000) (hp:p<=t.length)
  (h1:AA (t.drop p)=[]->Q .none σ) (h2:AA (t.drop p)≠[]->Raises σ E (AH (.junk ((AA (t.drop p)).take 20)))) :
  lev (n+3) false .check_behind [.str t,.int p,.str (tx "braces")] σ Q E:=by
 have hlim:t.length<=LIM:=Nat.le_trans hl (by decide);refine AD (m:=[some (.str t),some (.int p),some (.str (tx "braces")),none]) rfl rfl rfl ?_;dsimp only[DX];walk_at"w";refine Af (fun z=>?_) (fun z=>?_)
 ·walk_at"w";exact Ah (h1 (KY (.inl (List.drop_of_length_le (by exact lin 2 0 [.L (.o Z0) (.o Z1)] (.l Z0 Z1) [] R0 _ _ z)))))
 ·walk_at"w";refine B2 (BU (t:=t) (p:=p) (by exact lin 2 0 [.n (.L (.o Z0) (.o Z1))] (.t Z1 Z0) [] R0 _ _ z)) fun c hc hd hm=>?_;refine AM hlim (by exact U2 _) hc ?_;refine BW (ht c hm) ?_;walk_at"w";refine AF (fun z=>?_) (fun z=>?_)
  ·walk_at"w";exact Ah (h1 (KY (.inr (by rw[hd];simpa using z))))
  ·have hw:AA (t.drop p)≠[]:=by
    rw[hd];unfold AA;have:c≠32:=by simpa using z
    simp[this]
   walk_at"w";let J1:EF:=fun k m σ'=>∃e:Nat,m=[some (.str t),some (.int p),some (.str (tx "braces")),some (.int e)]/\σ'=σ/\k=t.length - e/\p<=e/\e<=t.length/\e<=p+20/\∀c∈(t.drop p).take (e - p),c≠32
   refine Kr J1
    (Tl p rfl rfl rfl (Nat.le_refl _) hp (by exact lin 1 0 [] (.l Z0 (.a Z0 (.c 20))) [] R0 _) (by simp)) ?_
   intro k m σ' z1_;refine UX z1_ fun e z2_ z3_ z4_ e1 e2 e3 e4=>?_;clear z1_;subst z2_;subst z3_;subst z4_;have fin:(e=t.length∨e=p+20∨t[e]?=some 32)->G0 (lev (n+2)) none
     (.cons (.raise (.call .error (.cons (.bin .add (.bin .add (.bin .add (.bin .add (.cStr [108,105,115,116,32,101,108,101,109,101,110,116,32,105,110,32]) (.var 2)) (.cStr [32,102,111,108,108,111,119,101,100,32,98,121,32,34])) (.slc (.var 0) (.var 1) (.var 3))) (.cStr [34,32,105,110,115,116,101,97,100,32,111,102,32,115,112,97,99,101])) (.cons (.tup (.cons (.cStr [84,67,76]) (.cons (.cStr [86,65,76,85,69]) (.cons (.cStr [76,73,83,84]) (.cons (.cStr [74,85,78,75]) .nil))))) .nil)))) .nil)
     (fun fl x σ'=>Iy (dropQ Q) fl [] σ') (fun e x σ'=>dropE E e σ') .next [some (.str t),some (.int p),some (.str (tx "braces")),some (.int e)] σ':=by
    intro he;have hcut:(AA (t.drop p)).take 20=(t.take e).drop p:=by
     rw[Ph e4 (by exact lin 2 0 [.l Z0 (.a Z1 (.c 20))] (.l (.s Z0 Z1) (.c 20)) [[1,0,1],[0,0,1]] R0 _ _ e3) (by rw[List.length_drop];exact lin 3 0 [.l Z0 Z1] (.l (.s Z0 Z2) (.s Z1 Z2)) [[1,0,0,1],[1,1,1,0],[0,0,1,1],[0,0,0,1]] R0 _ _ _ e2) (by
      rcases he with he | he | he
      ·exact .inl (by rw[List.length_drop];exact lin 3 0 [.e Z0 Z1] (.e (.s Z0 Z2) (.s Z1 Z2)) [[0,1,0,0,1],[1,0,0,0,1],[0,0,1,0,1],[1,0,1,1,0],[0,1,1,1,0],[0,0,0,1,1],[0,0,0,0,1],[0,0,0,0,1]] R0 _ _ _ he)
      ·exact .inr (.inl (by exact lin 2 0 [.e Z0 (.a Z1 (.c 20))] (.e (.s Z0 Z1) (.c 20)) [[0,1,0,1],[1,0,0,1],[0,1,1,0],[0,0,0,1]] R0 _ _ he))
      ·refine .inr (.inr ?_);rw[List.getElem?_drop,← he];congr 1;exact U54 _ _ e1)]
     rw[List.drop_take]
    have h2':=h2 hw;rw[hcut] at h2';have hlen:((t.take e).drop p).length<=20:=by rw[List.length_drop,List.length_take];exact lin 3 0 [.l Z0 (.a Z1 (.c 20))] (.l (.s (.n Z0 Z2) Z1) (.c 20)) [[1,0,0,1],[0,0,0,1],[1,1,0,1],[0,0,0,1]] R0 _ _ _ e3
    walk_at"w";refine Bz (lo:=some (p:Int)) (hi:=some (e:Int)) rfl rfl hlim ?_;rw[GH];refine bs_add_str (Nat.le_trans (Nat.add_le_add_left hlen _) (by decide)) ?_;walk_at"w";refine bs_add_str (by rw[List.length_append];exact Nat.le_trans (Nat.add_le_add_right (Nat.add_le_add_left hlen _) _) (by decide)) ?_;walk_at"w";refine Dm (f:=(_,[tx "TCL",tx "VALUE",tx "LIST",tx "JUNK"])) (fun a k at_ ha hf=>?_);rw[OD] at hf;exact BZ ha hf h2'
   walk_at"w";refine Af (fun z1=>?_) (fun z1=>?_)
   ·walk_at"w";refine Af (fun z2=>?_) (fun z2=>?_)
    ·walk_at"w";refine B2 (BU (t:=t) (p:=e) (by exact U5 _ _ z1)) fun c' hc' hd' hm'=>?_;refine AM hlim (by exact U2 _) hc' ?_;refine BW (ht c' hm') ?_;walk_at"w";refine AF (fun z3=>?_) (fun z3=>?_)
     ·exact fin (.inr (.inr (by rw[hc'];simpa using z3)))
     ·walk_at"w";refine Ai (t.length - (e+1)) (by exact U3 _ _ z1) (Tl (e+1) rfl rfl rfl (by exact U4 _ _ e1) (by exact U1 _ _ z1) (by exact lin 2 0 [.T (.o Z0) (.a (.o Z1) (.c 20))] (.l (.a Z0 (.c 1)) (.a Z1 (.c 20))) [] R0 _ _ z2) ?_);intro d hd;rw[show e+1 - p=(e - p)+1 from by exact lin 2 0 [.l Z0 Z1] (.e (.s (.a Z1 (.c 1)) Z0) (.a (.s Z1 Z0) (.c 1))) [[0,0,0,1],[0,0,0,1],[],[1,0,1,0],[1,1,0,0],[],[1,1,0,0],[0,0,0,1]] R0 _ _ e1,List.take_add_one,List.mem_append] at hd;rcases hd with hd | hd
      ·exact e4 d hd
      ·rw[List.getElem?_drop,show p+(e - p)=e from by exact U54 _ _ e1,hc'] at hd;simp at hd;subst hd;simpa using z3
    ·exact fin (.inr (.inl (by exact lin 2 0 [.l Z0 (.a Z1 (.c 20)),.n (.T (.o Z0) (.a (.o Z1) (.c 20)))] (.e Z0 (.a Z1 (.c 20))) [[0,1,1],[1,0,1]] R0 _ _ e3 z2)))
   ·exact fin (.inl (by exact U55 _ _ e2 z1))
theorem NU:([117,110,109,97,116,99,104,101,100,32,111,112,101,110,32,98,114,97,99,101,32,105,110,32,108,105,115,116]:T)=(AH .brace).1:=by decide
theorem NX {n p:Nat} (ht:okt t) (hl:t.length<=4000000) (hp:p<=t.length)
  (h0:clo 1 (t.drop p)=none->Raises σ E (AH .brace))
  (h1:∀i q,clo 1 (t.drop p)=some (i,q)->AA q=[]->Q (.tup [.str i,.int (t.length - q.length:Nat)]) σ)
  (h2:∀i q,clo 1 (t.drop p)=some (i,q)->AA q≠[]->Raises σ E (AH (.junk ((AA q).take 20)))) :
  lev (n+4) false .braced_element [.str t,.int p] σ Q E:=by
 have hlim:t.length<=LIM:=Nat.le_trans hl (by decide);refine AD (m:=[some (.str t),some (.int p),none,none,none]) rfl rfl rfl ?_;dsimp only[Di];walk_at"w";let J2:EF:=fun k m σ'=>∃(d e:Nat) (x:Option V),m=[some (.str t),some (.int p),some (.int d),some (.int e),x]/\σ'=σ/\k=t.length - e/\p<=e/\e<=t.length/\1<=d/\clo 1 (t.drop p)=(clo d (t.drop e)).map fun z=>((t.take e).drop p++z.1,z.2)
 refine Kr J2
  (N4 1 p none rfl rfl rfl (Nat.le_refl _) hp (Nat.le_refl _) ?_) ?_
 ·rw[show (t.take p).drop p=[] from List.drop_of_length_le (by rw[List.length_take];exact U26 _ _)];cases clo 1 (t.drop p) <;> rfl
 intro k m σ' z1_;refine R6 z1_ fun d e x z2_ z3_ z4_ e1 e2 e3 e4=>?_;clear z1_;subst z2_;subst z3_;subst z4_;walk_at"w";refine Af (fun z1=>?_) (fun z1=>?_)
 ·refine B2 (BU (t:=t) (p:=e) (by exact U5 _ _ z1)) fun c hc hd hm=>?_;have hts:(t.take (e+1)).drop p=(t.take e).drop p++[c]:=by
   rw[List.take_add_one,hc,List.drop_append_of_le_length (by rw[List.length_take];exact U56 _ _ _ z1 e1)];rfl
  walk_at"w";refine AM hlim (by exact U2 _) hc ?_;walk_at"w";refine Af (fun z2=>?_) (fun z2=>?_)
  ·have:=ht c hm;simp at z2;subst z2;exact absurd this (by decide)
  walk_at"w";refine Af (fun z3=>?_) (fun z3=>?_)
  ·walk_at"w";refine Ai (t.length - (e+1)) (by exact U3 _ _ z1) (N4 (d+1) (e+1) _ rfl rfl rfl (by exact U4 _ _ e1) (by exact U1 _ _ z1) (by exact U11 _) ?_);simp at z3;subst z3;rw[e4,hd,clo,hts];simp only[if_neg (show ¬(123:Nat)=125 from by decide),if_pos,Option.map_map];congr 1;funext z;simp
  ·walk_at"w";refine Af (fun z4=>?_) (fun z4=>?_)
   ·walk_at"w";simp at z4;subst z4;refine Af (fun z5=>?_) (fun z5=>?_)
    ·have hd1:d=1:=by exact U57 _ z5
     subst hd1;rw[hd,clo,if_pos rfl,if_pos rfl] at e4;simp at e4;walk_at"w";refine HA (p:=e+1) ht hl (by exact U1 _ _ z1) (fun hw=>?_) (fun hw=>?_)
     ·walk_at"w";refine Bz (lo:=some (p:Int)) (hi:=some (e:Int)) rfl rfl hlim ?_;rw[GH];walk_at"w";have:=h1 _ _ e4 hw;rw[List.length_drop] at this;rw[show t.length - (t.length - (e+1))=e+1 from by exact lin 2 0 [.T (.o Z0) (.o Z1)] (.e (.s Z1 (.s Z1 (.a Z0 (.c 1)))) (.a Z0 (.c 1))) [[0,0,0,1],[0,0,0,1],[0,0,1,1],[0,0,1,0],[1,1,0,0],[1,1,0,0],[1,1,0,0]] R0 _ _ z1] at this;exact Ah this
     ·have:=h2 _ _ e4 hw;intro a k at_ ha hf;exact FH (Aa _ _ _) (Nat.le_refl _) (this a k at_ ha hf)
    ·walk_at"w";refine Ai (t.length - (e+1)) (by exact U3 _ _ z1) (N4 (d - 1) (e+1) (some (.str [125])) ?_ rfl rfl (by exact U4 _ _ e1) (by exact U1 _ _ z1) (by exact U58 _ e3 z5) ?_)
     ·rw[show (d:Int) - 1=((d - 1:Nat):Int) from by exact U59 _ e3];rfl
     ·rw[e4,hd,clo,hts,if_pos rfl,if_neg (by exact U60 _ z5),Option.map_map];congr 1;funext z;simp
   ·walk_at"w";refine Ai (t.length - (e+1)) (by exact U3 _ _ z1) (N4 d (e+1) _ rfl rfl rfl (by exact U4 _ _ e1) (by exact U1 _ _ z1) (by assumption) ?_);simp at z3 z4;rw[e4,hd,clo,hts,if_neg z4,if_neg z3,Option.map_map];congr 1;funext z;simp
 ·walk_at"w";refine Dm (f:=(_,[tx "TCL",tx "VALUE",tx "LIST",tx "BRACE"])) (fun a k at_ ha hf=>?_);rw[NU] at hf;refine BZ ha hf (h0 ?_);rw[e4,show t.drop e=[] from List.drop_of_length_le (by exact U12 _ _ z1)];rfl
theorem DD (l:List T):DM (l.map .str)=some l:=by
 induction l with
 | nil=>rfl
 | cons a r ih=>rw[List.map_cons,DM,ih];rfl
theorem NB (l:T):AR [] (l.map fun c=>[c])=l:=by
 induction l with
 | nil=>rfl
 | cons a r ih =>
  cases r with
  | nil=>rfl
  | cons b r=>rw[List.map_cons,List.map_cons,AR];rw[List.map_cons] at ih;rw[ih];rfl
theorem CD {sep:T} {ts:List T} (e:Ag σ (.ref a)=some xs) (h1:DM xs=some ts) (h2:sep.length<=64) (h3:(ts.map List.length).sum+64*ts.length<=LIM) (k:Q (.str (AR sep ts)) σ):bmSem .join (.str sep) [.ref a] σ Q:=.join xs ts e h1 h2 h3 k
theorem NY (l:T):((l.map fun c=>[c]).map List.length).sum=l.length:=by
 induction l with
 | nil=>rfl
 | cons a r ih=>rw[List.map_cons,List.map_cons,List.sum_cons,ih];simp;exact lin 1 0 [] (.e (.a (.c 1) Z0) (.a Z0 (.c 1))) [] R0 _
theorem RL {n p:Nat} (ht:okt t) (hl:t.length<=100000) (hp:p<=t.length)
  (h:Q (.tup [.str (AA (t.drop p)),.int (t.length - (rest (t.drop p)).length:Nat)]) σ) :
  lev (n+2) false .bare_element [.str t,.int p] σ Q E:=by
 have hlim:t.length<=LIM:=Nat.le_trans hl (by decide);refine AD (m:=[some (.str t),some (.int p),none,none]) rfl rfl rfl ?_;dsimp only[Ec];walk_at"w";refine AL (by decide) (fun a ha=>?_);walk_at"w";let J3:EF:=fun k m σ'=>∃(e:Nat) (x:Option V),m=[some (.str t),some (.int e),some (.ref a),x]/\σ'=σ.set a (.lst (((t.take e).drop p).map fun c=>.str [c]))/\k=t.length - e/\p<=e/\e<=t.length/\AA (t.drop p)=(t.take e).drop p++AA (t.drop e)/\rest (t.drop p)=rest (t.drop e)
 refine Kr J3
  (SB p none rfl ?_ rfl (Nat.le_refl _) hp ?_ rfl) ?_
 ·rw[show (t.take p).drop p=[] from List.drop_of_length_le (by rw[List.length_take];exact U26 _ _)];rfl
 ·rw[show (t.take p).drop p=[] from List.drop_of_length_le (by rw[List.length_take];exact U26 _ _)];rfl
 intro k m σ' z1_;refine Uv z1_ fun e x z2_ z3_ z4_ e1 e2 e3 e4=>?_;clear z1_;subst z2_;subst z3_;subst z4_;have fin:AA (t.drop e)=[]->rest (t.drop e)=t.drop e->G0 (lev (n+1)) none (.cons (.ret (.tup (.cons (.bm .join (.cStr []) (.cons (.var 2) .nil)) (.cons (.var 1) .nil)))) .nil)
   (fun fl x σ'=>Iy (dropQ Q) fl [] σ') (fun e x σ'=>dropE E e σ') .next [some (.str t),some (.int e),some (.ref a),x] (σ.set a (.lst (((t.take e).drop p).map fun c=>.str [c]))):=by
  intro f1 f2;walk_at"w";refine CD (ts:=((t.take e).drop p).map fun c=>[c]) (Ac (Aa _ _ _)) ?_ (by decide) ?_ ?_
  ·rw[← DD,List.map_map];rfl
  ·rw[NY,List.length_map,List.length_drop,List.length_take,LIM];exact lin 3 0 [.l Z0 (.c 100000)] (.l (.a (.s (.n Z1 Z0) Z2) (.m 64 (.s (.n Z1 Z0) Z2))) (.c 8000000)) [[65,65,0,0,0,1],[0,0,1,0,1,0],[0,1,0,1,0,0],[0,1,0,1,0,0],[0,0,1,0,1,0],[0,0,0,0,0,1],[0,1,0,1,0,0],[0,0,0,0,0,1],[0,1,0,1,0,0],[0,1,0,1,0,0],[65,0,0,0,0,1],[0,0,1,0,1,0],[0,1,0,1,0,0],[0,0,0,0,0,1],[0,0,1,0,1,0],[0,0,0,0,0,1]] R0 _ _ _ hl
  ·rw[NB];walk_at"w";refine AB (SubS.new ha) ?_;rw[e3,f1,List.append_nil,e4,f2,List.length_drop,show t.length - (t.length - e)=e from by exact lin 2 0 [.l Z0 Z1] (.e (.s Z1 (.s Z1 Z0)) Z0) [[0,0,0,1],[0,0,0,1],[0,0,1,1],[0,0,1,0],[1,1,0,0],[1,1,0,0],[1,1,0,0]] R0 _ _ e2] at h;exact h
 walk_at"w";refine Af (fun z1=>?_) (fun z1=>?_)
 ·refine B2 (BU (t:=t) (p:=e) (by exact U5 _ _ z1)) fun c hc hd hm=>?_;have hts:(t.take (e+1)).drop p=(t.take e).drop p++[c]:=by
   rw[List.take_add_one,hc,List.drop_append_of_le_length (by rw[List.length_take];exact U56 _ _ _ z1 e1)];rfl
  walk_at"w";refine AM hlim (by exact U2 _) hc ?_;refine BW (ht c hm) ?_;walk_at"w";refine AF (fun z2=>?_) (fun z2=>?_)
  ·simp at z2;subst z2;exact fin (by rw[hd];rfl) (by rw[hd];rfl)
  ·walk_at"w";refine AM hlim (by exact U2 _) hc ?_;walk_at"w";refine Af (fun z3=>?_) (fun z3=>?_)
   ·have:=ht c hm;simp at z3;subst z3;exact absurd this (by decide)
   walk_at"w";refine BB (Aa _ _ _) ?_;walk_at"w";refine BC (Aa _ _ _) (by rw[List.length_map,List.length_drop,List.length_take,LIM];exact lin 3 0 [.l Z0 (.c 100000)] (.l (.s (.n Z1 Z0) Z2) (.c 8000000)) [[1,1,0,1],[0,0,0,1],[1,0,0,1],[0,0,0,1]] R0 _ _ _ hl) ?_;rw[Aj];walk_at"w";have hcb:c≠32:=by simpa using z2
   refine Ai (t.length - (e+1)) (by exact U3 _ _ z1) (SB (e+1) (some (.str [c])) rfl ?_ rfl (by exact U4 _ _ e1) (by exact U1 _ _ z1) ?_ ?_)
   ·rw[hts,List.map_append];rfl
   ·rw[e3,hd,hts,List.append_assoc];unfold AA;simp[hcb]
   ·rw[e4,hd];unfold rest;simp[hcb]
 ·exact fin (by rw[List.drop_of_length_le (by exact U12 _ _ z1)];rfl) (by rw[List.drop_of_length_le (by exact U12 _ _ z1)];rfl)
theorem O3 {n p:Nat} (ht:okt t) (hl:t.length<=100000) (hp:p<=t.length)
  (h0:Bu (t.drop p)=none->Q .none σ)
  (h1:∀x q,Bu (t.drop p)=some (.ok (x,q))->Q (.tup [.str x,.int (t.length - q.length:Nat)]) σ)
  (h2:∀e,Bu (t.drop p)=some (.error e)->Raises σ E (AH e)) :
  lev (n+5) false .find_element [.str t,.int p] σ Q E:=by
 have hlim:t.length<=LIM:=Nat.le_trans hl (by decide);refine AD (m:=[some (.str t),some (.int p)]) rfl rfl rfl ?_;dsimp only[Eb];walk_at"w";let J4:EF:=fun k m σ'=>∃e:Nat,m=[some (.str t),some (.int e)]/\σ'=σ/\k=t.length - e/\p<=e/\e<=t.length/\skip (t.drop p)=skip (t.drop e)
 refine Kr J4
  (Of p rfl rfl rfl (Nat.le_refl _) hp rfl) ?_
 intro k m σ' z1_;refine Sa z1_ fun e z2_ z3_ z4_ e1 e2 e3=>?_;clear z1_;subst z2_;subst z3_;subst z4_;walk_at"w";refine Af (fun z1=>?_) (fun z1=>?_)
 ·refine B2 (BU (t:=t) (p:=e) (by exact U5 _ _ z1)) fun c hc hd hm=>?_;walk_at"w";refine AM hlim (by exact U2 _) hc ?_;refine BW (ht c hm) ?_;walk_at"w";refine AF (fun z2=>?_) (fun z2=>?_)
  ·walk_at"w";simp at z2;subst z2;exact Ai (t.length - (e+1)) (by exact U3 _ _ z1) (Of (e+1) rfl rfl rfl (by exact U4 _ _ e1) (by exact U1 _ _ z1) (by rw[e3,hd];rfl))
  ·have hcb:c≠32:=by simpa using z2
   have hsk:skip (t.drop p)=c::t.drop (e+1):=by rw[e3,hd];unfold skip;simp[hcb]
   have hel:Bu (t.drop p)=if c=123 then (match clo 1 (t.drop (e+1)) with
     | none=>some (.error .brace)
     | some (i,q)=>if AA q=[] then some (.ok (i,q)) else some (.error (.junk ((AA q).take 20))))
     else some (.ok (AA (t.drop e),rest (t.drop e))):=by
    unfold Bu;rw[hsk,hd];try rfl
   walk_at"w";refine Af (fun z3=>by exact(lin 2 0 [.L (.o Z0) (.o Z1),.T (.o Z1) (.o Z0)] .f [] R0 _ _ z3 z1).elim) (fun z3=>?_);walk_at"w";refine AM hlim (by exact U2 _) hc ?_;walk_at"w";refine Af (fun z4=>?_) (fun z4=>?_)
   ·simp at z4;subst z4;rw[if_pos rfl] at hel;walk_at"w";refine NX (p:=e+1) ht (by exact lin 1 0 [.l Z0 (.c 100000)] (.l Z0 (.c 4000000)) [] R0 _ hl) (by exact U1 _ _ z1) (fun hn=>?_) (fun i q hn hw=>?_) (fun i q hn hw=>?_)
    ·rw[hn] at hel;have:=h2 _ hel;intro a k at_ ha hf;exact FH (Aa _ _ _) (Nat.le_refl _) (this a k at_ ha hf)
    ·rw[hn] at hel;dsimp only at hel;rw[if_pos hw] at hel;walk_at"w";exact Ah (h1 _ _ hel)
    ·rw[hn] at hel;dsimp only at hel;rw[if_neg hw] at hel;have:=h2 _ hel;intro a k at_ ha hf;exact FH (Aa _ _ _) (Nat.le_refl _) (this a k at_ ha hf)
   ·have hc2:c≠123:=by simpa using z4
    rw[if_neg hc2] at hel;walk_at"w";refine AM hlim (by exact U2 _) hc ?_;walk_at"w";refine Af (fun z5=>?_) (fun z5=>?_)
    ·have:=ht c hm;simp at z5;subst z5;exact absurd this (by decide)
    walk_at"w";refine RL (p:=e) ht hl (by assumption) ?_;walk_at"w";exact Ah (h1 _ _ hel)
 ·walk_at"w";refine Af (fun z3=>?_) (fun z3=>by exact(lin 2 0 [.n (.L (.o Z0) (.o Z1)),.n (.T (.o Z1) (.o Z0))] .f [] R0 _ _ z3 z1).elim);walk_at"w";refine Ah (h0 ?_);unfold Bu;rw[e3,show t.drop e=[] from List.drop_of_length_le (by exact U12 _ _ z1)];rfl
theorem Raises.sub {σ τ:Store} {f:AG} (h:Raises σ E f) (hs:SubS σ τ):Raises τ (dropE E) f:=fun a k at_ ha hf =>
 ⟨σ.set a (.exc 1 k at_),SubS.put (hs.turn (hs.none ha)) (Aa _ _ _),⟨1,k,at_,Aa _ _ _,Nat.le_refl _⟩,h a k at_ (hs.none ha) hf⟩
theorem Ex {s x q:T} (h:Bu s=some (.ok (x,q))):∃pre,s=pre++q:=by
 have hs:s=s.takeWhile (·==32)++skip s:=(List.takeWhile_append_dropWhile).symm;unfold Bu at h;split at h
 ·exact xNS h
 ·rename_i c r e;rw[e] at hs;split at h
  ·split at h
   ·exact xEO (xSS h)
   ·rename_i i q' hc;split at h
    ·refine xPr (xOO ((xSS h))) fun z1_ z2_=>?_;obtain rfl:=(z1_).symm;obtain rfl:=(z2_).symm;have:=HY _ _ _ _ hc;refine⟨s.takeWhile (·==32)++c::(x++[125]),?_⟩;rw[this] at hs;rw[List.append_assoc,List.cons_append,List.append_assoc];exact hs
    ·exact xEO (xSS h)
  ·have h':=Option.some.inj h;have h2:=congrArg (fun z=>match z with | Except.ok p=>p.2 | _=>q) h';dsimp only at h2;rw[← h2];refine⟨s.takeWhile (·==32)++AA (c::r),?_⟩;rw[List.append_assoc,CB];exact hs
theorem drop_suffix {t pre q:T} (h:t=pre++q):t.drop (t.length - q.length)=q:=by
 subst h;rw[List.length_append,show pre.length+q.length - q.length=pre.length from by exact lin 2 0 [] (.e (.s (.a Z0 Z1) Z1) Z0) [[0,1],[0,1]] R0 _ _];simp
noncomputable def Ob (t:T) (k:Nat) (found:V) (acc:List T):Prop:=acc.length<=t.length/\((found=.none/\A0 t=.ok acc)∨∃x q pre,found=.tup [.str x,.int (t.length - q.length:Nat)]/\t=pre++q/\k=q.length+1/\acc.length+1+q.length<=t.length/\A0 t=(A0 q).map (fun r=>acc++x::r))
theorem ML (ht:okt t) (hl:t.length<=100000)
  (h1:∀xs,A0 t=.ok xs->∀a,σ a=none->Q (.ref a) (σ.set a (.lst (Ae xs))))
  (h2:∀e,A0 t=.error e->Raises σ E (AH e)) :
  lev (n+6) false .split_list [.str t] σ Q E:=by
 have hlim:t.length<=LIM:=Nat.le_trans hl (by decide);refine AD (m:=[some (.str t),none,none]) rfl rfl rfl ?_;dsimp only[EI];walk_at"w";refine AL (by decide) (fun a ha=>?_);walk_at"w";have hE:∀e τ,SubS σ τ->A0 t=.error e->Raises τ (dropE E) (AH e):=fun e τ hs he=>(h2 e he).sub hs;have loop:∀(found:V) (acc:List T) (k:Nat),Ob t k found acc ->
   G0 (lev (n+5)) none (.cons (.whl (.isNN (.var 2))
    (.cons (.expr (.bm .append (.var 1) (.cons (.idx (.var 2) (.cInt 0)) .nil)))
    (.cons (.asg 2 (.call .find_element (.cons (.var 0) (.cons (.idx (.var 2) (.cInt 1)) .nil)))) .nil)))
    (.cons (.ret (.var 1)) .nil)) (fun fl x σ'=>Iy (dropQ Q) fl [] σ') (fun e x σ'=>dropE E e σ') .next [some (.str t),some (.ref a),some found] (σ.set a (.lst (Ae acc))):=by
  intro found acc k hf;let J5:EF:=fun k m σ'=>∃(found:V) (acc:List T),m=[some (.str t),some (.ref a),some found]/\σ'=σ.set a (.lst (Ae acc))/\Ob t k found acc
  refine AU (AO (Ic J5 (Kn k found acc rfl rfl hf) ?_));intro k m σ' z1_;refine Kc z1_ fun found acc z2_ z3_ hacc hf=>?_;clear z1_;subst z2_;subst z3_;rcases hf with ⟨rfl,hp⟩ | ⟨x,q,pre,rfl,hpre,rfl,hq,hp⟩
  ·walk_at"w";exact Ah (h1 _ hp a ha)
  ·walk_at"w";refine BB (Aa _ _ _) ?_;walk_at"w";refine BC (Aa _ _ _) (by unfold Ae;rw[List.length_map,LIM];exact lin 2 0 [.l Z0 (.c 100000),.l Z1 Z0] (.l Z1 (.c 8000000)) [] R0 _ _ hl hacc) ?_;rw[Aj];walk_at"w";have hdq:t.drop (t.length - q.length)=q:=drop_suffix hpre;have hst:(Ae acc++[.str x])=Ae (acc++[x]):=by unfold Ae;simp
   rw[hst];refine O3 ht hl (by exact lin 2 0 [] (.l (.s Z0 Z1) Z0) [[0,1],[0,1]] R0 _ _) (fun hn=>?_) (fun y r hn=>?_) (fun e hn=>?_) <;> rw[hdq] at hn
   ·refine Ai 0 (by exact lin 1 0 [] (.t (.c 0) (.a Z0 (.c 1))) [] R0 _) (Gz .none (acc++[x]) rfl rfl (by simp;exact U61 _ _ _ hq) (.inl ⟨rfl,?_⟩));rw[hp,Av hn];rfl
   ·refine Aq (Ex hn) fun pre2 hpre2=>?_;have hlt:=Cv hn;refine Ai (r.length+1) (by exact lin 2 0 [.t Z0 Z1] (.t (.a Z0 (.c 1)) (.a Z1 (.c 1))) [] R0 _ _ hlt) (Gz _ (acc++[x]) rfl rfl (by simp;exact U61 _ _ _ hq) (.inr (Ov y r (pre++pre2) rfl ?_ rfl (by simp;exact lin 4 0 [.l (.a (.a Z0 (.c 1)) Z1) Z2,.t Z3 Z1] (.l (.a (.a (.a Z0 (.c 1)) (.c 1)) Z3) Z2) [] R0 _ _ _ _ hq hlt) ?_)))
    ·rw[List.append_assoc,← hpre2];exact hpre
    ·rw[hp,B4 hn];cases A0 r <;> simp[Except.map]
   ·refine hE e _ (SubS.new ha) ?_;rw[hp,AT hn];rfl
 refine O3 (p:=0) ht hl (by exact U27 _) (fun hn=>?_) (fun x q hn=>?_) (fun e hn=>?_) <;> rw[List.drop_zero] at hn
 ·exact loop .none [] 0 ⟨by simp,.inl ⟨rfl,Av hn⟩⟩
 ·refine Aq (Ex hn) fun pre hpre=>?_;have hlt:=Cv hn;exact loop _ [] _ ⟨by simp,.inr (Ov x q pre rfl hpre rfl (by simp;exact lin 2 0 [.t Z0 Z1] (.l (.a (.c 1) Z0) Z1) [] R0 _ _ hlt) (by rw[B4 hn];rfl))⟩
 ·exact hE e _ (SubS.new ha) (AT hn)
end
section
noncomputable abbrev AS:=Nat × Nat × Bool
noncomputable def stp (s:AS) (c:Nat):Option AS:=
 if c=32 then (if s.2.1=0 then some (s.1,0,true) else none)
 else if c=123 then (if s.2.2=true/\s.2.1=0 then some (s.1+1,0,true) else some (s.1,s.2.1+1,false))
 else if c=125 then (if 0 < s.2.1 then some (s.1,s.2.1 - 1,false) else if 0 < s.1 then some (s.1 - 1,0,false) else none)
 else if c=98 then (if s.2.2=true then some (s.1,s.2.1,false) else none)
 else if c∈Cp then some (s.1,s.2.1,false) else none
noncomputable def run:AS->T->Option AS
 | s,[]=>some s
 | s,c::r=>(stp s c).bind fun s'=>run s' r
noncomputable def good (t:T):Prop:=∃f,run (0,0,true) t=some (0,0,f)
theorem Bb (s:AS) (a b:T):run s (a++b)=(run s a).bind fun s'=>run s' b:=by
 induction a generalizing s with
 | nil=>rfl
 | cons c r ih =>
  rw[List.cons_append,run,run,Option.bind_assoc];congr 1;funext s';exact ih s'
theorem Ci {s s':AS} {r:T} (h:run s (c::r)=some s'):∃s₁,stp s c=some s₁/\run s₁ r=some s':=Option.bind_eq_some_iff.mp h
theorem SV {d k:Nat} {f:Bool} (h:¬(f=true/\k=0)):stp (d,k,f) 123=some (d,k+1,false):=if_neg h
theorem Tm {d k:Nat} {f:Bool} (h:0 < k):stp (d,k,f) 125=some (d,k - 1,false):=if_pos h
theorem Tc {d:Nat} {f:Bool} (h:0 < d):stp (d,0,f) 125=some (d - 1,0,false):=if_pos h
theorem PO {s:AS} (h1:c≠32) (h2:c≠123) (h3:c≠125) (h4:c≠98) (h5:c∈Cp):stp s c=some (s.1,s.2.1,false):=by
 unfold stp;rw[if_neg h1,if_neg h2,if_neg h3,if_neg h4,if_pos h5]
theorem Nk {P:Prop} {d k d' k' c:Nat} {f f':Bool} (h:stp (d,k,f) c=some (d',k',f')) (c1:c=32->k=0->d=d'->0=k'->true=f'->P) (c2:c=123->f=true->k=0->d+1=d'->0=k'->true=f'->P)
  (c3:c=123->¬(f=true/\k=0)->d=d'->k+1=k'->false=f'->P) (c4:c=125->0 < k->d=d'->k - 1=k'->false=f'->P) (c5:c=125->k=0->0 < d->d - 1=d'->0=k'->false=f'->P)
  (c6:c=98->f=true->d=d'->k=k'->false=f'->P) (c7:c≠32->c≠123->c≠125->c≠98->c∈Cp->d=d'->k=k'->false=f'->P):P:=by
 have q {a b x y:Nat} {u v:Bool} (e:some (a,b,u)=some (x,y,v)) (g:a=x->b=y->u=v->P):P:=xPr (xSS e) fun e1 e=>xPr e fun e2 e3=>g e1 e2 e3;unfold stp at h;dsimp only at h;by_cases h1:c=32
 ·rw[if_pos h1] at h;split at h
  ·exact q h (c1 h1 ‹_›)
  ·exact xNS h
 rw[if_neg h1] at h;by_cases h2:c=123
 ·rw[if_pos h2] at h;split at h
  ·rename_i z;exact q h (c2 h2 z.1 z.2)
  ·exact q h (c3 h2 ‹_›)
 rw[if_neg h2] at h;by_cases h3:c=125
 ·rw[if_pos h3] at h;split at h
  ·exact q h (c4 h3 ‹_›)
  ·split at h
   ·rename_i z _;exact q h (c5 h3 (Nat.eq_zero_of_not_pos z) ‹_›)
   ·exact xNS h
 rw[if_neg h3] at h;by_cases h4:c=98
 ·rw[if_pos h4] at h;split at h
  ·exact q h (c6 h4 ‹_›)
  ·exact xNS h
 rw[if_neg h4] at h;split at h
 ·exact q h (c7 h1 h2 h3 h4 ‹_›)
 ·exact xNS h
theorem RR {s s':AS} (h:stp s c=some s'):c∈Cp:=
 Nk (d:=s.1) (k:=s.2.1) (f:=s.2.2) (d':=s'.1) (k':=s'.2.1) (f':=s'.2.2) h (fun e _ _ _ _=>e▸by decide) (fun e _ _ _ _ _=>e▸by decide) (fun e _ _ _ _=>e▸by decide) (fun e _ _ _ _=>e▸by decide) (fun e _ _ _ _ _=>e▸by decide) (fun e _ _ _ _=>e▸by decide) fun _ _ _ _ e _ _ _=>e
theorem Sb:∀{s s':AS},run s t=some s'->okt t:=by
 induction t with
 | nil=>intro s s' _ c hc;cases hc
 | cons c r ih =>
  intro s s' h d hd;refine e1a2 (Ci h) fun s₁ h1 h2=>?_;rcases List.mem_cons.mp hd with rfl | hd
  ·exact RR h1
  ·exact ih h2 d hd
theorem good.ok (h:good t):okt t:=let ⟨_,e⟩:=h;Sb e
theorem ES:good []:=⟨true,rfl⟩
theorem JA {s s':AS} (h:stp s c=some s'):(s'.1:Int)+s'.2.1=s.1+s.2.1+(if c=123 then 1 else if c=125 then -1 else 0):=by
 obtain⟨d,k,f⟩:=s;obtain⟨d',k',f'⟩:=s';refine Nk h (fun e a x y _=>?_) (fun e _ a x y _=>?_) (fun e _ x y _=>?_) (fun e a x y _=>?_) (fun e a b x y _=>?_) (fun e _ x y _=>?_) fun _ z1 z2 _ _ x y _=>?_ <;> subst x y
 ·subst e a;exact(Int.add_zero _).symm
 ·subst e a;show ((d+1:Nat):Int)+((0:Nat):Int)=(d:Int)+((0:Nat):Int)+1;exact Int.add_right_comm d 1 0
 ·subst e;exact(Int.add_assoc d k 1).symm
 ·subst e;show (d:Int)+((k - 1:Nat):Int)=(d:Int)+(k:Int)+-1;rw[Int.ofNat_sub a];exact(Int.add_assoc d k (-1)).symm
 ·subst e a;show ((d - 1:Nat):Int)+((0:Nat):Int)=(d:Int)+((0:Nat):Int)+-1;rw[Int.ofNat_sub b];exact Int.add_right_comm d (-1) 0
 ·subst e;exact(Int.add_zero _).symm
 ·rw[if_neg z1,if_neg z2];exact(Int.add_zero _).symm
theorem NN {d k:Nat} {f:Bool} {c d' k':Nat} {f':Bool} (h:stp (d,k,f) c=some (d',k',f')):stp (d+1,k,f) c=some (d'+1,k',f'):=by
 refine Nk h (fun e a x y z=>?_) (fun e a b x y z=>?_) (fun e a x y z=>?_) (fun e a x y z=>?_) (fun e a b x y z=>?_) (fun e a x y z=>?_) fun z1 z2 z3 z4 z5 x y z=>?_ <;> subst x y z
 ·subst e a;rfl
 ·subst e a b;rfl
 ·subst e;exact SV a
 ·subst e;exact Tm a
 ·subst e a;rw[Tc (Nat.succ_pos d),Nat.sub_add_cancel b];rfl
 ·subst e a;rfl
 ·exact PO z1 z2 z3 z4 z5
theorem IR:∀{d k:Nat} {f:Bool} {d' k':Nat} {f':Bool},run (d,k,f) t=some (d',k',f')->run (d+1,k,f) t=some (d'+1,k',f'):=by
 induction t with
 | nil=>intro d k f d' k' f' h;refine xPr (xSS h) fun z46_ z47_=>?_;subst z46_;refine xPr z47_ fun z48_ z49_=>?_;subst z48_;subst z49_;rfl
 | cons c r ih =>
  intro d k f d' k' f' h;refine e1a2 (Ci h) fun z1_ h1 h2=>?_;obtain⟨d1,k1,f1⟩:=z1_;rw[run,NN h1];exact ih h2
theorem Gd {d k:Nat} {f:Bool} {s':AS} (h:stp (d+1,k,f) c=some s') (hc:c=125->0 < d+k):∃d',s'.1=d'+1/\stp (d,k,f) c=some (d',s'.2):=by
 obtain⟨d',k',f'⟩:=s';refine Nk h (fun e a x y z=>?_) (fun e a b x y z=>?_) (fun e a x y z=>?_) (fun e a x y z=>?_) (fun e a b x y z=>?_) (fun e a x y z=>?_) fun z1 z2 z3 z4 z5 x y z=>?_ <;> subst x y z
 ·subst e a;exact Ai d rfl rfl
 ·subst e a b;exact Ai (d+1) rfl rfl
 ·subst e;exact Ai d rfl (SV a)
 ·subst e;exact Ai d rfl (Tm a)
 ·subst e a;exact Ai (d - 1) (Nat.sub_add_cancel (hc rfl)).symm (Tc (hc rfl))
 ·subst e a;exact Ai d rfl rfl
 ·exact Ai d rfl (PO z1 z2 z3 z4 z5)
theorem P5 {f':Bool}:∀(r:T) (d k:Nat) (f:Bool) (i q:T),clo (d+1+k) r=some (i,q)->run (d+1,k,f) r=some (0,0,f')->∃f1,run (d,k,f) i=some (0,0,f1)/\run (0,0,false) q=some (0,0,f'):=by
 intro r;induction r with
 | nil=>intro d k f i q h;exact xNS h
 | cons c r ih =>
  intro d k f i q h hr;refine e1a2 (Ci hr) fun z1_ h1 h2=>?_;obtain⟨d1,k1,f1⟩:=z1_;rw[clo] at h;by_cases hc:c=125
  ·subst hc;rw[if_pos rfl] at h;by_cases hd:d+1+k=1
   ·rw[if_pos hd] at h;refine xPr (xSS h) fun z2_ z3_=>?_;subst z2_;subst z3_;have e1:d=0:=by exact lin 2 0 [.e (.a (.a Z0 (.c 1)) Z1) (.c 1)] (.e Z0 (.c 0)) [[],[1,0,1]] R0 _ _ hd
    have e2:k=0:=by exact lin 2 0 [.e (.a (.a Z0 (.c 1)) Z1) (.c 1)] (.e Z1 (.c 0)) [[],[1,0,1]] R0 _ _ hd
    subst e1;subst e2;refine xPr (xSS h1) fun z4_ z5_=>?_;subst z4_;refine xPr z5_ fun z6_ z7_=>?_;subst z6_;subst z7_;exact Ai f rfl h2
   ·rw[if_neg hd,Option.map_eq_some_iff] at h;refine e1a2 h fun z8_ h3 h4=>?_;clear h;obtain⟨i',q'⟩:=z8_;refine xPr h4 fun z9_ z10_=>?_;subst z9_;subst z10_;refine e1a2 (Gd h1 (by exact lin 2 0 [.n (.e (.a (.a Z0 (.c 1)) Z1) (.c 1))] (.i (.e (.c 125) (.c 125)) (.t (.c 0) (.a Z0 Z1))) [] R0 _ _ hd)) fun d' e1 e2=>?_;have hn:=JA h1;dsimp only at e1 e2 hn;subst e1;refine e1a2 (ih d' k1 f1 i' q' (by rw[show d'+1+k1=d+1+k - 1 from by simp at hn;exact lin 4 0 [.E (.a (.a (.o Z0) (.c 1)) (.o Z1)) (.a (.a (.a (.o Z2) (.c 1)) (.o Z3)) (.c (-1)))] (.e (.a (.a Z0 (.c 1)) Z1) (.s (.a (.a Z2 (.c 1)) Z3) (.c 1))) [[0,1,0,1],[1,0,0,1],[],[1,0,1,1]] (by kernel_rfl) _ _ _ _ hn];exact h3) h2) fun f1' g1 g2=>?_;exact Ai f1' (by rw[run,e2];exact g1) g2
  ·rw[if_neg hc,Option.map_eq_some_iff] at h;refine e1a2 h fun z11_ h3 h4=>?_;clear h;obtain⟨i',q'⟩:=z11_;refine xPr h4 fun z12_ z13_=>?_;subst z12_;subst z13_;refine e1a2 (Gd h1 (fun z=>absurd z hc)) fun d' e1 e2=>?_;have hn:=JA h1;dsimp only at e1 e2 hn;subst e1;rw[if_neg hc] at hn;obtain⟨f1',g1,g2⟩:=ih d' k1 f1 i' q' (by
    rw[show d'+1+k1=(if c=123 then d+1+k+1 else d+1+k) from by split at hn <;> rename_i e <;> simp[e] <;> first | exact lin 4 0 [.E (.a (.o (.a Z0 (.c 1))) (.o Z1)) (.a (.a (.o (.a Z2 (.c 1))) (.o Z3)) (.c 1))] (.e (.a (.a Z0 (.c 1)) Z1) (.a (.a (.a Z2 (.c 1)) Z3) (.c 1))) [[0,1,1],[1,0,1]] R0 _ _ _ _ hn | exact lin 4 0 [.E (.a (.o (.a Z0 (.c 1))) (.o Z1)) (.a (.a (.o (.a Z2 (.c 1))) (.o Z3)) (.c 0))] (.e (.a (.a Z0 (.c 1)) Z1) (.a (.a Z2 (.c 1)) Z3)) [[0,1,1],[1,0,1]] R0 _ _ _ _ hn];exact h3) h2
   exact Ai f1' (by rw[run,e2];exact g1) g2
theorem Oj {f':Bool}:∀(r:T) (k:Nat),run (0,k,false) r=some (0,0,f')->run (0,k,false) (AA r)=some (0,0,false)/\run (0,0,false) (rest r)=some (0,0,f'):=by
 intro r;induction r with
 | nil=>intro k h;refine xPr (xSS h) fun z54_ z55_=>?_;clear z54_;refine xPr z55_ fun z56_ z57_=>?_;subst z56_;subst z57_;exact⟨rfl,rfl⟩
 | cons c r ih =>
  intro k h;by_cases hc:c=32
  ·subst hc;refine e1a2 (Ci h) fun s1 h1 h2=>?_;have hk:k=0:=by
    unfold stp at h1;simp at h1;exact h1.1
   subst hk;exact⟨rfl,h⟩
  ·refine e1a2 (Ci h) fun z1_ h1 h2=>?_;obtain⟨d1,k1,f1⟩:=z1_;have hs:d1=0/\f1=false:=by
    refine Nk h1 (fun e _ _ _ _=>absurd e hc) (fun _ e _ _ _ _=>xFT e) (fun _ _ x _ z=>⟨x.symm,z.symm⟩) (fun _ _ x _ z=>⟨x.symm,z.symm⟩) (fun _ _ x _ _ _=>absurd x (Nat.lt_irrefl 0)) (fun _ e _ _ _=>xFT e) fun _ _ _ _ _ x _ z=>⟨x.symm,z.symm⟩
   have z2_:=hs.1;have z3_:=hs.2;clear hs;subst z2_;subst z3_;have z0_:=ih k1 h2;have g1:=z0_.1;have g2:=z0_.2;clear z0_;have w1:AA (c::r)=c::AA r:=by unfold AA;simp[hc]
   have w2:rest (c::r)=rest r:=by unfold rest;simp[hc]
   rw[w1,w2];exact⟨by rw[run,h1];exact g1,g2⟩
theorem GQ (r:T):skip (32::r)=skip r:=rfl
theorem N2 {a b:T} (h:skip a=skip b):Bu a=Bu b:=by unfold Bu;rw[h]
theorem DO {a b:T} (h:skip a=skip b):A0 a=A0 b:=by
 have hab:=N2 h;cases he:Bu b with
 | none=>rw[Av he,Av (hab.trans he)]
 | some r =>
  cases r with
  | error e=>rw[AT he,AT (hab.trans he)]
  | ok p=>obtain⟨x,q⟩:=p;rw[B4 he,B4 (hab.trans he)]
theorem Nz {f':Bool} (h:run (0,0,true) t=some (0,0,f')):run (0,0,true) (skip t)=some (0,0,f'):=by
 induction t with
 | nil=>exact h
 | cons c r ih =>
  by_cases hc:c=32
  ·subst hc;exact ih h
  ·rw[show skip (c::r)=c::r from by unfold skip;simp[hc]];exact h
theorem Gp {q:T} {f':Bool} (h:run (0,0,false) q=some (0,0,f')) (hw:AA q=[]):q=[]∨∃r,q=32::r/\good r:=by
 cases q with
 | nil=>exact .inl rfl
 | cons c r =>
  by_cases hc:c=32
  ·subst hc;exact .inr (Ai r rfl ⟨f',h⟩)
  ·unfold AA at hw;simp[hc] at hw
theorem I3 (r:T):AA (rest r)=[]:=by
 induction r with
 | nil=>rfl
 | cons c r ih =>
  by_cases hc:c=32
  ·subst hc;rfl
  ·rw[show rest (c::r)=rest r from by unfold rest;simp[hc]];exact ih
theorem NF {t x q:T} (h:good t) (e:Bu t=some (.ok (x,q))):good x/\(q=[]∨∃r,q=32::r/\good r):=by
 refine Aq h fun f' hr=>?_;clear h;have hs:=Nz hr;unfold Bu at e;split at e
 ·exact xNS e
 ·rename_i c r hsk;rw[hsk] at hs;split at e
  ·rename_i hc;subst hc;split at e
   ·exact xEO (xSS e)
   ·rename_i i q' hcl;split at e
    ·rename_i hw;refine xPr (xOO ((xSS e))) fun z1_ z2_=>?_;obtain rfl:=(z1_).symm;obtain rfl:=(z2_).symm;refine e1a2 (P5 r 0 0 true x q hcl hs) fun f1 g1 g2=>?_;exact⟨⟨f1,g1⟩,Gp g2 hw⟩
    ·exact xEO (xSS e)
  ·rename_i hc;have e':=Except.ok.inj (Option.some.inj e);have hc32:c≠32:=by
    intro z;subst z;have:=List.head?_dropWhile_not (p:=(·==32)) t;rw[show (List.dropWhile (fun x=>x==32) t)=skip t from rfl,hsk] at this;simp at this
   refine e1a2 (Ci hs) fun z3_ h1 h2=>?_;obtain⟨d1,k1,f1⟩:=z3_;have hst:d1=0/\k1=0/\f1=false:=by
    exact Nk h1 (fun e _ _ _ _=>absurd e hc32) (fun e _ _ _ _ _=>absurd e hc) (fun e _ _ _ _=>absurd e hc) (fun _ a _ _ _=>absurd a (Nat.lt_irrefl 0)) (fun _ _ a _ _ _=>absurd a (Nat.lt_irrefl 0)) (fun _ _ x y z=>⟨x.symm,y.symm,z.symm⟩) fun _ _ _ _ _ x y z=>⟨x.symm,y.symm,z.symm⟩
   have z4_:=hst.1;have z5_:=hst.2.1;have z6_:=hst.2.2;clear hst;subst z4_;subst z5_;subst z6_;have z0_:=Oj r 0 h2;have g1:=z0_.1;have g2:=z0_.2;clear z0_;have w1:AA (c::r)=c::AA r:=by unfold AA;simp[hc32]
   have w2:rest (c::r)=rest r:=by unfold rest;simp[hc32]
   rw[w1,w2,Prod.mk.injEq] at e';have e1:=e'.1;have e2:=e'.2;clear e';subst e1;subst e2;exact⟨⟨false,by rw[run,h1];exact g1⟩,Gp g2 (I3 r)⟩
theorem EP:∀(N:Nat) (t:T) (xs:List T),t.length<=N->good t->A0 t=.ok xs->∀x∈xs,good x:=by
 intro N;induction N with
 | zero =>
  intro t xs hl h e;have:t=[]:=List.length_eq_zero_iff.mp (by exact U9 _ hl);subst this;rw[Av rfl] at e;obtain rfl:=xOO e;intro x hx;cases hx
 | succ N ih =>
  intro t xs hl h e;cases he:Bu t with
  | none=>rw[Av he] at e;obtain rfl:=xOO e;intro x hx;cases hx
  | some r =>
   cases r with
   | error b=>rw[AT he] at e;exact xEO e
   | ok p =>
    obtain⟨x,q⟩:=p;have z0_:=NF h he;have g1:=z0_.1;have g2:=z0_.2;clear z0_;have hlt:=Cv he;rw[B4 he] at e;cases hq:A0 q with
    | error b=>rw[hq] at e;exact xEO e
    | ok ys =>
     rw[hq] at e;obtain rfl:=xOO e;intro y hy;rcases List.mem_cons.mp hy with rfl | hy
     ·exact g1
     ·rcases g2 with rfl | ⟨r,rfl,g⟩
      ·rw[Av rfl] at hq;obtain rfl:=xOO hq;cases hy
      ·rw[DO (GQ r)] at hq;exact ih r ys (by simp at hlt;exact U63 _ _ _ hl hlt) g hq y hy
noncomputable def Ea (x:T) (b:Bool):Bool:=x.isEmpty||x.contains 32||x.head?==some 123||(b&&x.head?==some 35)
noncomputable def Cg (x:T) (b:Bool):T:=if Ea x b then 123::(x++[125]) else x
noncomputable def Bs:Bool->List T->List T
 | _,[]=>[]
 | b,x::r=>Cg x b::Bs false r
noncomputable def DY (xs:List T):T:=AR [32] (Bs true xs)
theorem MV {x:T} (b:Bool) (h:good x):good (Cg x b):=by
 refine Aq h fun f hr=>?_;clear h;unfold Cg;split
 ·refine⟨false,?_⟩;rw[run];show (some ((1,0,true):AS)).bind _=_;rw[Option.bind_some,Bb,IR hr];rfl
 ·exact⟨f,hr⟩
theorem Jb:∀(l:List T),(∀x∈l,good x)->good (AR [32] l)
 | [],_=>ES
 | [x],h=>h x (.head _)
 | x::y::r,h=>by
  refine Aq (h x (.head _)) fun f hx=>?_;refine Aq (Jb (y::r) fun z hz=>h z (.tail _ hz)) fun f' hr=>?_;refine⟨f',?_⟩;rw[AR,Bb,Bb,hx,Option.bind_some];exact hr
theorem Md {b:Bool} {l:List T} (h:∀x∈l,good x):∀x∈Bs b l,good x:=by
 induction l generalizing b with
 | nil=>intro x hx;cases hx
 | cons y r ih =>
  intro x hx;rw[Bs] at hx;rcases List.mem_cons.mp hx with rfl | hx
  ·exact MV b (h y (.head _))
  ·exact ih (fun z hz=>h z (.tail _ hz)) x hx
theorem BX {l:List T} (h:∀x∈l,good x):good (DY l):=Jb _ (Md h)
end
section
theorem Nq (h:c∈Cp):([V.str [123],V.str [34]].any fun x=>V.same x (.str [c]))=(c==123):=by revert c;decide
theorem N9 (h:c∈Cp):([V.str [93],V.str [34]].any fun x=>V.same x (.str [c]))=false:=by revert c;decide
theorem ND (h:c∈Cp):([V.str [91],V.str [36],V.str [59],V.str [92]].any fun x=>V.same x (.str [c]))=false:=by revert c;decide
theorem F2 (a b:Nat):decide (([a]:T)=[b])=(a==b):=by by_cases h:a=b <;> simp[h]
theorem PC {G:Gam} {Y:X} {b:Bool} (c:Bool) (h1:∀Q':QV,Q' (.bool c) σ->(wp G Y).x m σ Q' E) (h2:Q (.bool (b&&c)) σ):ifQ b ((wp G Y).x m σ Q E) (Q (.bool b) σ):=by
 cases b
 ·exact h2
 ·exact h1 Q h2
theorem R9 {G:Gam} {Y:X} {b:Bool} {q:Prop} (c:Bool) (hq:Q (.bool b) σ=q) (h1:∀Q':QV,Q' (.bool c) σ->(wp G Y).x m σ Q' E) (h2:Q (.bool (b||c)) σ):ifQ b q ((wp G Y).x m σ Q E):=by
 subst hq;cases b
 ·exact h1 Q h2
 ·exact h2
theorem OS {x:T} {s s':AS} (h:run s x=some s') (e:Nat):∃s₁,run s (x.take e)=some s₁/\run s₁ (x.drop e)=some s':=by
 rw[← List.take_append_drop e x,Bb] at h;exact Option.bind_eq_some_iff.mp h
theorem N3 {x:T} {b:Bool} (hg:good x) (hl:x.length<=100000)
  (h:Q (.str (if Ea x b then [98,114,97,99,101] else [110,111,110,101])) σ) :
  lev (n+2) false .mode_of [.str x,.bool b] σ Q E:=by
 have hlim:x.length<=LIM:=Nat.le_trans hl (by decide);have ht:=hg.ok;refine AD (m:=[some (.str x),some (.bool b),none,none,none,none,none,none,none,none]) rfl rfl rfl ?_;dsimp only[HR];walk_at"w";refine Af (fun z=>?_) (fun z=>?_)
 ·subst z;walk_at"w";exact Ah h
 walk_at"w";obtain⟨c0,r0,rfl⟩ : ∃c r,x=c::r:=by cases x with
  | nil=>exact absurd rfl z
  | cons c r=>exact Me c r rfl
 refine AM hlim (by decide) (c:=c0) rfl ?_;walk_at"w";rw[Nq (ht c0 (.head _))];walk_at"w";refine PC (c0==35) (fun Q' hQ=>?_) ?_
 ·walk_at"w";rw[F2];exact hQ
 walk_at"w";refine R9 (b&&c0==35) (by exact rfl) (fun Q' hQ=>?_) ?_
 ·walk_at"w";exact hQ
 generalize hx:c0::r0=x at *;have hx0:x.head?=some c0:=by rw[← hx];rfl
 have hxe:x.isEmpty=false:=by rw[← hx];rfl
 refine Aq hg fun f' hrun=>?_;clear hg;walk_at"w";let J1:EF:=fun k m σ'=>∃(e d t:Nat) (f W:Bool) (y:Option V),m=[some (.str x),some (.bool b),some (.str [c0]),some (.bool (c0==123||(x.take e).contains 32)),some (.bool (b&&c0==35)),some (.bool W),some (.bool false),some (.int (d+t:Nat)),some (.int e),y] /\
   σ'=σ/\k=x.length - e/\e<=x.length/\run (0,0,true) (x.take e)=some (d,t,f)
 refine Kr J1 (Ox 0 0 0 true _ none (by simp;rfl) rfl rfl (by exact U27 _) rfl) ?_;intro k m σ' z1_;refine UC z1_ fun e d t f W y z2_ z3_ z4_ e1 e2=>?_;clear z1_;subst z2_;subst z3_;subst z4_;walk_at"w";refine Af (fun z1=>?_) (fun z1=>?_)
 ·refine B2 (BU (t:=x) (p:=e) (by exact U5 _ _ z1)) fun c hc hd hm=>?_;have hca:=ht c hm;refine e1a2 (OS hrun (e+1)) fun s₁ r1 r2=>?_;have hts:x.take (e+1)=x.take e++[c]:=by rw[List.take_add_one,hc];rfl
  have hst:stp (d,t,f) c=some s₁:=by
   rw[hts,Bb,e2,Option.bind_some] at r1;refine e1a2 (Ci r1) fun s2 q1 q2=>?_;rw[q1];exact q2
  have hn:=JA hst;obtain⟨d1,t1,f1⟩:=s₁;dsimp only at hn;have hcont:(x.take (e+1)).contains 32=((x.take e).contains 32||c==32):=by
   rw[hts];simp[List.contains_eq_mem,Bool.decide_or,eq_comm];rfl
  walk_at"w";refine AM hlim (by exact U2 _) hc ?_;walk_at"w";refine Af (fun z2=>?_) (fun z2=>?_)
  ·simp at z2;subst z2;walk_at"w";refine Ai (x.length - (e+1)) (by exact U3 _ _ z1) (Ox (e+1) d1 t1 f1 W (some (.str [123])) ?_ rfl rfl (by exact U1 _ _ z1) r1);simp at hn;rw[hcont,← show (d:Int)+t+1=((d1+t1:Nat):Int) from by simp;exact lin 4 0 [.E (.a (.o Z0) (.o Z1)) (.a (.a (.o Z2) (.o Z3)) (.c 1))] (.E (.a (.a (.o Z2) (.o Z3)) (.c 1)) (.a (.o Z0) (.o Z1))) [[1,0,1],[0,1,1]] R0 _ _ _ _ hn];simp
  walk_at"w";refine Af (fun z3=>?_) (fun z3=>?_)
  ·simp at z3;subst z3;walk_at"w";simp at hn;refine Af (fun z4=>by simp at z4;exact(lin 4 0 [.E (.a (.o Z0) (.o Z1)) (.a (.a (.o Z2) (.o Z3)) (.c (-1))),.T (.s (.a (.o Z2) (.o Z3)) (.c 1)) (.c 0)] .f [[1,0,1]] (by kernel_rfl) _ _ _ _ hn z4).elim) (fun z4=>?_);walk_at"w";refine Ai (x.length - (e+1)) (by exact U3 _ _ z1) (Ox (e+1) d1 t1 f1 W (some (.str [125])) ?_ rfl rfl (by exact U1 _ _ z1) r1);rw[hcont,← show (d:Int)+t - 1=((d1+t1:Nat):Int) from by simp;exact lin 4 0 [.E (.a (.o Z0) (.o Z1)) (.a (.a (.o Z2) (.o Z3)) (.c (-1)))] (.E (.s (.a (.o Z2) (.o Z3)) (.c 1)) (.a (.o Z0) (.o Z1))) [[1,0,1],[0,1,1]] (by kernel_rfl) _ _ _ _ hn];simp
  have hc3:c≠123:=by simpa using z2
  have hc4:c≠125:=by simpa using z3
  rw[if_neg hc3,if_neg hc4] at hn;have hn':d1+t1=d+t:=by exact lin 4 0 [.E (.a (.o Z0) (.o Z1)) (.a (.a (.o Z2) (.o Z3)) (.c 0))] (.e (.a Z0 Z1) (.a Z2 Z3)) [[0,1,1],[1,0,1]] R0 _ _ _ _ hn
  walk_at"w";refine CT (N9 hca) ?_;walk_at"w";refine CT (ND hca) ?_;walk_at"w";refine BW hca ?_;walk_at"w";refine AF (fun z5=>?_) (fun z5=>?_)
  ·simp at z5;subst z5;walk_at"w";walk_at"w";refine Ai (x.length - (e+1)) (by exact U3 _ _ z1) (Ox (e+1) d1 t1 f1 true (some (.str [32])) ?_ rfl rfl (by exact U1 _ _ z1) r1);rw[hcont,hn'];simp
  ·walk_at"w";refine Ai (x.length - (e+1)) (by exact U3 _ _ z1) (Ox (e+1) d1 t1 f1 W (some (.str [c])) ?_ rfl rfl (by exact U1 _ _ z1) r1);rw[hcont,hn',z5];simp
 ·have he:e=x.length:=by exact U55 _ _ e1 z1
  subst he;rw[List.take_of_length_le (Nat.le_refl _)] at e2;rw[hrun] at e2;refine xPr (xSS e2) fun z5_ z6_=>?_;subst z5_;refine xPr z6_ fun z7_ z8_=>?_;subst z7_;subst z8_;rw[List.take_of_length_le (Nat.le_refl _)];walk_at"w";have hb:Ea x b=((c0==123||x.contains 32)||(b&&c0==35)):=by
   unfold Ea;rw[hxe,hx0];cases x.contains 32 <;> simp
  rw[hb] at h;refine AF (fun z3=>?_) (fun z3=>?_)
  ·rw[z3] at h;walk_at"w";exact Ah h
  ·rw[z3] at h;walk_at"w";refine AF (fun z4=>?_) (fun z4=>?_)
   ·rw[z4] at h;walk_at"w";exact Ah h
   ·rw[z4] at h;walk_at"w";exact Ah h
theorem PU {x:T} {b:Bool} (hg:good x) (hl:x.length<=100000) (h:Q (.str (Cg x b)) σ) :
  lev (n+3) false .quote [.str x,.bool b] σ Q E:=by
 refine AD (m:=[some (.str x),some (.bool b),none,none,none]) rfl rfl rfl ?_;dsimp only[Lj];walk_at"w";refine N3 hg hl ?_;unfold Cg at h;cases hb:Ea x b <;> rw[hb] at h
 ·walk_at"w";exact Ah h
 ·walk_at"w";exact Ah h
theorem LA (b:Bool) (pre:List T) (x:T):Bs b (pre++[x])=Bs b pre++[Cg x (pre.isEmpty&&b)]:=by
 induction pre generalizing b with
 | nil=>simp[Bs]
 | cons y r ih=>rw[List.cons_append,Bs,Bs,ih];cases r <;> simp
theorem D8 (b:Bool) (l:List T):(Bs b l).length=l.length:=by
 induction l generalizing b with
 | nil=>rfl
 | cons y r ih=>rw[Bs,List.length_cons,ih,List.length_cons]
theorem AV (x:T) (b:Bool):(Cg x b).length<=x.length+2:=by
 unfold Cg;split <;> simp
theorem FZ (b:Bool) (l:List T):((Bs b l).map List.length).sum<=(l.map List.length).sum+2*l.length:=by
 induction l generalizing b with
 | nil=>simp[Bs]
 | cons y r ih =>
  rw[Bs,List.map_cons,List.sum_cons,List.map_cons,List.sum_cons,List.length_cons];have:=ih false;have:=AV y b;exact lin 5 0 [.l Z0 (.a Z1 (.c 2)),.l Z2 (.a Z3 (.m 2 Z4))] (.l (.a Z0 Z2) (.a (.a Z1 Z3) (.m 2 (.a Z4 (.c 1))))) [] R0 _ _ _ _ _ this (by assumption)
noncomputable def weigh (xs:List T):Nat:=(xs.map fun x=>x.length+1).sum
theorem Ba (xs:List T):(xs.map List.length).sum+xs.length=weigh xs:=by
 unfold weigh;induction xs with
 | nil=>rfl
 | cons y r ih=>rw[List.map_cons,List.sum_cons,List.map_cons,List.sum_cons,List.length_cons];exact lin 4 0 [.e (.a Z0 Z1) Z2] (.e (.a (.a Z3 Z0) (.a Z1 (.c 1))) (.a (.a Z3 (.c 1)) Z2)) [[0,1,1],[1,0,1]] R0 _ _ _ _ ih
theorem FG {xs:List T} {x:T} (h:x∈xs):x.length+1<=weigh xs:=by
 unfold weigh;induction xs with
 | nil=>cases h
 | cons y r ih =>
  rw[List.map_cons,List.sum_cons];rcases List.mem_cons.mp h with rfl | h
  ·exact lin 2 0 [] (.l (.a Z0 (.c 1)) (.a (.a Z0 (.c 1)) Z1)) [] R0 _ _
  ·have:=ih h;exact lin 3 0 [.l (.a Z0 (.c 1)) Z1] (.l (.a Z0 (.c 1)) (.a (.a Z2 (.c 1)) Z1)) [] R0 _ _ _ this
theorem Em {n r:Nat} {xs:List T} (hr:Ag σ (.ref r)=some (Ae xs)) (hg:∀x∈xs,good x) (hw:weigh xs<=100000) (h:Q (.str (DY xs)) σ) :
  lev (n+4) false .join_list [.ref r] σ Q E:=by
 have hs:=Ba xs;refine AD (m:=[some (.ref r),none,none]) rfl rfl rfl ?_;dsimp only[F3];walk_at"w";refine AL (by decide) (fun a ha=>?_);walk_at"w";have hr':∀c,Ag (σ.set a c) (.ref r)=some (Ae xs):=fun c=>Al hr (SubS.new ha);let J2:List V->Loc->Store->Prop:=fun ys m σ'=>∃(pre post:List T) (y:Option V),xs=pre++post/\ys=Ae post/\m=[some (.ref r),some (.ref a),y]/\σ'=σ.set a (.lst (Ae (Bs true pre)))
 refine GA J2
  (hr' _) (by unfold Ae;rw[List.length_map,LIM];exact U28 _ _ _ hs hw) (Lc [] xs none rfl rfl rfl rfl) ?_ ?_
 ·intro y ys m σ' z1_;refine JD z1_ fun pre post y0 hx hy z2_ z3_=>?_;clear z1_;subst z2_;subst z3_;cases post with
  | nil=>exact xCN hy
  | cons x post =>
   unfold Ae at hy;rw[List.map_cons] at hy;refine xCC hy fun z4_ z5_=>?_;subst z4_;subst z5_;have hm:x∈xs:=by rw[hx];simp
   have hxw:=FG hm;have hpl:pre.length<=xs.length:=by rw[hx];simp
   refine⟨hr' _,?_⟩;walk_at"w";refine BB (Aa _ _ _) ?_;walk_at"w";refine len_ref (Ac (Aa _ _ _)) (by unfold Ae;rw[List.length_map,D8,LIM];exact U64 _ _ _ _ hs hw hpl) ?_;walk_at"w";refine PU (hg x hm) (by exact lin 2 0 [.l (.a Z0 (.c 1)) Z1,.l Z1 (.c 100000)] (.l Z0 (.c 100000)) [] R0 _ _ hxw hw) ?_;walk_at"w";refine BC (Aa _ _ _) (by unfold Ae;rw[List.length_map,D8,LIM];exact U64 _ _ _ _ hs hw hpl) ?_;rw[Aj];walk_at"w";refine Lc (pre++[x]) post (some (.str x)) (by rw[hx];simp) rfl rfl ?_;rw[LA];unfold Ae;rw[List.map_append,List.length_map,D8];have:decide (((pre.length:Nat):Int)=0)=(pre.isEmpty&&true):=by
    cases pre with
    | nil=>rfl
    | cons p q=>rw[decide_eq_false (by simp;exact lin 1 0 [] (.n (.E (.a (.o Z0) (.c 1)) (.c 0))) [[1,0]] R0 _)];rfl
   rw[this];rfl
 ·intro m σ' z6_;refine JD z6_ fun pre post y0 hx hy z7_ z8_=>?_;clear z6_;subst z7_;subst z8_;have:post=[]:=by cases post with
   | nil=>rfl
   | cons=>exact xNC hy
  subst this;rw[List.append_nil] at hx;subst hx;refine⟨hr' _,?_⟩;have hf:=FZ true xs;walk_at"w";refine CD (ts:=Bs true xs) (Ac (Aa _ _ _)) (DD _) (by decide) (by rw[LIM,D8];exact U65 _ _ _ _ hs hf hw) ?_;walk_at"w";exact AB (SubS.new ha) h
end
section
noncomputable def AK (ps:List (T × T)) (k v:T):List (T × T):=if ps.any (fun p=>p.1==k) then ps.map (fun p=>if p.1==k then (p.1,v) else p) else ps++[(k,v)]
noncomputable def EC (ps:List (T × T)) (k:T):List (T × T):=ps.filter fun p=>!(p.1==k)
noncomputable def vp (ps:List (T × T)):List (T × V):=ps.map fun p=>(p.1,.str p.2)
noncomputable def Bv:List T->List (T × T)->List (T × T)
 | k::v::r,acc=>Bv r (AK acc k v)
 | _,acc=>acc
noncomputable def Ao (ps:List (T × T)):List T:=ps.flatMap fun p=>[p.1,p.2]
noncomputable def AE (ps:List (T × T)):T:=DY (Ao ps)
noncomputable def missing:AG:=(tx "missing value to go with key",[tx "TCL",tx "VALUE",tx "DICTIONARY"])
noncomputable def Ap (t:T):Except AG (List (T × T)):=match A0 t with
 | .error e=>.error (Cb e)
 | .ok xs=>if xs.length % 2=1 then .error missing else .ok (Bv xs [])
theorem Ei (ps:List (T × T)) (k v:T):Cf (vp ps) k (.str v)=vp (AK ps k v):=by
 unfold Cf AK vp;rw[List.any_map];have:((fun p:T × V=>p.1==k) ∘ fun p:T × T=>(p.1,V.str p.2))=fun p=>p.1==k:=rfl;rw[this];split
 ·rw[List.map_map,List.map_map];congr 1;funext p;show (if (p.1==k)=true then (p.1,V.str v) else (p.1,V.str p.2))=((fun p:T × T=>(p.1,V.str p.2)) (if (p.1==k)=true then (p.1,v) else p));split <;> rfl
 ·rw[List.map_append];rfl
theorem HH (ps:List (T × T)) (k:T):Da (vp ps) k=(ps.lookup k).map .str:=by
 unfold Da vp;induction ps with
 | nil=>rfl
 | cons p r ih =>
  obtain⟨p1,p2⟩:=p;rw[List.map_cons,List.lookup_cons,List.lookup_cons];cases k==p1
  ·exact ih
  ·rfl
theorem Sq (ps:List (T × T)) (k:T):Ij (vp ps) k=vp (EC ps k):=by
 unfold Ij EC vp;rw[List.filter_map];rfl
theorem Jn (ps:List (T × T)) (k:T):(vp ps).any (fun p=>p.1==k)=(ps.lookup k).isSome:=by
 unfold vp;rw[List.any_map];induction ps with
 | nil=>rfl
 | cons p r ih =>
  rw[List.any_cons,ih,show p=(p.1,p.2) from rfl,List.lookup_cons];by_cases e:k=p.1
  ·subst e;simp
  ·have e1:(k==p.1)=false:=by simpa using e
   have e2:(p.1==k)=false:=by simpa using fun z:p.1=k=>e z.symm
   rw[e1];show ((p.1==k)||_)=_;rw[e2];rfl
theorem DH (ps:List (T × T)):(vp ps).length=ps.length:=by unfold vp;simp
theorem B3 {a ep:Nat} {x:V} {Q:Store->Prop} (e:σ a=some (.dct ep kvs)) (hl:kvs.length<=LIM) (h:∀ep',Q (σ.set a (.dct ep' (Cf kvs k x)))):setISem (.ref a) (.str k) x σ Q:=.dct e hl h
theorem Li {a j:Nat} {i:Int} {x:V} {Q:Store->Prop} (e:σ a=some (.lst vs)) (hl:vs.length<=LIM) (h0:i=(j:Int)) (hj:j < vs.length) (h:Q (σ.set a (.lst (vs.set j x)))):setISem (.ref a) (.int i) x σ Q:=by
 subst h0;exact .lst e hl (Int.natCast_nonneg j) hj h
theorem Ak {a j:Nat} {s:List V} {i:Int} {x:V} (e:Ag σ (.ref a)=some s) (h:s.length<=LIM) (hi:i=(j:Int)) (hc:s[j]?=some x) (k:Q x σ):idxSem (.ref a) (.int i) σ Q:=by
 refine .lst e h ?_ hc k;have:=(List.getElem?_eq_some_iff.mp hc).1;unfold M3;rw[if_pos (by exact lin 2 1 [.E (.v 0) (.o Z0),.t Z0 Z1] (.a (.L (.c 0) (.v 0)) (.T (.v 0) (.o Z1))) [[0,1,0,1],[1,0,1,1]] R0 _ _ _ hi this)];subst hi;rfl
theorem CR {s:List V} {x:V} (e:Ag σ (.ref a)=some (s++[x])) (h:s.length+1<=LIM) (k:Q x σ):idxSem (.ref a) (.int (-1)) σ Q:=by
 refine .lst (j:=s.length) (x:=x) e (by simpa using h) ?_ (by simp) k;unfold M3;rw[if_neg (by exact lin 1 0 [] (.n (.a (.L (.c 0) (.c (-1))) (.T (.c (-1)) (.o Z0)))) [[1,0]] (by kernel_rfl) _),if_pos (by simp;exact lin 1 0 [] (.L (.c 1) (.a (.o Z0) (.c 1))) [] (by kernel_rfl) _)];congr 1;simp;exact lin 1 0 [] (.e (.t (.a (.c (-1)) (.a (.o Z0) (.c 1)))) Z0) [[0,1],[0,1]] (by kernel_rfl) _
theorem mod_int {a b:Int} (hb:0 < b) (h:Q (.int (a % b)) σ):binSem .mod (.int a) (.int b) σ Q:=.mod_int hb h
theorem div_int {a b:Int} (hb:0 < b) (hb2:b < 2 ^ 63) (h:Q (.int (a / b)) σ):binSem .fdiv (.int a) (.int b) σ Q:=.div_int hb hb2 h
theorem Lf {n:Int} (hn:n.natAbs < 2 ^ 40) (h:Q (.rng 0 n 1) σ):bfSem .range [.int n] σ Q:=.rng1 hn h
theorem O7 {a b c:Int} (h1:a.natAbs < 2 ^ 40) (h2:b.natAbs < 2 ^ 40) (h3:c.natAbs < 2 ^ 40) (h4:c≠0) (h:Q (.rng a b c) σ):bfSem .range [.int a,.int b,.int c] σ Q:=.rng3 h1 h2 h3 h4 h
theorem CW {a b:Nat} {xs ys:List V} (h1:Ag σ (.ref a)=some xs) (h2:Ag σ (.ref b)=some ys) (h:newL σ (xs++ys) Q):binSem .add (.ref a) (.ref b) σ Q:=.add_lst xs ys h1 h2 h
theorem CG {Γ:Bool->Gam} {Q:QF} {E:EF} {b:SS} {lo hi st:Int} (I:EF) (N:Nat) (h1:lo.natAbs < 2 ^ 40) (h2:hi.natAbs < 2 ^ 40) (h3:st.natAbs < 2 ^ 40) (h4:st≠0)
  (hN:(Builtin.Range.rangeSize lo hi st).toNat=N) (hl:N<=LIM) (h0:I 0 m σ)
  (hs:∀k m σ,k < N->I k m σ->ws Γ none b (m.set i (some (.int (lo+st*(k:Int))))) σ (Dd (I (k+1)) Q) E) (he:∀m σ,I N m σ->Q .next m σ):for1Sem Γ i b m Q E (.rng lo hi st) σ:=by
 have hr:Cl lo hi st=(List.range N).map fun (k:Nat)=>lo+st*(k:Int):=by unfold Cl;rw[hN]
 refine PF (fun cs m σ=>∃k,k<=N/\cs=((List.range N).drop k).map (fun (k:Nat)=>lo+st*(k:Int))/\I k m σ) (Qd h1 h2 h3 h4) (by rw[hr];simpa using hl) (B9 0 (Nat.zero_le _) (by rw[hr];rfl) h0) ?_ ?_
 ·intro c cs m σ z1_;refine B2 z1_ fun k hk e hI=>?_;clear z1_;have hk':k < N:=by
   rcases Nat.lt_or_ge k N with h | h
   ·exact h
   ·rw[List.drop_of_length_le (by simpa using h)] at e;exact xCN e
  rw[List.drop_eq_getElem_cons (by simpa using hk'),List.map_cons,List.getElem_range] at e;refine xCC e fun z2_ z3_=>?_;subst z2_;subst z3_;refine Eq.mp (congrArg (fun q=>ws Γ none b _ σ q E) (funext fun f=>funext fun m=>funext fun σ=>?_)) (hs k m σ hk' hI);cases f <;> (try rfl) <;> simp only[Dd] <;> refine propext ⟨fun h=>(B9 (k+1) hk' rfl h),?_⟩
  all_goals
   intro z4_;refine B2 z4_ fun k2 hk2 e h=>?_;clear z4_;have:k2=k+1:=by
    have:=congrArg List.length e;simp at this;exact lin 3 0 [.e (.s Z0 (.a Z1 (.c 1))) (.s Z0 Z2),.l Z2 Z0,.t Z1 Z0] (.e Z2 (.a Z1 (.c 1))) [[0,0,0,1,0,0,1],[0,0,1,0,0,0,1],[0,1,0,0,1,0,0],[0,1,0,0,1,0,0],[1,0,0,0,0,1,0],[1,0,0,0,0,1,0],[1,0,0,0,0,1,0],[0,1,0,0,1,0,0]] R0 _ _ _ this hk2 hk'
   rw[← this];exact h
 ·intro m σ z5_;refine B2 z5_ fun k hk e hI=>?_;clear z5_;have:k=N:=by
   have:=congrArg List.length e;simp at this;exact lin 2 0 [.e (.c 0) (.s Z0 Z1),.l Z1 Z0] (.e Z1 Z0) [[0,0,1,0,1],[1,0,0,0,1],[1,0,0,1,0],[1,0,0,1,0]] R0 _ _ this hk
  subst this;exact he m σ hI
noncomputable def RaisesA (σ:Store) (E:QE) (f:AG):Prop:=∀e st k at_,1<=st->σ e=none->FaultAt at_ f->E e (σ.set e (.exc st k at_))
theorem RaisesA.one {f:AG} (h:RaisesA σ E f):Raises σ E f:=fun e k at_ he hf=>h e 1 k at_ (Nat.le_refl _) he hf
theorem RaisesA.sub {σ τ:Store} {f:AG} (h:RaisesA σ E f) (hs:SubS σ τ):RaisesA τ (dropE E) f:=fun a st k at_ hst ha hf =>
 ⟨σ.set a (.exc st k at_),SubS.put (hs.turn (hs.none ha)) (Aa _ _ _),⟨st,k,at_,Aa _ _ _,hst⟩,h a st k at_ hst (hs.none ha) hf⟩
theorem EG {s t:T} (h:Q (.bool (t.isPrefixOf s)) σ):bmSem .startswith (.str s) [.str t] σ Q:=.starts h
theorem K1 {s t:T} (h:Q (.bool (t.isSuffixOf s)) σ):bmSem .endswith (.str s) [.str t] σ Q:=.ends h
theorem Ek {a st k:Nat} {n:T} {x:V} (e:σ a=some (.exc st k at_)) (hx:at_.lookup n=some x) (h:Q x σ):attrSem (.ref a) n σ Q:=.exc e hx h
theorem Cy {a k:Nat} {c:Cls} {n:T} {x:V} (e:σ a=some (.obj c k at_)) (hx:at_.lookup n=some x) (h:Q x σ):attrSem (.ref a) n σ Q:=.obj e hx h
theorem Ju {n c k:Nat} {b:Bad} (hc:σ c=some (.exc 1 k at_)) (hf:FaultAt at_ (AH b)) (hb:∀x,b=.junk x->x.length<=20)
  (h:∀e k at_,σ e=none->FaultAt at_ (Cb b)->Q (.ref e) (σ.set e (.exc 0 k at_))):lev (n+3) true .dict_fault [.ref c] σ Q E:=by
 refine RF (m:=[some (.ref c),none]) rfl rfl rfl rfl ?_;dsimp only[EJ];walk_at"w";refine Ek hc hf.value ?_;walk_at"w";have tail:∀{w:T},w=(Cb b).1->G0 (fun _=>lev (n+2) true) none (.cons (.ret (.call .error (.cons (.var 1) (.cons (.tup (.cons (.cStr [84,67,76]) (.cons (.cStr [86,65,76,85,69]) (.cons (.cStr [68,73,67,84,73,79,78,65,82,89]) (.cons (.idx (.attr (.var 0) [101,114,114,111,114,99,111,100,101]) (.cInt 3)) .nil))))) .nil)))) .nil)
   (FL Q) (Es E) .next [some (.ref c),some (.str w)] σ:=by
  intro w hw;walk_at"w";refine Ek hc hf.err ?_;walk_at"w";refine idx_tup (x:=.str b.kind) (by simp[LIM,Ae,AH]) (by decide) rfl ?_;walk_at"w";subst hw;refine Dm (f:=((Cb b).1,[tx "TCL",tx "VALUE",tx "DICTIONARY",b.kind])) (fun e k' at' he hf'=>?_);walk_at"w";exact Ah (h e k' at' he hf')
 cases b with
 | brace =>
  refine EG ?_;walk_at"w";refine K1 ?_;walk_at"w";refine Bz (lo:=none) (hi:=some (-4)) rfl rfl (by decide) ?_;walk_at"w";refine tail ?_;decide
 | junk x =>
  have hx:=hb x rfl;have hl:(AH (.junk x)).1.length<=100:=by
   unfold AH Bad.pre Bad.suf;simp only[List.length_append,List.length_nil];rw[show (tx "list").length=4 from rfl,show (tx " element in braces followed by \"").length=32 from rfl,show (tx "\" instead of space").length=18 from rfl];exact lin 1 0 [.l Z0 (.c 20)] (.l (.a (.a (.c 0) (.c 4)) (.a (.a (.c 32) Z0) (.c 18))) (.c 100)) [] R0 _ hx
  refine EG ?_;walk_at"w";refine Bz (lo:=some (4:Nat)) (hi:=none) rfl rfl (by rw[LIM];exact U16 _ hl) ?_;rw[D0];refine bs_add_str (by rw[LIM,List.length_drop];simp;exact lin 1 0 [.l Z0 (.c 100)] (.l (.a (.c 4) (.s Z0 (.c 4))) (.c 8000000)) [[1,0,1]] R0 _ hl) ?_;walk_at"w";exact tail rfl
theorem GW {x:T} (h:A0 t=.error (.junk x)):x.length<=20:=by
 have aux:∀(N:Nat) (t:T),t.length<=N->A0 t=.error (.junk x)->x.length<=20:=by
  intro N;induction N with
  | zero =>
   intro t hl h;have:t=[]:=List.length_eq_zero_iff.mp (by exact U9 _ hl);subst this;rw[Av rfl] at h;exact xOE h
  | succ N ih =>
   intro t hl h;cases he:Bu t with
   | none=>rw[Av he] at h;exact xOE h
   | some r =>
    cases r with
    | error e =>
     rw[AT he] at h;obtain rfl:=xEE h;unfold Bu at he;split at he
     ·exact xNS he
     ·split at he
      ·split at he
       ·cases he
       ·split at he
        ·exact xOE (xSS he)
        ·cases he;rw[List.length_take];exact U66 _
      ·exact xOE (xSS he)
    | ok p =>
     obtain⟨y,q⟩:=p;have hlt:=Cv he;rw[B4 he] at h;cases hq:A0 q with
     | error e=>rw[hq] at h;obtain rfl:=xEE h;exact ih q (by exact U17 _ _ _ hl hlt) hq
     | ok ys=>rw[hq] at h;exact xOE h
 exact aux _ t (Nat.le_refl _) h
theorem Jk {N:Nat}:∀(t:T) (xs:List T),t.length<=N->A0 t=.ok xs->xs.length<=t.length:=by
 induction N with
 | zero =>
  intro t xs hl h;have:t=[]:=List.length_eq_zero_iff.mp (by exact U9 _ hl);subst this;rw[Av rfl] at h;obtain rfl:=xOO h;simp
 | succ N ih =>
  intro t xs hl h;cases he:Bu t with
  | none=>rw[Av he] at h;obtain rfl:=xOO h;simp
  | some r =>
   cases r with
   | error e=>rw[AT he] at h;exact xEO h
   | ok p =>
    obtain⟨y,q⟩:=p;have hlt:=Cv he;rw[B4 he] at h;cases hq:A0 q with
    | error e=>rw[hq] at h;exact xEO h
    | ok ys =>
     rw[hq] at h;obtain rfl:=xOO h;have:=ih q ys (by exact U17 _ _ _ hl hlt) hq;rw[List.length_cons];exact lin 3 0 [.l Z0 Z1,.t Z1 Z2] (.l (.a Z0 (.c 1)) Z2) [] R0 _ _ _ this hlt
theorem Go:∀(xs:List T) (acc:List (T × T)) (j:Nat) (k v:T),xs[2*j]?=some k->xs[2*j+1]?=some v->Bv (xs.drop (2*j)) acc=Bv (xs.drop (2*(j+1))) (AK acc k v):=by
 intro xs acc j k v h1 h2;have l1:=(List.getElem?_eq_some_iff.mp h1).1;have l2:=(List.getElem?_eq_some_iff.mp h2).1;rw[List.drop_eq_getElem_cons l1,List.drop_eq_getElem_cons (show 2*j+1 < xs.length from l2)];rw[List.getElem?_eq_getElem l1] at h1;rw[List.getElem?_eq_getElem l2] at h2;obtain rfl:=xSS h1;obtain rfl:=xSS h2;rw[Bv,show 2*(j+1)=2*j+1+1 from by exact lin 1 0 [] (.e (.m 2 (.a Z0 (.c 1))) (.a (.a (.m 2 Z0) (.c 1)) (.c 1))) [] R0 _]
theorem Am {xs:List T} {x:T} (h:xs[i]?=some x):(Ae xs)[i]?=some (.str x):=by
 unfold Ae;rw[List.getElem?_map,h];rfl
theorem Ad (xs:List T):(Ae xs).length=xs.length:=by unfold Ae;simp
theorem D2 (ht:okt t) (hl:t.length<=100000)
  (h1:∀ps,Ap t=.ok ps->∀a ep,σ a=none->Q (.ref a) (σ.set a (.dct ep (vp ps))))
  (h2:∀f,Ap t=.error f->RaisesA σ E f) :
  lev (n+7) false .dict_of [.str t] σ Q E:=by
 refine AD (m:=[some (.str t),none,none,none,none]) rfl rfl rfl ?_;dsimp only[GF];walk_at"w";refine ML ht hl (fun xs hp a ha=>?_) (fun e hp a k at_ ha hf=>?_)
 ·have hpp:Ap t=if xs.length % 2=1 then .error missing else .ok (Bv xs []):=by unfold Ap;rw[hp]
  have hxl:xs.length<=100000:=Nat.le_trans (Jk _ _ (Nat.le_refl _) hp) hl;have hla:=Ac (Aa σ a (.lst (Ae xs)));walk_at"w";refine len_ref hla (by rw[Ad,LIM];exact U10 _ hxl) ?_;walk_at"w";refine mod_int (by decide) ?_;walk_at"w";rw[Ad];refine Af (fun z=>?_) (fun z=>?_)
  ·rw[if_pos (OZ z)] at hpp;walk_at"w";refine Dm (f:=(tx "missing value to go with key",[tx "TCL",tx "VALUE",tx "DICTIONARY"])) (fun e k at_ he hf=>?_);exact I9 (SubS.new ha) he hf (h2 _ hpp).one
  ·rw[if_neg (Oa z)] at hpp;walk_at"w";intro d ep hd;walk_at"w";refine len_ref (Ac (Ar (Aa σ a (.lst (Ae xs))) hd)) (by rw[Ad,LIM];exact U10 _ hxl) ?_;walk_at"w";rw[Ad];refine O7 (by decide) (by exact U67 _ hxl) (by decide) (by decide) ?_;have hda:d≠a:=fun z=>by subst z;rw[Aa] at hd;exact xSN hd
   have hd0:σ d=none:=by rw[Ab _ _ hda] at hd;exact hd
   let J1:EF:=fun j m σ'=>∃(acc:List (T × T)) (ep:Nat) (y:Option V),m=[some (.str t),some (.ref a),none,some (.ref d),y]/\σ'=(σ.set a (.lst (Ae xs))).set d (.dct ep (vp acc))/\Bv xs []=Bv (xs.drop (2*j)) acc/\acc.length<=j
   refine CG J1
    (xs.length / 2) (by decide) (by exact U67 _ hxl) (by decide) (by decide) (Oy _ z) (by rw[LIM];omega) (Lc [] ep none rfl rfl rfl (Nat.le_refl _)) ?_ ?_
   ·intro j m σ' hj z1_;refine JD z1_ fun acc ep y z2_ z3_ e1 e2=>?_;clear z1_;subst z2_;subst z3_;obtain⟨k,hk⟩ : ∃k,xs[2*j]?=some k:=⟨_,List.getElem?_eq_getElem (by omega)⟩;obtain⟨v,hv⟩ : ∃v,xs[2*j+1]?=some v:=⟨_,List.getElem?_eq_getElem (by omega)⟩;have hla2:Ag ((σ.set a (.lst (Ae xs))).set d (.dct ep (vp acc))) (.ref a)=some (Ae xs):=Ac (by rw[Ab _ _ (Ne.symm hda)];exact Aa _ _ _);walk_at"w";refine Ak (j:=2*j+1) hla2 (by rw[Ad,LIM];exact U10 _ hxl) (by exact U68 _) (Am hv) ?_;walk_at"w";refine Ak (j:=2*j) hla2 (by rw[Ad,LIM];exact U10 _ hxl) (by exact U69 _) (Am hk) ?_;refine B3 (Aa _ _ _) (by rw[DH,LIM];omega) (fun ep'=>?_);rw[Aj,Ei];walk_at"w";refine Lc (AK acc k v) ep' (some (.int (0+2*(j:Int)))) rfl rfl ?_ ?_
    ·rw[e1,Go xs acc j k v hk hv]
    ·unfold AK;split <;> simp <;> first | exact U4 _ _ e2 | assumption
   ·intro m σ' z4_;refine JD z4_ fun acc ep y z5_ z6_ e1 e2=>?_;clear z4_;subst z5_;subst z6_;walk_at"w";rw[show xs.drop (2*(xs.length / 2))=[] from List.drop_of_length_le (QX _ z)] at e1;rw[e1] at hpp;exact AB (SubS.put (SubS.turn (SubS.new ha) hd0) (Aa _ _ _)) (h1 _ hpp d ep hd0)
 ·have hpp:Ap t=.error (Cb e):=by unfold Ap;rw[hp]
  walk_at"w";refine Ju (Aa _ _ _) hf (fun x hx=>GW (by rw[hp,hx])) (fun e' k' at' he' hf'=>?_);walk_at"w";have hne:a≠e':=fun z=>by subst z;rw[Aa] at he';exact xSN he'
  refine Ov e' k' at' rfl (Aa _ _ _) hne (Me k at_ (by rw[Ab _ _ hne];exact Aa _ _ _)) ?_;rw[Aj];exact((h2 _ hpp).sub (SubS.new ha)) e' 2 k' at' (by decide) he' hf'
end
section
noncomputable def wt (xs:List T):Nat:=(xs.map fun x=>(Cg x false).length+1).sum
theorem Bf (x:T) (r:List T):wt (x::r)=(Cg x false).length+1+wt r:=rfl
theorem FP (a b:List T):wt (a++b)=wt a+wt b:=by unfold wt;rw[List.map_append,List.sum_append]
theorem Jy (x:T) (b:Bool):x.length<=(Cg x b).length:=by unfold Cg;split <;> simp <;> exact lin 1 0 [] (.l Z0 (.a (.a Z0 (.c 1)) (.c 1))) [] R0 _
theorem Bt (xs:List T):weigh xs<=wt xs:=by
 induction xs with
 | nil=>exact Nat.le_refl _
 | cons x r ih=>rw[Bf];unfold weigh at ih ⊢;rw[List.map_cons,List.sum_cons];have:=Jy x false;exact lin 4 0 [.l Z0 Z1,.l Z2 Z3] (.l (.a (.a Z0 (.c 1)) Z2) (.a (.a Z1 (.c 1)) Z3)) [] R0 _ _ _ _ this ih
theorem RE {xs:List T} {x:T} (h:x∈xs):x.length+1<=wt xs:=Nat.le_trans (FG h) (Bt xs)
theorem Qs:∀(t:T) (c:Nat),c∈AA t->c≠32:=by
 intro t;induction t with
 | nil=>intro c h;cases h
 | cons d r ih =>
  intro c h;by_cases hd:d=32
  ·subst hd;cases h
  ·have:AA (d::r)=d::AA r:=by unfold AA;simp[hd]
   rw[this] at h;rcases List.mem_cons.mp h with rfl | h
   ·exact hd
   ·exact ih c h
theorem Qj {t x q:T} (h:Bu t=some (.ok (x,q))):(Cg x false).length+q.length<=t.length:=by
 have hs:=HG t;unfold Bu at h;split at h
 ·exact xNS h
 ·rename_i c r e;rw[e] at hs;split at h
  ·split at h
   ·exact xEO (xSS h)
   ·rename_i i q' hc;split at h
    ·refine xPr (xOO ((xSS h))) fun z1_ z2_=>?_;obtain rfl:=(z1_).symm;obtain rfl:=(z2_).symm;have h1:=congrArg List.length (HY _ _ _ _ hc);have h2:=AV x false;simp at h1 hs;exact lin 5 0 [.e Z0 (.a Z1 (.a Z2 (.c 1))),.l (.a Z0 (.c 1)) Z3,.l Z4 (.a Z1 (.c 2))] (.l (.a Z4 Z2) Z3) [[0,1,1,1,1]] R0 _ _ _ _ _ h1 hs h2
    ·exact xEO (xSS h)
  ·rename_i hc;have h':=Except.ok.inj (Option.some.inj h);rw[Prod.mk.injEq] at h';have h1:=h'.1;have h2:=h'.2;clear h';have hc32:c≠32:=by
    intro z;subst z;have:=List.head?_dropWhile_not (p:=(·==32)) t;rw[show (List.dropWhile (fun x=>x==32) t)=skip t from rfl,e] at this;simp at this
   have hb:Ea (AA (c::r)) false=false:=by
    have hw:AA (c::r)=c::AA r:=by unfold AA;simp[hc32]
    unfold Ea;rw[hw];have hn:(c::AA r).contains 32=false:=by
     rw[Bool.eq_false_iff];intro hm;rw[← hw,List.contains_iff_mem] at hm;exact Qs _ _ hm rfl
    rw[hn];have hc':(c==123)=false:=by simpa using hc
    simp[hc]
   have hf:Cg x false=x:=by
    rw[← h1];unfold Cg;rw[hb];rfl
   rw[hf,← h1,← h2];have:=congrArg List.length (CB (c::r));rw[List.length_append] at this;exact lin 4 0 [.e (.a Z0 Z1) Z2,.l Z2 Z3] (.l (.a Z0 Z1) Z3) [[1,0,1,1]] R0 _ _ _ _ this hs
theorem Et {N:Nat}:∀(t:T) (xs:List T),t.length<=N->A0 t=.ok xs->wt xs<=t.length+1/\(xs≠[]->0 < t.length):=by
 induction N with
 | zero =>
  intro t xs hl h;have:t=[]:=List.length_eq_zero_iff.mp (by exact U9 _ hl);subst this;rw[Av rfl] at h;obtain rfl:=xOO h;exact⟨by simp[wt],fun z=>absurd rfl z⟩
 | succ N ih =>
  intro t xs hl h;cases he:Bu t with
  | none=>rw[Av he] at h;obtain rfl:=xOO h;exact⟨by simp[wt],fun z=>absurd rfl z⟩
  | some r =>
   cases r with
   | error e=>rw[AT he] at h;exact xEO h
   | ok p =>
    obtain⟨y,q⟩:=p;have hlt:=Cv he;have hw:=Qj he;rw[B4 he] at h;cases hq:A0 q with
    | error e=>rw[hq] at h;exact xEO h
    | ok ys =>
     rw[hq] at h;obtain rfl:=xOO h;refine⟨?_,fun _=>by exact lin 2 0 [.t Z0 Z1] (.t (.c 0) Z1) [] R0 _ _ hlt⟩;rw[Bf];by_cases hy:ys=[]
     ·subst hy;show _+1+0<=_;exact lin 3 0 [.l (.a Z0 Z1) Z2] (.l (.a (.a Z0 (.c 1)) (.c 0)) (.a Z2 (.c 1))) [] R0 _ _ _ hw
     ·
      have hb:q=[]∨∃r,q=32::r:=by
       have hword:AA q=[]:=by
        unfold Bu at he;split at he
        ·exact xNS he
        ·split at he
         ·split at he
          ·exact xEO (xSS he)
          ·split at he
           ·rename_i hww;refine xPr (xOO ((xSS he))) fun z62_ z63_=>?_;subst z62_;subst z63_;exact hww
           ·exact xEO (xSS he)
         ·have h':=Except.ok.inj (Option.some.inj he);rw[Prod.mk.injEq] at h';rw[← h'.2];exact I3 _
       cases q with
       | nil=>exact .inl rfl
       | cons c r =>
        by_cases hc:c=32
        ·exact .inr ⟨r,by rw[hc]⟩
        ·unfold AA at hword;simp[hc] at hword
      rcases hb with rfl | ⟨r,rfl⟩
      ·rw[Av rfl] at hq;obtain rfl:=xOO hq;exact absurd rfl hy
      ·rw[DO (GQ r)] at hq;simp at hlt hw;have:=(ih r ys (by exact U63 _ _ _ hl hlt) hq).1;exact lin 4 0 [.l (.a Z0 (.a Z1 (.c 1))) Z2,.l Z3 (.a Z1 (.c 1))] (.l (.a (.a Z0 (.c 1)) Z3) (.a Z2 (.c 1))) [] R0 _ _ _ _ hw this
theorem Bo (xs:List T):(DY xs).length<=wt xs+1:=by
 unfold DY;have aux:∀(l:List T),l≠[]->(AR [32] (Bs false l)).length+1<=wt l:=by
  intro l;induction l with
  | nil=>intro h;exact absurd rfl h
  | cons x r ih =>
   intro _;rw[Bs,Bf];cases r with
   | nil=>show (Cg x false).length+1<=_;simp[wt]
   | cons y r =>
    have ih:=ih (by simp);rw[Bs] at ih ⊢;rw[AR,List.length_append,List.length_append];simp at ih ⊢;exact lin 3 0 [.l (.a Z0 (.c 1)) Z1] (.l (.a (.a (.a Z2 (.c 1)) Z0) (.c 1)) (.a (.a Z2 (.c 1)) Z1)) [] R0 _ _ _ ih
 cases xs with
 | nil=>exact Nat.zero_le _
 | cons x r =>
  rw[Bs,Bf];have h1:(Cg x true).length<=(Cg x false).length+2:=by
   have:=AV x true;have:=Jy x false;exact lin 3 0 [.l Z0 (.a Z1 (.c 2)),.l Z1 Z2] (.l Z0 (.a Z2 (.c 2))) [] R0 _ _ _ (by assumption) this
  cases r with
  | nil=>show (Cg x true).length<=_ ;simp[wt];assumption
  | cons y r =>
   have:=aux (y::r) (by simp);rw[Bs] at this ⊢;rw[AR,List.length_append,List.length_append];simp at this ⊢;exact lin 4 0 [.l (.a Z0 (.c 1)) Z1,.l Z2 (.a Z3 (.c 2))] (.l (.a (.a Z2 (.c 1)) Z0) (.a (.a (.a Z3 (.c 1)) Z1) (.c 1))) [] R0 _ _ _ _ this h1
noncomputable def Ez (ps:List (T × T)):Prop:=(ps.map Prod.fst).Nodup
theorem HB (h:Ez ps) (k v:T):Ez (AK ps k v):=by
 unfold AK Ez at *;split
 ·have:(ps.map fun p=>if (p.1==k)=true then (p.1,v) else p).map Prod.fst=ps.map Prod.fst:=by
   rw[List.map_map];congr 1;funext p;simp only[Function.comp];split <;> rfl
  rw[this];exact h
 ·rename_i hn;rw[List.map_append,List.nodup_append];refine Bk h (by simp) ?_;intro a ha b hb;simp at hb;subst hb;intro z;subst z;apply hn;rw[List.mem_map] at ha;refine e1a2 ha fun p hp e=>?_;clear ha;exact List.any_eq_true.mpr (Ai p hp (by simp[e]))
theorem Oe (h:Ez ps) (k:T):Ez (EC ps k):=by
 unfold EC Ez at *;exact h.sublist ((List.filter_sublist).map _)
theorem Gm:∀(xs:List T) (acc:List (T × T)),Ez acc->Ez (Bv xs acc)
 | k::v::r,acc,h=>by rw[Bv];exact Gm r _ (HB h k v)
 | [],acc,h=>h
 | [_],acc,h=>h
theorem Nt {ps pre post:List (T × T)} {k v:T} (h:Ez ps) (e:ps=pre++(k,v)::post):ps.lookup k=some v:=by
 subst e;induction pre with
 | nil=>simp
 | cons p r ih =>
  unfold Ez at h;rw[List.cons_append,List.map_cons,List.nodup_cons] at h;rw[List.cons_append,show p=(p.1,p.2) from rfl,List.lookup_cons];have:(k==p.1)=false:=by
   have:k≠p.1:=fun z=>h.1 (by rw[← z];simp);simpa using this
  rw[this];exact ih h.2
theorem Il {k v:T} (h:ps.lookup k=none):AK ps k v=ps++[(k,v)]:=by
 have:ps.any (fun p=>p.1==k)=false:=by
  have:=Jn ps k;rw[h] at this;unfold vp at this;rw[List.any_map] at this;exact this
 unfold AK;rw[this];rfl
theorem BP (a b:List (T × T)):Ao (a++b)=Ao a++Ao b:=by unfold Ao;rw[List.flatMap_append]
theorem Bj (p:T × T) (r:List (T × T)):Ao (p::r)=p.1::p.2::Ao r:=rfl
theorem H6 {k v old:T} (hk:Ez ps) (h:ps.lookup k=some old):wt (Ao (AK ps k v))+((Cg old false).length+1)=wt (Ao ps)+((Cg v false).length+1):=by
 have hany:ps.any (fun p=>p.1==k)=true:=by
  have:=Jn ps k;rw[h] at this;unfold vp at this;rw[List.any_map] at this;exact this
 unfold AK;rw[if_pos hany];clear hany;induction ps with
 | nil=>exact xNS h
 | cons p r ih =>
  obtain⟨p1,p2⟩:=p;unfold Ez at hk;rw[List.map_cons,List.nodup_cons] at hk;rw[List.lookup_cons] at h;rw[List.map_cons,Bj,Bj];by_cases e:k=p1
  ·subst e;simp only[beq_self_eq_true] at h;obtain rfl:=xSS h;have hr:r.map (fun p=>if (p.1==k)=true then (p.1,v) else p)=r:=by
    have:∀p∈r,(fun p:T × T=>if (p.1==k)=true then (p.1,v) else p) p=p:=by
     intro p hp;have:¬p.1=k:=fun z=>hk.1 (by rw[← z];exact List.mem_map.mpr (Ai p hp rfl));simp[this]
    rw[List.map_congr_left this,List.map_id']
   simp only[beq_self_eq_true,if_true,Bf,hr];exact lin 4 0 [] (.e (.a (.a (.a Z0 (.c 1)) (.a (.a Z1 (.c 1)) Z2)) (.a Z3 (.c 1))) (.a (.a (.a Z0 (.c 1)) (.a (.a Z3 (.c 1)) Z2)) (.a Z1 (.c 1)))) [] R0 _ _ _ _
  ·have e1:(k==p1)=false:=by simpa using e
   have e2:(p1==k)=false:=by simpa using fun z:p1=k=>e z.symm
   rw[e1] at h;have:=ih hk.2 h;rw[e2];simp only[Bool.false_eq_true,if_false,Bf];exact lin 6 0 [.e (.a Z0 (.a Z1 (.c 1))) (.a Z2 (.a Z3 (.c 1)))] (.e (.a (.a (.a Z4 (.c 1)) (.a (.a Z5 (.c 1)) Z0)) (.a Z1 (.c 1))) (.a (.a (.a Z4 (.c 1)) (.a (.a Z5 (.c 1)) Z2)) (.a Z3 (.c 1)))) [[0,1,1],[1,0,1]] R0 _ _ _ _ _ _ this
theorem D9 (hk:Ez ps) (k v:T):wt (Ao (AK ps k v))<=wt (Ao ps)+((Cg k false).length+1)+((Cg v false).length+1):=by
 cases h:ps.lookup k with
 | none=>rw[Il h,BP,FP,Bj,Bf,Bf];simp[Ao,wt];exact lin 3 0 [] (.l (.a Z0 (.a (.a Z1 (.c 1)) (.a Z2 (.c 1)))) (.a (.a Z0 (.a Z1 (.c 1))) (.a Z2 (.c 1)))) [] R0 _ _ _
 | some old=>have:=H6 (v:=v) hk h;exact lin 5 0 [.e (.a Z0 (.a Z1 (.c 1))) (.a Z2 (.a Z3 (.c 1)))] (.l Z0 (.a (.a Z2 (.a Z4 (.c 1))) (.a Z3 (.c 1)))) [[1,0,1]] R0 _ _ _ _ _ this
theorem MX (ps:List (T × T)) (k:T):wt (Ao (EC ps k))<=wt (Ao ps):=by
 unfold EC;induction ps with
 | nil=>exact Nat.le_refl _
 | cons p r ih =>
  rw[List.filter_cons,Bj,Bf,Bf];split
  ·rw[Bj,Bf,Bf];exact lin 4 0 [.l Z0 Z1] (.l (.a (.a Z2 (.c 1)) (.a (.a Z3 (.c 1)) Z0)) (.a (.a Z2 (.c 1)) (.a (.a Z3 (.c 1)) Z1))) [] R0 _ _ _ _ ih
  ·exact lin 4 0 [.l Z0 Z1] (.l Z0 (.a (.a Z2 (.c 1)) (.a (.a Z3 (.c 1)) Z1))) [] R0 _ _ _ _ ih
theorem IX:∀(xs:List T) (acc:List (T × T)),Ez acc->wt (Ao (Bv xs acc))<=wt (Ao acc)+wt xs
 | k::v::r,acc,h=>by
  rw[Bv,Bf,Bf];have h1:=IX r _ (HB h k v);have h2:=D9 h k v;exact lin 6 0 [.l Z0 (.a (.a Z1 (.a Z2 (.c 1))) (.a Z3 (.c 1))),.l Z4 (.a Z0 Z5)] (.l Z4 (.a Z1 (.a (.a Z2 (.c 1)) (.a (.a Z3 (.c 1)) Z5)))) [] R0 _ _ _ _ _ _ h2 h1
 | [],acc,h=>by rw[Bv];simp[wt];simp
 | [x],acc,h=>by rw[Bv];exact lin 2 0 [] (.l Z0 (.a Z0 Z1)) [] R0 _ _;simp
theorem P8 {k v:T} {p:T × T} (h:p∈AK ps k v):(p∈ps)∨p=(k,v):=by
 unfold AK at h;split at h
 ·rw[List.mem_map] at h;refine e1a2 h fun q hq e=>?_;clear h;split at e
  ·rename_i z
   right;rw[← e];simp at z;rw[z]
  ·left;rw[← e];exact hq
 ·rw[List.mem_append] at h;rcases h with h | h
  ·exact .inl h
  ·right;simpa using h
noncomputable def DJ (ps:List (T × T)):Prop:=∀p∈ps,good p.1/\good p.2
theorem EX (h:DJ ps) {k v:T} (hk:good k) (hv:good v):DJ (AK ps k v):=fun p hp=>by
 rcases P8 hp with hp | rfl
 ·exact h p hp
 ·exact⟨hk,hv⟩
theorem LK (h:DJ ps) (k:T):DJ (EC ps k):=fun p hp=>h p (List.mem_filter.mp hp).1
theorem EL:∀(xs:List T) (acc:List (T × T)),(∀x∈xs,good x)->DJ acc->DJ (Bv xs acc)
 | k::v::r,acc,hx,h=>by rw[Bv];exact EL r _ (fun x hxr=>hx x (.tail _ (.tail _ hxr))) (EX h (hx k (.head _)) (hx v (.tail _ (.head _))))
 | [],acc,_,h=>h
 | [_],acc,_,h=>h
theorem DQ (h:DJ ps):∀x∈Ao ps,good x:=by
 intro x hx;unfold Ao at hx;rw[List.mem_flatMap] at hx;refine e1a2 hx fun p hp hx=>?_;have:=h p hp;simp at hx;rcases hx with rfl | rfl
 ·exact this.1
 ·exact this.2
structure DOk (N:Nat) (ps:List (T × T)):Prop where
 keys:Ez ps
 good:DJ ps
 wt:wt (Ao ps)<=N
theorem E7 (hg:good t) (h:Ap t=.ok ps):DOk (t.length+1) ps:=by
 unfold Ap at h;split at h
 ·exact xEO h
 ·rename_i xs hp;split at h
  ·exact xEO h
  ·obtain rfl:=xOO h;refine⟨Gm xs [] List.nodup_nil,EL xs [] (EP _ t xs (Nat.le_refl _) hg hp) (fun p hp=>by cases hp),?_⟩;have h1:=IX xs [] List.nodup_nil;have h2:=(Et t xs (Nat.le_refl _) hp).1;simp[Ao,Mine.wt] at h1 h2 ⊢;exact lin 3 0 [.l Z0 (.a Z1 (.c 1)),.l Z2 Z0] (.l Z2 (.a Z1 (.c 1))) [] R0 _ _ _ h2 h1
theorem DOk.mem {N:Nat} (h:DOk N ps) {k v:T} (e:ps.lookup k=some v):Mine.good v/\v.length+1<=N:=by
 have hm:(k,v)∈ps:=by
  clear h;induction ps with
  | nil=>exact xNS e
  | cons p r ih =>
   obtain⟨p1,p2⟩:=p;rw[List.lookup_cons] at e;by_cases z:k=p1
   ·subst z;simp at e;subst e;exact .head _
   ·have:(k==p1)=false:=by simpa using z
    rw[this] at e;exact .tail _ (ih e)
 refine⟨(h.good _ hm).2,Nat.le_trans (RE (xs:=Ao ps) ?_) h.wt⟩;unfold Ao;rw[List.mem_flatMap];exact Ai _ hm (by simp)
end
section
theorem PZ {Γ:Bool->Gam} {Q:QF} {E:EF} {b:SS} {a ep:Nat} (I:List T->Loc->Store->Prop) (hx:σ a=some (.dct ep kvs)) (hl:kvs.length<=LIM) (h0:I (kvs.map Prod.fst) m σ)
  (hs:∀y ys m σ,I (y::ys) m σ->σ a=some (.dct ep kvs)/\ws Γ none b (m.set i (some (.str y))) σ (Dd (I ys) Q) E) (he:∀m σ,I [] m σ->σ a=some (.dct ep kvs)/\Q .next m σ):for1Sem Γ i b m Q E (.ref a) σ:=by
 have it:∀σ:Store,σ a=some (.dct ep kvs)->AW σ (.ref a)=some (kvs.map fun p=>.str p.1,some ep):=by
  intro σ h;unfold AW;simp only[h]
 refine AZ (kvs.map fun p=>.str p.1) (some ep) (it σ hx) (by simpa using hl) (B9 (fun xs m σ=>∃t:List T,xs=t.map .str/\I t m σ) (Ai (kvs.map Prod.fst) (by rw[List.map_map];rfl) h0) ?_ ?_)
 ·intro y ys m σ z1_;refine e1a2 z1_ fun t e hI=>?_;clear z1_;cases t with
  | nil=>exact xCN e
  | cons c cs =>
   rw[List.map_cons] at e;refine xCC e fun z2_ z3_=>?_;subst z2_;subst z3_;have z0_:=hs c cs m σ hI;have h1:=z0_.1;have h2:=z0_.2;clear z0_;refine⟨it σ h1,?_⟩;refine Eq.mp (congrArg (fun q=>ws Γ none b _ σ q E) (funext fun f=>funext fun m=>funext fun σ=>?_)) h2;cases f <;> (try rfl) <;> simp only[Dd] <;> refine propext ⟨fun h=>(Ai cs rfl h),?_⟩
   all_goals
    intro z4_;refine e1a2 z4_ fun t e h=>?_;clear z4_;rw[G2 (fun a b z=>by cases z;rfl) _ _ e];exact h
 ·intro m σ z5_;refine e1a2 z5_ fun t e hI=>?_;clear z5_;cases t with
  | nil=>exact⟨it σ (he m σ hI).1,(he m σ hI).2⟩
  | cons c cs=>exact xNC e
theorem Cs (ps:List (T × T)):2*ps.length=(Ao ps).length:=by
 unfold Ao;induction ps with
 | nil=>rfl
 | cons p r ih=>rw[List.flatMap_cons,List.length_append,← ih];simp;exact lin 1 0 [] (.e (.m 2 (.a Z0 (.c 1))) (.a (.c 2) (.m 2 Z0))) [] R0 _
theorem Ce {n d ep:Nat} (hd:σ d=some (.dct ep (vp ps))) (ho:DOk 100000 ps) (h:Q (.str (AE ps)) σ) :
  lev (n+5) false .text_of_dict [.ref d] σ Q E:=by
 have hw:weigh (Ao ps)<=100000:=Nat.le_trans (Bt _) ho.wt;have hil:(Ao ps).length<=100000:=by have:=Ba (Ao ps);exact U70 _ _ _ this hw
 have hpl:=Cs ps;refine AD (m:=[some (.ref d),none,none]) rfl rfl rfl ?_;dsimp only[DW];walk_at"w";refine AL (by decide) (fun a ha=>?_);have hda:d≠a:=Bg hd ha;walk_at"w";let J1:List T->Loc->Store->Prop:=fun ks m σ'=>∃(pre post:List (T × T)) (y:Option V),ps=pre++post/\ks=post.map Prod.fst/\m=[some (.ref d),some (.ref a),y]/\σ'=σ.set a (.lst (Ae (Ao pre)))
 refine PZ J1
  (Ar hd ha) (by rw[DH,LIM];exact U71 _ _ hpl hil) (Lc [] ps none rfl (by unfold vp;rw[List.map_map];rfl) rfl rfl) ?_ ?_
 ·intro y ys m σ' z1_;refine JD z1_ fun pre post y0 hx hy z2_ z3_=>?_;clear z1_;subst z2_;subst z3_;cases post with
  | nil=>exact xCN hy
  | cons p post =>
   obtain⟨k,v⟩:=p;rw[List.map_cons] at hy;refine xCC hy fun z4_ z5_=>?_;obtain rfl:=(z4_).symm;obtain rfl:=(z5_).symm;have hil2:(Ao pre).length+2<=(Ao ps).length:=by
    rw[hx,BP,Bj];simp
   refine⟨Ar hd ha,?_⟩;walk_at"w";refine BB (Aa _ _ _) ?_;walk_at"w";refine BC (Aa _ _ _) (by rw[Ad,LIM];exact U72 _ _ hil2 hil) ?_;rw[Aj];walk_at"w";refine BB (Aa _ _ _) ?_;walk_at"w";refine By (Az (by rw[Ab _ _ hda];exact hd)) (by rw[HH,Nt ho.keys hx];rfl) ?_;walk_at"w";refine BC (Aa _ _ _) (by rw[List.length_append,Ad,LIM];simp;exact U73 _ _ hil2 hil) ?_;rw[Aj];walk_at"w";refine Lc (pre++[(k,v)]) post (some (.str k)) (by rw[hx];simp) rfl rfl ?_;rw[BP,Bj];unfold Ae;simp[Ao]
 ·intro m σ' z6_;refine JD z6_ fun pre post y0 hx hy z7_ z8_=>?_;clear z6_;subst z7_;subst z8_;have:post=[]:=by cases post with
   | nil=>rfl
   | cons=>exact xNC hy
  subst this;rw[List.append_nil] at hx;subst hx;refine⟨Ar hd ha,?_⟩;walk_at"w";refine Em (Ac (Aa _ _ _)) (DQ ho.good) hw ?_;walk_at"w";exact AB (SubS.new ha) h
noncomputable def Fh (k:T):AG:=(tx "key \""++k++tx "\" not known in dictionary",[tx "TCL",tx "LOOKUP",tx "DICT",k])
theorem Ip (hl:k.length<=100000) (h:∀e j at_,σ e=none->FaultAt at_ (Fh k)->Q (.ref e) (σ.set e (.exc 0 j at_))) :
  lev (n+3) false .unknown_key [.str k] σ Q E:=by
 refine AD (m:=[some (.str k)]) rfl rfl rfl ?_;dsimp only[En];walk_at"w";refine Dm (f:=Fh k) (fun e j at_ he hf=>?_);walk_at"w";exact Ah (h e j at_ he hf)
inductive ChainAt (σ:Store):List Nat->List (List (T × T))->Prop
 | nil:ChainAt σ [] []
 | cons {d ep:Nat} {ps:List (T × T)} {ds:List Nat} {cs:List (List (T × T))}:σ d=some (.dct ep (vp ps))->ChainAt σ ds cs->ChainAt σ (d::ds) (ps::cs)
theorem ChainAt.step {σ τ:Store} {ds:List Nat} {cs:List (List (T × T))} (h:ChainAt σ ds cs) (k:∀d∈ds,∀c,σ d=some c->τ d=some c):ChainAt τ ds cs:=by
 induction h with
 | nil=>exact .nil
 | cons a _ ih=>exact .cons (k _ (.head _) _ a) (ih fun d hd=>k d (.tail _ hd))
theorem ChainAt.length {ds:List Nat} {cs:List (List (T × T))} (h:ChainAt σ ds cs):ds.length=cs.length:=by
 induction h with
 | nil=>rfl
 | cons _ _ ih=>simp[ih]
theorem ChainAt.append {ds ds':List Nat} {cs cs':List (List (T × T))} (h:ChainAt σ ds cs) (h':ChainAt σ ds' cs'):ChainAt σ (ds++ds') (cs++cs'):=by
 induction h with
 | nil=>exact h'
 | cons a _ ih=>exact .cons a ih
theorem ChainAt.get {ds:List Nat} {cs:List (List (T × T))} (h:ChainAt σ ds cs) {i d:Nat} (hd:ds[i]?=some d):∃ps ep,cs[i]?=some ps/\σ d=some (.dct ep (vp ps)):=by
 induction h generalizing i with
 | nil=>simp at hd
 | cons a _ ih =>
  cases i with
  | zero=>simp at hd;subst hd;exact BD _ _ rfl a
  | succ i=>simp at hd;simpa using ih hd
noncomputable def AC:List (T × T)->List T->Except AG (List (List (T × T)))
 | ps,[]=>.ok [ps]
 | ps,k::ks=>match ps.lookup k with
  | none=>.ok [ps]
  | some v=>match Ap v with
   | .error f=>.error f
   | .ok q=>(AC q ks).map (ps::·)
structure TOk (t:T):Prop where
 ok:okt t
 len:t.length<=3400
 good:good t∨∃e,A0 t=.error e
theorem TOk.pairs (h:TOk t) (hp:Ap t=.ok ps):DOk 3401 ps:=by
 rcases h.good with g | ⟨e,he⟩
 ·have:=E7 g hp;exact⟨this.keys,this.good,Nat.le_trans this.wt (Nat.succ_le_succ h.len)⟩
 ·unfold Ap at hp;rw[he] at hp;exact xEO hp
theorem DOk.val {k v:T} (h:DOk 3401 ps) (e:ps.lookup k=some v):TOk v:=
 have:=h.mem e
 ⟨this.1.ok,by omega,.inl this.1⟩
theorem De {a ep:Nat} (e:σ a=some (.dct ep (vp ps))):BR (.str k) (.ref a) σ=some (ps.lookup k).isSome:=by
 have h1:C3 σ (.ref a)=none:=by show (match σ a with | some (.lst vs)=>some vs | some (.fin vs)=>some vs | _=>none)=_;rw[e]
 have h2:dictAt σ (.ref a)=some (vp ps):=Az e;have h3:BR (.str k) (.ref a) σ=match C3 σ (.ref a) with
   | some vs=>if vs.all V.isStr then some (vs.any fun x=>V.same x (.str k)) else none
   | none=>(dictAt σ (.ref a)).map fun kvs=>kvs.any fun p=>p.1==k:=by
  cases k with
  | nil=>rfl
  | cons c r=>cases r <;> rfl
 rw[h3,h1,h2];show some ((vp ps).any fun p=>p.1==k)=_;rw[Jn]
theorem Gr {n r:Nat} {ks:List T} (ht:TOk t) (hr:Ag σ (.ref r)=some (Ae ks)) (hk:ks.length<=1000)
  (h1:∀ps cs,Ap t=.ok ps->AC ps ks=.ok cs->∀σ' c ds,SubS σ σ'->σ c=none->σ' c=some (.lst (ds.map .ref))->ChainAt σ' ds cs->ds.Nodup->(∀d∈ds,σ d=none)->c∉ds->Q (.ref c) σ')
  (h2:∀f,(Ap t=.error f∨∃ps,Ap t=.ok ps/\AC ps ks=.error f)->RaisesA σ E f) :
  lev (n+8) false .open_path [.str t,.ref r] σ Q E:=by
 refine AD (m:=[some (.str t),some (.ref r),none,none,none]) rfl rfl rfl ?_;dsimp only[Fk];walk_at"w";refine D2 ht.ok (Nat.le_trans ht.len (by decide)) (fun ps hp d ep hd=>?_) (fun f hf e st k at_ hst he hfa=>?_)
 ·walk_at"w";refine AL (by simp[LIM]) (fun c hc=>?_);have hcd:c≠d:=fun z=>by subst z;rw[Aa] at hc;exact xSN hc
  have hc0:σ c=none:=by rw[Ab _ _ hcd] at hc;exact hc
  walk_at"w";have hsub:SubS σ ((σ.set d (.dct ep (vp ps))).set c (.lst [.ref d])):=(SubS.new hd).trans (SubS.new hc);let J2:List V->Loc->Store->Prop:=fun ys m σ'=>∃(k1 k2:List T) (cs0:List (List (T × T))) (ds0:List Nat) (d ep:Nat) (qs:List (T × T)) (y z:Option V),ks=k1++k2/\ys=Ae k2/\m=[some (.str t),some (.ref r),some (.ref c),y,z]/\SubS σ σ'/\σ' c=some (.lst ((ds0++[d]).map .ref)) /\
    ChainAt σ' ds0 cs0/\σ' d=some (.dct ep (vp qs))/\(ds0++[d]).Nodup/\(∀d'∈ds0++[d],σ d'=none)/\c∉ds0++[d]/\DOk 3401 qs/\AC ps ks=(AC qs k2).map (cs0++·)/\ds0.length<=k1.length
  refine GA J2
   (Al hr hsub) (by rw[Ad,LIM];exact U74 _ hk)
   ⟨[],ks,[],[],d,ep,ps,none,none,rfl,rfl,rfl,hsub,Aa _ _ _,.nil,by rw[Ab _ _ (Ne.symm hcd)];exact Aa _ _ _,by simp,by simpa using hd,by simpa using hcd,ht.pairs hp,by cases AC ps ks <;> rfl,Nat.le_refl _⟩ ?_ ?_
  ·rintro y ys m σ' ⟨k1,k2,cs0,ds0,d,ep,qs,y0,z0,hkk,hy,rfl,hs,hcl,hch,hdq,hnd,hfr,hcn,hok,hcf,hlen⟩;cases k2 with
   | nil=>exact xCN hy
   | cons k k2 =>
    have hy':y=.str k/\ys=Ae k2:=by unfold Ae at hy;rw[List.map_cons,List.cons.injEq] at hy;exact hy
    have z1_:=hy'.1;have z2_:=hy'.2;clear hy';subst z1_;subst z2_;have hkl:k1.length+(k2.length+1)=ks.length:=by rw[hkk];simp
    refine⟨Al hr hs,?_⟩;walk_at"w";refine CR (s:=ds0.map .ref) (x:=.ref d) (Ac (by rw[hcl];simp)) (by rw[List.length_map,LIM];exact lin 4 0 [.e (.a Z0 (.a Z1 (.c 1))) Z2,.l Z2 (.c 1000),.l Z3 Z0] (.l (.a Z3 (.c 1)) (.c 8000000)) [[1,0,1,1,1]] R0 _ _ _ _ hkl hk hlen) ?_;walk_at"w";rw[AC] at hcf;cases hlk:qs.lookup k with
    | none =>
     rw[hlk] at hcf;refine Dl (r:=true) (by rw[De hdq,hlk];rfl) ?_;walk_at"w";refine Ah (h1 ps (cs0++[qs]) hp hcf σ' c (ds0++[d]) hs hc0 hcl (hch.append (.cons hdq .nil)) hnd hfr hcn)
    | some v =>
     rw[hlk] at hcf;dsimp only at hcf;have hv:=hok.val hlk;refine Dl (r:=false) (by rw[De hdq,hlk];rfl) ?_;walk_at"w";refine BB hcl ?_;walk_at"w";refine By (Az hdq) (by rw[HH,hlk];rfl) ?_;walk_at"w";refine D2 hv.ok (Nat.le_trans hv.len (by decide)) (fun qs2 hp2 d2 ep2 hd2=>?_) (fun f hf=>?_)
     ·rw[hp2] at hcf;dsimp only at hcf;have hcd2:c≠d2:=Bg hcl hd2;have hdd2:d≠d2:=Bg hdq hd2;walk_at"w";refine BC (by rw[Ab _ _ hcd2];exact hcl) (by rw[List.length_map,List.length_append,LIM];simp;exact lin 4 0 [.e (.a Z0 (.a Z1 (.c 1))) Z2,.l Z2 (.c 1000),.l Z3 Z0] (.l Z3 (.c 7999999)) [[1,0,1,1,1]] R0 _ _ _ _ hkl hk hlen) ?_;walk_at"w";have hold:∀a cc,σ' a=some cc->a≠c->((σ'.set d2 (.dct ep2 (vp qs2))).set c (.lst ((ds0++[d]).map .ref++[.ref d2]))) a=some cc:=fun a cc ha hac=>by
       rw[Ab _ _ hac,Ab _ _ (Bg ha hd2)];exact ha
      have hdc:d≠c:=fun z=>by subst z;rw[hdq] at hcl;cases hcl
      refine⟨k1++[k],k2,cs0++[qs],ds0++[d],d2,ep2,qs2,_,_,by rw[hkk];simp,rfl,rfl,?_,?_,?_,?_,?_,?_,?_,hv.pairs hp2,?_,?_⟩
      ·exact(hs.trans (SubS.new hd2)).turn hc0
      ·rw[Aa];simp
      ·refine ChainAt.append (hch.step fun d' hd' c' hc'=>hold _ _ hc' fun z=>?_) (.cons (hold _ _ hdq hdc) .nil);subst z;exact hcn (by simp[hd'])
      ·rw[Ab _ _ (Ne.symm hcd2)];exact Aa _ _ _
      ·rw[List.nodup_append];refine Bk hnd (by simp) (fun a ha b hb=>?_);simp at hb;subst hb;intro z;subst z;rw[List.mem_append] at ha;rcases ha with ha | ha
       ·refine Aq (List.mem_iff_getElem?.mp ha) fun i hi=>?_;refine Be (hch.get hi) fun _ _ _ hx=>?_;rw[hd2] at hx;exact xNS hx
       ·simp at ha;exact hdd2 ha.symm
      ·intro d' hd';rw[List.mem_append] at hd';rcases hd' with hd' | hd'
       ·exact hfr d' hd'
       ·simp at hd';subst hd';exact hs.none hd2
      ·rw[List.mem_append];rintro(z | z)
       ·exact hcn z
       ·simp at z;exact hcd2 z
      ·rw[hcf];cases AC qs2 k2 <;> simp[Except.map]
      ·simp;assumption
     ·rw[hf] at hcf;exact(h2 f (.inr (Ai ps hp hcf))).sub hs
  ·rintro m σ' ⟨k1,k2,cs0,ds0,d,ep,qs,y0,z0,hkk,hy,rfl,hs,hcl,hch,hdq,hnd,hfr,hcn,hok,hcf,hlen⟩;have:k2=[]:=by cases k2 with
    | nil=>rfl
    | cons=>exact xNC hy
   subst this;refine⟨Al hr hs,?_⟩;walk_at"w";exact Ah (h1 ps (cs0++[qs]) hp hcf σ' c (ds0++[d]) hs hc0 hcl (hch.append (.cons hdq .nil)) hnd hfr hcn)
 ·exact((h2 f (.inl hf)).sub (SubS.refl _)) e st k at_ hst he hfa
end
section
noncomputable def B8:List (List (T × T))->List T->List (T × T)
 | [],_=>[]
 | [ps],_=>ps
 | ps::q::r,ks=>AK ps (ks.headD []) (AE (B8 (q::r) ks.tail))
theorem Gu {cs:List (List (T × T))} {ks:List T} {j:Nat} (h1:cs[j]?=some ps) (h2:j+1 < cs.length) (h3:ks[j]?=some k):B8 (cs.drop j) (ks.drop j)=AK ps k (AE (B8 (cs.drop (j+1)) (ks.drop (j+1)))):=by
 have l1:=(List.getElem?_eq_some_iff.mp h1).1;have l3:=(List.getElem?_eq_some_iff.mp h3).1;rw[List.getElem?_eq_getElem l1] at h1;rw[List.getElem?_eq_getElem l3] at h3;rw[List.drop_eq_getElem_cons l1,List.drop_eq_getElem_cons l3,List.drop_eq_getElem_cons h2];rw[B8];obtain rfl:=xSS h1;obtain rfl:=xSS h3;rfl
theorem Ky {cs:List (List (T × T))} {ks:List T} {j:Nat} (h1:cs[j]?=some ps) (h2:j+1=cs.length):B8 (cs.drop j) ks=ps:=by
 have l1:=(List.getElem?_eq_some_iff.mp h1).1;rw[List.getElem?_eq_getElem l1] at h1;rw[List.drop_eq_getElem_cons l1,show cs.drop (j+1)=[] from List.drop_of_length_le (by exact lin 2 0 [.e (.a Z0 (.c 1)) Z1] (.l Z1 (.a Z0 (.c 1))) [[0,1,1]] R0 _ _ h2)];obtain rfl:=xSS h1;rfl
theorem Fb {n r rk:Nat} {ds:List Nat} {cs:List (List (T × T))} {ks:List T} (hr:σ r=some (.lst (ds.map .ref))) (hk:Ag σ (.ref rk)=some (Ae ks)) (hch:ChainAt σ ds cs) (hnd:ds.Nodup)
  (h0:0 < cs.length) (hcl:cs.length<=1000) (hkl:cs.length<=ks.length+1) (hk1:ks.length<=1000) (hD:∀j,j < cs.length->DOk 100000 (B8 (cs.drop j) (ks.drop j)))
  (h:∀τ,(∀a c,a∉ds->σ a=some c->τ a=some c)->Q (.str (AE (B8 cs ks))) τ) :
  lev (n+6) false .close_path [.ref r,.ref rk] σ Q E:=by
 have hdl:=hch.length;have hrd:r∉ds:=fun hm=>by
  refine Aq (List.mem_iff_getElem?.mp hm) fun i hi=>?_;refine Be (hch.get hi) fun _ _ _ hx=>?_;rw[hr] at hx;cases hx
 have hkk:∀τ:Store,(∀a c,a∉ds->σ a=some c->τ a=some c)->Ag τ (.ref rk)=some (Ae ks):=by
  intro τ hτ;have hrk:rk∉ds:=fun hm=>by
   refine Aq (List.mem_iff_getElem?.mp hm) fun i hi=>?_;refine Be (hch.get hi) fun _ _ _ hx=>?_;unfold Ag at hk;dsimp only at hk;rw[hx] at hk;exact xNS hk
  unfold Ag at hk ⊢;dsimp only at hk ⊢;cases q:σ rk with
  | none=>rw[q] at hk;exact xNS hk
  | some c=>rw[hτ _ _ hrk q];rw[q] at hk;exact hk
 refine AD (m:=[some (.ref r),some (.ref rk),none]) rfl rfl rfl ?_;dsimp only[EE];walk_at"w";rw[List.length_map,hdl];refine O7 (by exact U75 _ hcl) (by decide) (by decide) (by decide) ?_;have hget:∀(τ:Store),(∀a c,a∉ds->σ a=some c->τ a=some c)->Ag τ (.ref r)=some (ds.map .ref):=fun τ hτ=>Ac (hτ _ _ hrd hr);let J1:EF:=fun k m σ'=>∃(y:Option V) ,m=[some (.ref r),some (.ref rk),y]/\(∀a c,a∉ds->σ a=some c->σ' a=some c)/\(∀j d,j < cs.length - 1 - k->ds[j]?=some d->σ' d=σ d) /\
   (∀d,ds[cs.length - 1 - k]?=some d->∃ep,σ' d=some (.dct ep (vp (B8 (cs.drop (cs.length - 1 - k)) (ks.drop (cs.length - 1 - k))))))
 refine CG J1
  (cs.length - 1) (by exact U75 _ hcl) (by decide) (by decide) (by decide) (by unfold Builtin.Range.rangeSize;rw[if_neg (by decide),show (-(-1):Int)=1 from rfl,Int.ediv_one];split <;> first | exact lin 1 0 [] (.e (.t (.a (.s (.s (.s (.o Z0) (.c 1)) (.c 0)) (.c 1)) (.c 1))) (.s Z0 (.c 1))) [[0,0,1],[0,0,1],[],[1,1,0],[1,0,1],[0,1,1],[0,0,1],[0,0,1]] R0 _ | exact lin 1 0 [.n (.T (.c 0) (.s (.o Z0) (.c 1)))] (.e (.t (.c 0)) (.s Z0 (.c 1))) [[1,0,0,1],[0,0,1,1],[0,0,0,1],[0,0,0,1],[1,0,0,1],[0,0,1,1],[0,0,0,1],[0,0,0,1]] R0 _ (by assumption)) (by rw[LIM];exact lin 1 0 [.l Z0 (.c 1000)] (.l (.s Z0 (.c 1)) (.c 8000000)) [[1,0,1]] R0 _ hcl)
  (KJ none rfl (fun a c _ e=>e) (fun j d _ _=>rfl) ?_) ?_ ?_
 ·intro d hd;refine Be (hch.get hd) fun ps ep e1 e2=>?_;refine⟨ep,?_⟩;rw[Nat.sub_zero] at e1 ⊢;rw[Ky e1 (by exact lin 1 0 [.t (.c 0) Z0] (.e (.a (.s Z0 (.c 1)) (.c 1)) Z0) [[0,0,1],[0,0,1],[1,1,0]] R0 _ h0)];exact e2
 ·intro k m σ' hk' z1_;refine T5 z1_ fun y z2_ i1 i2 i3=>?_;clear z1_;subst z2_;have hat:cs.length - 1 - k < ds.length:=by exact lin 3 0 [.e Z0 Z1,.t (.c 0) Z1] (.t (.s (.s Z1 (.c 1)) Z2) Z0) [[0,1,0,0,0,1],[0,1,1,0,0,1],[],[0,0,1,1,0,0]] R0 _ _ _ hdl h0
  obtain⟨d,hd⟩ : ∃d,ds[cs.length - 1 - k]?=some d:=⟨_,List.getElem?_eq_getElem hat⟩;refine Aq (i3 d hd) fun ep hde=>?_;have hat2:cs.length - 1 - (k+1) < ds.length:=by exact lin 3 0 [.t (.s (.s Z0 (.c 1)) Z1) Z2] (.t (.s (.s Z0 (.c 1)) (.a Z1 (.c 1))) Z2) [[0,0,1,0,0,1],[0,1,1,0,0,1],[],[0,1,1,0,0,1],[0,1,0,0,1,0],[0,0,1,0,0,1],[],[1,0,0,1,0,0],[1,0,0,1,0,0],[0,1,1,0,0,1],[],[0,1,1,0,0,1],[1,0,0,1,0,0],[1,0,0,1,0,0],[],[0,0,1,0,0,1]] R0 _ _ _ hat
  obtain⟨d2,hd2⟩ : ∃d2,ds[cs.length - 1 - (k+1)]?=some d2:=⟨_,List.getElem?_eq_getElem hat2⟩;refine Be (hch.get hd2) fun ps ep2 hps hd2e=>?_;have hd2':σ' d2=some (.dct ep2 (vp ps)):=by rw[i2 _ _ (by exact lin 2 0 [.t Z0 (.s Z1 (.c 1))] (.t (.s (.s Z1 (.c 1)) (.a Z0 (.c 1))) (.s (.s Z1 (.c 1)) Z0)) [[0,0,0,0,0,0,1],[0,1,0,0,0,1,0],[1,0,0,0,1,0,0],[1,0,0,0,1,0,0],[0,1,0,1,0,0,0],[0,1,0,1,0,0,0],[0,1,0,1,0,0,0],[0,1,0,1,0,0,0],[0,0,0,1,0,0,0],[0,1,0,0,0,1,0],[],[],[0,1,0,0,0,0,1],[0,1,0,0,0,1,0],[],[1,0,1,0,0,0,0],[0,0,0,0,0,0,1],[0,0,0,1,0,1,0],[0,1,0,0,0,0,0],[0,1,0,0,0,1,0],[],[0,1,0,0,0,0,0],[],[0,1,0,0,0,1,0],[],[],[],[],[],[0,1,0,1,0,0,0],[],[0,1,0,1,0,0,0]] R0 _ _ hk') hd2];exact hd2e
  obtain⟨key,hkey⟩ : ∃key,ks[cs.length - 1 - (k+1)]?=some key:=⟨_,List.getElem?_eq_getElem (by exact lin 3 0 [.l Z0 (.a Z1 (.c 1)),.t Z2 (.s Z0 (.c 1))] (.t (.s (.s Z0 (.c 1)) (.a Z2 (.c 1))) Z1) [[1,0,0,0,0,1],[0,0,1,0,1,0],[],[],[0,1,0,1,0,0],[0,0,1,0,0,0],[],[0,0,1,0,1,0]] R0 _ _ _ hkl hk')⟩;walk_at"w";refine Ak (j:=cs.length - 1 - k) (hget _ i1) (by rw[List.length_map,LIM];exact U18 _ _ hdl hcl) (by exact lin 2 0 [.t Z0 (.s Z1 (.c 1))] (.E (.a (.s (.o Z1) (.c 1)) (.m (-1) (.o Z0))) (.o (.s (.s Z1 (.c 1)) Z0))) [[0,0,0,0,1],[0,0,0,0,1],[0,1,0,1,0],[0,1,0,1,0],[],[1,0,1,0,0],[0,1,0,0,1],[1,0,1,0,0],[0,0,0,0,1],[0,0,0,0,1],[0,1,0,0,0],[],[],[],[0,1,0,1,0]] (by kernel_rfl) _ _ hk') (by rw[List.getElem?_map,hd];rfl) ?_;walk_at"w";refine Ce hde (hD _ (by exact lin 3 0 [.e Z0 Z1,.t (.s (.s Z1 (.c 1)) Z2) Z0] (.t (.s (.s Z1 (.c 1)) Z2) Z1) [[0,0,0,0,0,0,0,1],[0,0,0,1,0,0,1,0],[0,0,1,0,0,1,0,0],[0,0,1,0,0,1,0,0],[0,0,0,1,0,0,1,0],[0,0,1,0,0,0,0,1],[0,0,1,0,0,1,0,0],[0,0,1,0,0,1,0,0],[0,0,1,0,0,1,0,0],[0,0,1,0,0,1,0,0],[1,0,0,0,1,0,0,1],[0,0,0,1,0,0,1,0],[0,0,0,1,0,0,0,1],[0,0,1,0,0,1,0,0],[0,0,0,1,0,0,1,0],[1,0,1,0,1,0,0,0]] R0 _ _ _ hdl hat)) ?_;walk_at"w";refine Ak (j:=cs.length - 1 - (k+1)) (hget _ i1) (by rw[List.length_map,LIM];exact U18 _ _ hdl hcl) (by exact U76 _ _ hk') (by rw[List.getElem?_map,hd2];rfl) ?_;walk_at"w";refine Ak (j:=cs.length - 1 - (k+1)) (hkk _ i1) (by rw[Ad,LIM];exact U74 _ hk1) (by exact U76 _ _ hk') (Am hkey) ?_;refine B3 hd2' (by
   have h1:=hD (cs.length - 1 - (k+1)) (by exact lin 3 0 [.e Z0 Z1,.t (.s (.s Z1 (.c 1)) (.a Z2 (.c 1))) Z0] (.t (.s (.s Z1 (.c 1)) (.a Z2 (.c 1))) Z1) [[0,0,0,0,0,0,0,1],[0,0,0,1,0,0,1,0],[0,0,0,0,0,0,1,0],[0,0,1,0,0,1,0,0],[0,0,0,1,0,0,1,0],[0,0,1,0,0,0,0,1],[0,0,0,0,0,0,1,0],[0,0,1,0,0,1,0,0],[0,0,1,0,0,1,0,0],[0,0,0,1,0,0,0,0],[0,0,0,1,0,0,0,0],[0,0,0,1,0,0,1,0],[0,0,0,1,0,0,0,1],[0,0,1,0,0,1,0,0],[0,0,0,1,0,0,1,0],[1,0,1,0,1,0,0,0]] R0 _ _ _ hdl hat2);rw[Gu hps (by exact U77 _ _ hk') hkey] at h1;have h2:=h1.wt;have h3:ps.length<=(AK ps key (AE (B8 (cs.drop (cs.length - 1 - (k+1)+1)) (ks.drop (cs.length - 1 - (k+1)+1))))).length:=by unfold AK;split <;> simp
   have h4:=Cs (AK ps key (AE (B8 (cs.drop (cs.length - 1 - (k+1)+1)) (ks.drop (cs.length - 1 - (k+1)+1)))));have h5:=Ba (Ao (AK ps key (AE (B8 (cs.drop (cs.length - 1 - (k+1)+1)) (ks.drop (cs.length - 1 - (k+1)+1))))));have h6:=Bt (Ao (AK ps key (AE (B8 (cs.drop (cs.length - 1 - (k+1)+1)) (ks.drop (cs.length - 1 - (k+1)+1))))));rw[DH,LIM];exact lin 6 0 [.e (.a Z0 Z1) Z2,.e (.m 2 Z3) Z1,.l Z4 (.c 100000),.l Z2 Z4,.l Z5 Z3] (.l Z5 (.c 8000000)) [[1,0,1,0,1,1,2,2]] R0 _ _ _ _ _ _ h5 h4 h2 h6 h3) (fun ep'=>?_)
  rw[Ei];walk_at"w";have hne:∀a∉ds,a≠d2:=fun a ha z=>ha (by rw[z];exact List.mem_iff_getElem?.mpr ⟨_,hd2⟩);refine KJ _ rfl (fun a c ha e=>by rw[Ab _ _ (hne a ha)];exact i1 a c ha e) (fun j d' hj hd'=>?_) (fun d' hd'=>?_)
  ·have:d'≠d2:=fun z=>by
    subst z;have:=(List.getElem?_inj (by exact lin 4 0 [.t (.s (.s Z0 (.c 1)) (.a Z1 (.c 1))) Z2,.t Z3 (.s (.s Z0 (.c 1)) (.a Z1 (.c 1)))] (.t Z3 Z2) [[0,0,1,0,0,1,1],[0,1,0,0,1,0,0],[],[0,0,0,0,0,1,0],[0,1,0,0,1,0,0],[0,0,0,0,0,1,0],[],[1,0,0,1,0,0,0],[0,1,0,0,0,0,0],[0,1,0,0,0,0,0],[],[0,1,0,0,1,0,0],[1,0,0,1,0,0,0],[1,0,0,1,0,0,0],[],[0,0,0,0,0,1,0]] R0 _ _ _ _ hat2 hj) hnd).mp (hd'.trans hd2.symm);exact lin 3 0 [.e Z0 (.s (.s Z1 (.c 1)) (.a Z2 (.c 1))),.t Z0 (.s (.s Z1 (.c 1)) (.a Z2 (.c 1)))] .f [[0,0,0,1,0,0,1],[0,0,0,0,0,0,1],[0,0,0,0,0,1,0],[0,0,0,0,0,0,1],[0,1,0,0,0,1,0],[0,0,0,1,0,0,1],[],[1,0,0,0,1,0,0],[0,1,0,0,0,0,0],[],[],[],[1,0,0,0,1,0,0],[1,0,0,0,1,0,0],[],[0,0,0,1,0,0,1]] R0 _ _ _ this hj
   rw[Ab _ _ this];exact i2 j d' (by exact lin 3 0 [.t Z0 (.s (.s Z1 (.c 1)) (.a Z2 (.c 1)))] (.t Z0 (.s (.s Z1 (.c 1)) Z2)) [[0,0,1,0,0,1],[0,1,0,0,1,0],[1,0,0,1,0,0],[1,0,0,1,0,0],[0,0,1,0,0,0],[0,0,1,0,0,1],[0,0,1,0,0,0],[0,0,1,0,0,1],[],[],[],[],[0,0,1,0,0,0],[0,0,1,0,0,1],[0,0,1,0,0,0],[0,0,1,0,0,1]] R0 _ _ _ hj) hd'
  ·rw[hd2] at hd';obtain rfl:=xSS hd';refine⟨ep',?_⟩;rw[Aa,Gu hps (by exact U77 _ _ hk') hkey,show cs.length - 1 - (k+1)+1=cs.length - 1 - k from ST (by assumption)]
 ·intro m σ' z3_;refine T5 z3_ fun y z4_ i1 i2 i3=>?_;clear z3_;subst z4_;rw[show cs.length - 1 - (cs.length - 1)=0 from by exact lin 1 0 [] (.e (.s (.s Z0 (.c 1)) (.s Z0 (.c 1))) (.c 0)) [[0,0,0,1],[0,0,0,1],[0,0,1,0],[0,0,1,0],[],[1,1,0,0],[],[],[],[1,1,0,0],[0,0,0,1],[0,0,0,1]] R0 _] at i3;obtain⟨d,hd⟩ : ∃d,ds[0]?=some d:=⟨_,List.getElem?_eq_getElem (by exact lin 2 0 [.e Z0 Z1,.t (.c 0) Z1] (.t (.c 0) Z0) [[0,1,1,1]] R0 _ _ hdl h0)⟩;refine Aq (i3 d hd) fun ep hde=>?_;have h00:=hD 0 h0;rw[List.drop_zero,List.drop_zero] at hde h00;walk_at"w";refine Ak (j:=0) (hget _ i1) (by rw[List.length_map,LIM];exact U18 _ _ hdl hcl) (by exact lin 0 0 [] (.E (.c 0) (.o (.c 0))) [] R0) (by rw[List.getElem?_map,hd];rfl) ?_;walk_at"w";refine Ce hde h00 ?_;walk_at"w";exact Ah (h _ i1)
noncomputable def Cq:List (T × T)->List T->T->Except AG (List (T × T))
 | ps,[],_=>.ok ps
 | ps,[k],v=>.ok (AK ps k v)
 | ps,k::k2::ks,v=>match Ap ((ps.lookup k).getD []) with
  | .error f=>.error f
  | .ok q=>(Cq q (k2::ks) v).map fun q'=>AK ps k (AE q')
noncomputable def AP:List (T × T)->List T->Except AG (List (T × T))
 | ps,[]=>.ok ps
 | ps,[k]=>.ok (EC ps k)
 | ps,k::k2::ks=>match ps.lookup k with
  | none=>.error (Fh k)
  | some old=>match Ap old with
   | .error f=>.error f
   | .ok q=>(AP q (k2::ks)).map fun q'=>AK ps k (AE q')
noncomputable def Fm (f:List (T × T)->List (T × T)):List (List (T × T))->List (List (T × T))
 | []=>[]
 | [ps]=>[f ps]
 | ps::q::r=>ps::Fm f (q::r)
theorem Fo (f:List (T × T)->List (T × T)) (cs:List (List (T × T))) (ps:List (T × T)):Fm f (cs++[ps])=cs++[f ps]:=by
 induction cs with
 | nil=>rfl
 | cons q r ih =>
  cases r with
  | nil=>rfl
  | cons q2 r=>rw[List.cons_append,List.cons_append,Fm];rw[List.cons_append] at ih;rw[ih];rfl
theorem EA:∀(ks:List T) (ps:List (T × T)) (cs:List (List (T × T))),AC ps ks=.ok cs->1<=cs.length/\cs.length<=ks.length+1:=by
 intro ks;induction ks with
 | nil=>intro ps cs h;obtain rfl:=xOO h;simp
 | cons k ks ih =>
  intro ps cs h;rw[AC] at h;split at h
  ·obtain rfl:=xOO h;simp
  ·split at h
   ·exact xEO h
   ·rename_i q hq;cases hc:AC q ks with
    | error f=>rw[hc] at h;exact xEO h
    | ok cs' =>
     rw[hc] at h;obtain rfl:=xOO h;have:=ih q cs' hc;simp;exact lin 2 0 [.a (.l (.c 1) Z0) (.l Z0 (.a Z1 (.c 1)))] (.l Z0 (.a Z1 (.c 1))) [[0,1,1]] R0 _ _ this
theorem Ho:Ap []=.ok []:=by
 unfold Ap;rw[Av rfl];rfl
theorem MZ (ks:List T):AC [] ks=.ok [[]]:=by cases ks <;> rfl
theorem Eo {cs:List (List (T × T))} {ks:List T} (h:cs≠[]):B8 (ps::cs) (k::ks)=AK ps k (AE (B8 cs ks)):=by
 cases cs with
 | nil=>exact absurd rfl h
 | cons q r=>rfl
theorem EO {f:List (T × T)->List (T × T)} {cs:List (List (T × T))} (h:cs≠[]):Fm f (ps::cs)=ps::Fm f cs:=by
 cases cs with
 | nil=>exact absurd rfl h
 | cons q r=>rfl
theorem HQ {f:List (T × T)->List (T × T)} {cs:List (List (T × T))} (h:cs≠[]):Fm f cs≠[]:=by
 cases cs with
 | nil=>exact absurd rfl h
 | cons q r=>cases r <;> simp[Fm]
theorem Hk (kl v:T):∀(ks:List T) (ps:List (T × T)),Cq ps (ks++[kl]) v=match AC ps ks with
  | .error f=>.error f
  | .ok cs=>.ok (B8 (Fm (fun q=>AK q kl v) (cs++List.replicate (ks.length+1 - cs.length) [])) (ks++[kl])):=by
 intro ks;induction ks with
 | nil=>intro ps;rfl
 | cons k ks ih =>
  intro ps;have hs:Cq ps ((k::ks)++[kl]) v=match Ap ((ps.lookup k).getD []) with
    | .error f=>.error f
    | .ok q=>(Cq q (ks++[kl]) v).map fun q'=>AK ps k (AE q'):=by
   cases ks <;> rfl
  rw[hs,AC];cases hl:ps.lookup k with
  | none =>
   rw[Option.getD_none,Ho];dsimp only;rw[ih [],MZ];dsimp only;have e1:[([]:List (T × T))]++List.replicate (ks.length+1 - [([]:List (T × T))].length) []=List.replicate (ks.length+1) []:=by
    rw[List.replicate_succ];rfl
   have e2:[ps]++List.replicate ((k::ks).length+1 - [ps].length) []=ps::List.replicate (ks.length+1) []:=by
    rw[show (k::ks).length+1 - [ps].length=ks.length+1 from by simp];rfl
   have hne:List.replicate (ks.length+1) ([]:List (T × T))≠[]:=by rw[List.replicate_succ];simp
   rw[e1,e2,List.cons_append,EO hne,Eo (HQ hne)];rfl
  | some w =>
   rw[Option.getD_some];dsimp only;cases hp:Ap w with
   | error f=>rfl
   | ok q =>
    dsimp only;rw[ih q];cases hc:AC q ks with
    | error f=>rfl
    | ok cs =>
     have hcl:=EA ks q cs hc;have hne:cs++List.replicate (ks.length+1 - cs.length) []≠[]:=by
      cases cs with
      | nil=>simp at hcl
      | cons=>simp
     simp only[Except.map];rw[show (k::ks).length+1 - (ps::cs).length=ks.length+1 - cs.length from by simp,List.cons_append,List.cons_append,EO hne,Eo (HQ hne)]
theorem F0 (kl:T):∀(ks:List T) (ps:List (T × T)),AP ps (ks++[kl])=match AC ps ks with
  | .error f=>.error f
  | .ok cs=>if cs.length < ks.length+1 then .error (Fh (ks.getD (cs.length - 1) [])) else .ok (B8 (Fm (fun q=>EC q kl) cs) (ks++[kl])):=by
 intro ks;induction ks with
 | nil=>intro ps;rfl
 | cons k ks ih =>
  intro ps;have hs:AP ps ((k::ks)++[kl])=match ps.lookup k with
    | none=>.error (Fh k)
    | some old=>match Ap old with
     | .error f=>.error f
     | .ok q=>(AP q (ks++[kl])).map fun q'=>AK ps k (AE q'):=by
   cases ks <;> rfl
  rw[hs,AC];cases hl:ps.lookup k with
  | none =>
   dsimp only;rw[if_pos (by simp)];rfl
  | some w =>
   dsimp only;cases hp:Ap w with
   | error f=>rfl
   | ok q =>
    dsimp only;rw[ih q];cases hc:AC q ks with
    | error f=>rfl
    | ok cs =>
     have hcl:=EA ks q cs hc;simp only[Except.map];by_cases hlt:cs.length < ks.length+1
     ·rw[if_pos hlt,if_pos (by simp;assumption)];dsimp only;congr 2;rw[List.length_cons,show cs.length+1 - 1=(cs.length - 1)+1 from by exact lin 2 0 [.a (.l (.c 1) Z0) (.l Z0 (.a Z1 (.c 1)))] (.e (.s (.a Z0 (.c 1)) (.c 1)) (.a (.s Z0 (.c 1)) (.c 1))) [[0,0,0,0,1],[0,0,0,0,1],[1,0,0,1,0],[1,0,0,1,0],[1,0,1,0,0],[1,0,1,0,0],[1,0,1,0,0],[0,0,0,0,1]] R0 _ _ hcl];simp
     ·rw[if_neg hlt,if_neg (by simp;exact lin 2 0 [.n (.t Z0 (.a Z1 (.c 1)))] (.l (.a Z1 (.c 1)) Z0) [] R0 _ _ hlt)];have hne:cs≠[]:=fun z=>by subst z;simp at hcl
      dsimp only;rw[EO hne,List.cons_append,Eo (HQ hne)]
end
section
theorem DOk.mono {N M:Nat} (h:DOk N ps) (k:N<=M):DOk M ps:=⟨h.keys,h.good,Nat.le_trans h.wt k⟩
theorem J8 (N:Nat):DOk N []:=⟨List.nodup_nil,fun p hp=>(by cases hp),by simp[Ao,Mine.wt]⟩
theorem DOk.put {N:Nat} (h:DOk N ps) {k v:T} (hk:Mine.good k) (hv:Mine.good v):DOk (N+k.length+v.length+6) (AK ps k v):=by
 refine⟨HB h.keys k v,EX h.good hk hv,?_⟩;have:=D9 h.keys k v;have:=AV k false;have:=AV v false;have:=h.wt;exact U78 _ _ _ _ _ _ _ (by assumption) (by assumption) (by assumption) this
theorem DOk.del {N:Nat} (h:DOk N ps) (k:T):DOk N (EC ps k):=⟨Oe h.keys k,LK h.good k,Nat.le_trans (MX ps k) h.wt⟩
theorem DOk.text {N:Nat} (h:DOk N ps):Mine.good (AE ps)/\(AE ps).length<=N+1:=
 ⟨BX (DQ h.good),Nat.le_trans (Bo _) (Nat.succ_le_succ h.wt)⟩
theorem IE:∀(ks:List T) (ps:List (T × T)) (cs:List (List (T × T))),DOk 3401 ps->AC ps ks=.ok cs->∀q∈cs,DOk 3401 q:=by
 intro ks;induction ks with
 | nil=>intro ps cs h e q hq;obtain rfl:=xOO e;simp at hq;subst hq;exact h
 | cons k ks ih =>
  intro ps cs h e q hq;rw[AC] at e;split at e
  ·obtain rfl:=xOO e;simp at hq;subst hq;exact h
  ·rename_i v hv;split at e
   ·exact xEO e
   ·rename_i qs hqs;cases hc:AC qs ks with
    | error f=>rw[hc] at e;exact xEO e
    | ok cs' =>
     rw[hc] at e;obtain rfl:=xOO e;rcases List.mem_cons.mp hq with rfl | hq
     ·exact h
     ·exact ih qs cs' ((h.val hv).pairs hqs) hc q hq
theorem I8:∀(cs:List (List (T × T))) (ks:List T),(∀q∈cs,DOk 3600 q)->(∀k∈ks,good k/\k.length<=10)->DOk (3700*cs.length) (B8 cs ks):=by
 intro cs;induction cs with
 | nil=>intro ks _ _;exact J8 _
 | cons ps cs ih =>
  intro ks h hk;cases cs with
  | nil=>exact(h ps (.head _)).mono (by simp)
  | cons q r =>
   have h1:=ih ks.tail (fun x hx=>h x (.tail _ hx)) fun k hk'=>hk k (List.mem_of_mem_tail hk');have h2:=h1.text;have hkk:good (ks.headD [])/\(ks.headD []).length<=10:=by
    cases ks with
    | nil=>exact⟨ES,by simp⟩
    | cons k ks=>exact hk k (.head _)
   rw[B8];refine((h ps (.head _)).put hkk.1 h2.1).mono ?_;simp only[List.length_cons] at h2 ⊢;omega
theorem G4 (s:List V) (x:V):Cr (s++[x]) none (some (-1))=s:=by
 have:=MY (s++[x]) 1 (by decide) (by simp);rw[show (-((1:Nat):Int))=-1 from rfl] at this;rw[this];simp
theorem ChainAt.split {ds:List Nat} {cs:List (List (T × T))} (h:ChainAt σ ds cs) (hne:cs≠[]):∃ds0 d cs0 q ep,ds=ds0++[d]/\cs=cs0++[q]/\ChainAt σ ds0 cs0/\σ d=some (.dct ep (vp q)):=by
 induction h with
 | nil=>exact absurd rfl hne
 | cons a t ih =>
  rename_i d ep ps ds cs;by_cases hc:cs=[]
  ·subst hc;cases t
   exact Ui [] d [] ps ep rfl rfl .nil a
  ·refine Rw (ih hc) fun ds0 d' cs0 q ep' e1 e2 e3 e4=>?_;exact Ui (d::ds0) d' (ps::cs0) q ep' (by rw[e1];rfl) (by rw[e2];rfl) (.cons a e3) e4
theorem Mj {n rk:Nat} {t v kl:T} {ks:List T} (ht:TOk t) (hr:Ag σ (.ref rk)=some (Ae (ks++[kl]))) (hk:ks.length<=10) (hkg:∀k∈ks++[kl],good k/\k.length<=10) (hv:good v) (hvl:v.length<=60)
  (h1:∀ps d,Ap t=.ok ps->Cq ps (ks++[kl]) v=.ok d->Q (.str (AE d)) σ)
  (h2:∀f,(Ap t=.error f∨∃ps,Ap t=.ok ps/\Cq ps (ks++[kl]) v=.error f)->RaisesA σ E f) :
  lev (n+9) false .set_path [.str t,.ref rk,.str v] σ Q E:=by
 refine AD (m:=[some (.str t),some (.ref rk),some (.str v),none]) rfl rfl rfl ?_;dsimp only[Gk];have hcut:Cr (Ae (ks++[kl])) none (some (-1))=Ae ks:=by
  unfold Ae;rw[List.map_append];exact G4 _ _
 walk_at"w";refine BJ (lo:=none) (hi:=some (-1)) rfl rfl hr (by rw[Ad,LIM];simp;exact U13 _ hk) ?_;rw[hcut];refine AL (by rw[Ad,LIM];exact U6 _ hk) (fun p hp=>?_);walk_at"w";refine Gr ht (Ac (Aa _ _ _)) (by exact U79 _ hk) (fun ps cs hps hcs σ' c ds hs hc hcl hch hnd hfr hcd=>?_) (fun f hf=>?_)
 ·have hcl0:=EA ks ps cs hcs;have hs0:SubS σ σ':=(SubS.new hp).trans hs;have hc0:σ c=none:=(SubS.new hp).none hc;have hdk:=IE ks ps cs (ht.pairs hps) hcs;have hset:=Hk kl v ks ps;rw[hcs] at hset;dsimp only at hset;walk_at"w";let J1:EF:=fun k m τ=>∃(ds2:List Nat) (j:Nat),m=[some (.str t),some (.ref rk),some (.str v),some (.ref c)]/\SubS σ τ/\τ c=some (.lst (ds2.map .ref))/\ChainAt τ ds2 (cs++List.replicate j [])/\ds2.Nodup/\(∀d∈ds2,σ d=none)/\c∉ds2/\cs.length+j+k=ks.length+1
  refine Ic J1
   (UH (ks.length+1 - cs.length) ds 0 rfl hs0 hcl (by simpa using hch) hnd (fun d hd=>(SubS.new hp).none (hfr d hd)) hcd (by exact lin 2 0 [.a (.l (.c 1) Z0) (.l Z0 (.a Z1 (.c 1)))] (.e (.a (.a Z0 (.c 0)) (.s (.a Z1 (.c 1)) Z0)) (.a Z1 (.c 1))) [[0,0,0,1],[0,0,0,1],[0,1,1,0],[0,1,1,0]] R0 _ _ hcl0)) ?_
  intro k m τ z1_;refine Ul z1_ fun ds2 j z2_ i1 i2 i3 i4 i5 i6 i7=>?_;clear z1_;subst z2_;have hdl:=i3.length;rw[List.length_append,List.length_replicate] at hdl;walk_at"w";refine len_ref (Al hr i1) (by rw[Ad,LIM];simp;exact U13 _ hk) ?_;walk_at"w";rw[List.length_map,Ad,List.length_append,hdl];refine Af (fun z=>?_) (fun z=>?_)
  ·simp at z;walk_at"w";refine BB i2 ?_;walk_at"w";intro d ep hd;have hcd:c≠d:=Bg i2 hd;walk_at"w";refine BC (by rw[Ab _ _ hcd];exact i2) (by rw[List.length_map,hdl,LIM];exact lin 3 0 [.T (.a (.o Z0) (.o Z1)) (.a (.o Z2) (.c 1)),.l Z2 (.c 10)] (.l (.a Z0 Z1) (.c 8000000)) [] R0 _ _ _ z hk) ?_;walk_at"w";refine Ai (k - 1) (by exact lin 4 0 [.T (.a (.o Z0) (.o Z1)) (.a (.o Z2) (.c 1)),.e (.a (.a Z0 Z1) Z3) (.a Z2 (.c 1))] (.t (.s Z3 (.c 1)) Z3) [[0,0,0,0,1],[1,0,1,1,0]] R0 _ _ _ _ z i7) (Ru (ds2++[d]) (j+1) rfl ((i1.trans (SubS.new hd)).turn hc0) (by rw[Aa];simp) ?_ ?_ ?_ ?_ (by exact lin 4 0 [.T (.a (.o Z0) (.o Z1)) (.a (.o Z2) (.c 1)),.e (.a (.a Z0 Z1) Z3) (.a Z2 (.c 1))] (.e (.a (.a Z0 (.a Z1 (.c 1))) (.s Z3 (.c 1))) (.a Z2 (.c 1))) [[0,0,1,0,1],[0,1,0,0,1],[1,0,1,1,0]] R0 _ _ _ _ z i7))
   ·rw[List.replicate_succ',← List.append_assoc];refine ChainAt.append (i3.step fun d' hd' c' hc'=>?_) (.cons (ep:=ep) (ps:=[]) ?_ .nil)
    ·rw[Ab _ _ (show d'≠c from fun z=>i6 (z▸hd')),Ab _ _ (Bg hc' hd)];exact hc'
    ·rw[Ab _ _ (Ne.symm hcd)];exact Aa _ _ _
   ·rw[List.nodup_append];refine Bk i4 (by simp) (fun a ha b hb=>?_);simp at hb;subst hb;intro z;subst z;refine Aq (List.mem_iff_getElem?.mp ha) fun i hi=>?_;refine Be (i3.get hi) fun _ _ _ hx=>?_;rw[hd] at hx;exact xNS hx
   ·intro d' hd';rw[List.mem_append] at hd';rcases hd' with hd' | hd'
    ·exact i5 d' hd'
    ·simp at hd';subst hd';exact i1.none hd
   ·rw[List.mem_append];rintro(z | z)
    ·exact i6 z
    ·simp at z;exact hcd z
  ·simp at z;have hj:j=ks.length+1 - cs.length:=by exact lin 4 0 [.L (.a (.o Z0) (.c 1)) (.a (.o Z1) (.o Z2)),.e (.a (.a Z1 Z2) Z3) (.a Z0 (.c 1))] (.e Z2 (.s (.a Z0 (.c 1)) Z1)) [[1,0,0,0,1],[0,1,0,0,1],[0,0,0,0,1],[0,1,0,1,1]] R0 _ _ _ _ z i7
   rw[← hj] at hset;refine Rw (i3.split (by cases cs <;> simp at hcl0 ⊢)) fun ds0 d cs0 q ep e1 e2 e3 e4=>?_;rw[e2,Fo] at hset;have hqm:∀q'∈cs0++[q],DOk 3401 q':=by
    rw[← e2];intro q' hq';rw[List.mem_append] at hq';rcases hq' with hq' | hq'
    ·exact hdk q' hq'
    ·rw[(List.mem_replicate.mp hq').2];exact J8 _
   have hlen2:cs0.length+1=ks.length+1:=by
    have:=congrArg List.length e2;simp at this;exact lin 5 0 [.L (.a (.o Z0) (.c 1)) (.a (.o Z1) (.o Z2)),.e (.a (.a Z1 Z2) Z3) (.a Z0 (.c 1)),.e (.a Z1 Z2) (.a Z4 (.c 1))] (.e (.a Z4 (.c 1)) (.a Z0 (.c 1))) [[1,0,0,1,0,1],[0,1,0,0,1,1]] R0 _ _ _ _ _ z i7 this
   subst e1;have hdc:d≠c:=fun z=>i6 (by simp[z]);have hnd0:d∉ds0:=by
    rw[List.nodup_append] at i4;exact fun hm=>i4.2.2 d hm d (by simp) rfl
   have hkgl:=hkg kl (by simp);have hdok:∀q'∈cs0++[AK q kl v],DOk 3600 q':=by
    intro q' hq';rw[List.mem_append] at hq';rcases hq' with hq' | hq'
    ·exact(hqm q' (by simp[hq'])).mono (by decide)
    ·simp at hq';subst hq';exact((hqm q (by simp)).put hkgl.1 hv).mono (by omega)
   have hlk:Ag τ (.ref rk)=some (Ae (ks++[kl])):=Al hr i1;walk_at"w";refine CR (s:=ds0.map .ref) (x:=.ref d) (Ac (by rw[i2];simp)) (by rw[List.length_map,LIM];simp at hdl;exact lin 5 0 [.e (.a (.a Z0 Z1) Z2) (.a Z3 (.c 1)),.e (.a Z4 (.c 1)) (.a Z0 Z1),.l Z3 (.c 10)] (.l (.a Z4 (.c 1)) (.c 8000000)) [[1,0,1,0,1,1]] R0 _ _ _ _ _ i7 hdl hk) ?_;walk_at"w";refine CR (s:=Ae ks) (x:=.str kl) (by rw[hlk];unfold Ae;simp) (by rw[Ad,LIM];exact U80 _ hk) ?_;refine B3 e4 (by
    have h3:=(hqm q (by simp)).wt;have h4:=Cs q;have h5:=Ba (Ao q);have h6:=Bt (Ao q);rw[DH,LIM];exact U81 _ _ _ _ _ h5 h4 h3 h6) (fun ep'=>?_)
   rw[Ei];have hlk2:Ag (τ.set d (.dct ep' (vp (AK q kl v)))) (.ref rk)=some (Ae (ks++[kl])):=by
    refine Al hr ?_;exact i1.turn (i5 d (by simp))
   walk_at"w";refine Fb (ds:=ds0++[d]) (cs:=cs0++[AK q kl v]) (ks:=ks++[kl]) (by rw[Ab _ _ (Ne.symm hdc)];exact i2) hlk2
    (ChainAt.append (e3.step fun d' hd' c' hc'=>by rw[Ab _ _ (show d'≠d from fun z=>hnd0 (z▸hd'))];exact hc') (.cons (Aa _ _ _) .nil)) i4 (by simp) (by simp;exact U82 _ _ hlen2 hk) (by simp;exact U83 _ _ hlen2) (by simp;exact U84 _ hk) ?_ ?_
   ·intro i hi;refine(I8 _ _ (fun q' hq'=>hdok q' (List.mem_of_mem_drop hq')) (fun k hk'=>hkg k (List.mem_of_mem_drop hk'))).mono ?_;rw[List.length_drop];simp;exact U85 _ _ _ hlen2 hk
   ·intro τ' hτ';walk_at"w";refine AB (fun a c' ha=>hτ' a c' (fun hm=>?_) ?_) (h1 ps _ hps hset)
    ·rw[i5 a hm] at ha;exact xNS ha
    ·rw[Ab _ _ (fun z=>?_)]
     ·exact i1 _ _ ha
     ·subst z;rw[i5 a (by simp)] at ha;exact xNS ha
 ·refine(h2 f ?_).sub (SubS.new hp);rcases hf with hf | ⟨ps,hf1,hf2⟩
  ·exact .inl hf
  ·refine .inr (Ai ps hf1 ?_);rw[Hk,hf2]
theorem RT {a ep:Nat} (e:σ a=some (.dct ep kvs)) (hl:kvs.length<=LIM) (h:∀ep',Q ((Da kvs k).getD .none) (σ.set a (.dct ep' (Ij kvs k)))):bmSem .pop (.ref a) [.str k,.none] σ Q:=.pop e hl h
theorem PN {a ep:Nat} {q:Prop} (e:σ a=some (.dct ep kvs)) (k:q):Hg .pop (.ref a) σ/\q:=⟨.pop (Az e),k⟩
theorem JU {n rk:Nat} {t kl:T} {ks:List T} (ht:TOk t) (hr:Ag σ (.ref rk)=some (Ae (ks++[kl]))) (hk:ks.length<=10) (hkg:∀k∈ks++[kl],good k/\k.length<=10)
  (h1:∀ps d,Ap t=.ok ps->AP ps (ks++[kl])=.ok d->Q (.str (AE d)) σ)
  (h2:∀f,(Ap t=.error f∨∃ps,Ap t=.ok ps/\AP ps (ks++[kl])=.error f)->RaisesA σ E f) :
  lev (n+9) false .unset_path [.str t,.ref rk] σ Q E:=by
 refine AD (m:=[some (.str t),some (.ref rk),none]) rfl rfl rfl ?_;dsimp only[EK];have hcut:Cr (Ae (ks++[kl])) none (some (-1))=Ae ks:=by
  unfold Ae;rw[List.map_append];exact G4 _ _
 walk_at"w";refine BJ (lo:=none) (hi:=some (-1)) rfl rfl hr (by rw[Ad,LIM];simp;exact U13 _ hk) ?_;rw[hcut];refine AL (by rw[Ad,LIM];exact U6 _ hk) (fun p hp=>?_);walk_at"w";refine Gr ht (Ac (Aa _ _ _)) (by exact U79 _ hk) (fun ps cs hps hcs τ c ds2 hs hc i2 i3 i4 hfr i6=>?_) (fun f hf=>?_)
 ·have hcl0:=EA ks ps cs hcs;have i1:SubS σ τ:=(SubS.new hp).trans hs;have i5:∀d∈ds2,σ d=none:=fun d hd=>(SubS.new hp).none (hfr d hd);have hqm0:=IE ks ps cs (ht.pairs hps) hcs;have hset:=F0 kl ks ps;rw[hcs] at hset;dsimp only at hset;have hdl:=i3.length;have hlk:Ag τ (.ref rk)=some (Ae (ks++[kl])):=Al hr i1;walk_at"w";refine len_ref hlk (by rw[Ad,LIM];simp;exact U13 _ hk) ?_;walk_at"w";rw[List.length_map,Ad,List.length_append,hdl];refine Af (fun z=>?_) (fun z=>?_)
  ·simp at z;rw[if_pos (by exact lin 2 0 [.T (.o Z0) (.a (.o Z1) (.c 1))] (.t Z0 (.a Z1 (.c 1))) [] R0 _ _ z)] at hset;walk_at"w";have hkj:(ks++[kl])[cs.length - 1]?=some (ks.getD (cs.length - 1) []):=by
    rw[List.getElem?_append_left (by exact U86 _ _ z hcl0),List.getD_eq_getElem?_getD,List.getElem?_eq_getElem (by exact U86 _ _ z hcl0)];rfl
   refine Ak (j:=cs.length - 1) hlk (by rw[Ad,LIM];simp;exact U13 _ hk) (by rw[List.length_map,hdl];exact lin 2 0 [.a (.l (.c 1) Z0) (.l Z0 (.a Z1 (.c 1)))] (.E (.s (.o Z0) (.c 1)) (.o (.s Z0 (.c 1)))) [[0,0,0,1],[0,0,0,1],[1,0,1,0],[1,0,1,0]] R0 _ _ hcl0) (Am hkj) ?_;walk_at"w";have hkm:=hkg _ (List.mem_of_getElem? hkj);refine Ip (by omega) (fun e j at_ he hf=>?_);exact I9 i1 he hf (h2 _ (.inr (Ai ps hps hset))).one
  ·simp at z;rw[if_neg (by exact lin 2 0 [.L (.a (.o Z0) (.c 1)) (.o Z1)] (.n (.t Z1 (.a Z0 (.c 1)))) [] R0 _ _ z)] at hset;refine Rw (i3.split (by cases cs <;> simp at hcl0 ⊢)) fun ds0 d cs0 q ep e1 e2 e3 e4=>?_;rw[e2,Fo] at hset;have hqm:∀q'∈cs0++[q],DOk 3401 q':=by rw[← e2];exact hqm0
   have hlen2:cs0.length+1=ks.length+1:=by
    have:=congrArg List.length e2;simp at this;exact lin 3 0 [.L (.a (.o Z0) (.c 1)) (.o Z1),.a (.l (.c 1) Z1) (.l Z1 (.a Z0 (.c 1))),.e Z1 (.a Z2 (.c 1))] (.e (.a Z2 (.c 1)) (.a Z0 (.c 1))) [[1,0,0,1,0,1],[0,0,1,0,1,1]] R0 _ _ _ z hcl0 this
   subst e1;have hdc:d≠c:=fun z=>i6 (by simp[z]);have hnd0:d∉ds0:=by
    rw[List.nodup_append] at i4;exact fun hm=>i4.2.2 d hm d (by simp) rfl
   have hdok:∀q'∈cs0++[EC q kl],DOk 3600 q':=by
    intro q' hq';rw[List.mem_append] at hq';rcases hq' with hq' | hq'
    ·exact(hqm q' (by simp[hq'])).mono (by decide)
    ·simp at hq';subst hq';exact((hqm q (by simp)).del kl).mono (by exact lin 0 0 [] (.l (.c 3401) (.c 3600)) [] R0)
   walk_at"w";refine CR (s:=ds0.map .ref) (x:=.ref d) (Ac (by rw[i2];simp)) (by rw[List.length_map,LIM];simp at hdl;exact lin 3 0 [.a (.l (.c 1) Z0) (.l Z0 (.a Z1 (.c 1))),.e (.a Z2 (.c 1)) Z0,.l Z1 (.c 10)] (.l (.a Z2 (.c 1)) (.c 8000000)) [[0,1,1,0,1,1]] R0 _ _ _ hcl0 hdl hk) ?_;refine PN e4 ?_;walk_at"w";refine CR (s:=Ae ks) (x:=.str kl) (by rw[hlk];unfold Ae;simp) (by rw[Ad,LIM];exact U80 _ hk) ?_;walk_at"w";refine RT e4 (by
    have h3:=(hqm q (by simp)).wt;have h4:=Cs q;have h5:=Ba (Ao q);have h6:=Bt (Ao q);rw[DH,LIM];exact U81 _ _ _ _ _ h5 h4 h3 h6) (fun ep'=>?_)
   rw[Sq];have hlk2:Ag (τ.set d (.dct ep' (vp (EC q kl)))) (.ref rk)=some (Ae (ks++[kl])):=by
    refine Al hr ?_;exact i1.turn (i5 d (by simp))
   walk_at"w";refine Fb (ds:=ds0++[d]) (cs:=cs0++[EC q kl]) (ks:=ks++[kl]) (by rw[Ab _ _ (Ne.symm hdc)];exact i2) hlk2
    (ChainAt.append (e3.step fun d' hd' c' hc'=>by rw[Ab _ _ (show d'≠d from fun z=>hnd0 (z▸hd'))];exact hc') (.cons (Aa _ _ _) .nil)) i4 (by simp) (by simp;exact U82 _ _ hlen2 hk) (by simp;exact U83 _ _ hlen2) (by simp;exact U84 _ hk) ?_ ?_
   ·intro i hi;refine(I8 _ _ (fun q' hq'=>hdok q' (List.mem_of_mem_drop hq')) (fun k hk'=>hkg k (List.mem_of_mem_drop hk'))).mono ?_;rw[List.length_drop];simp;exact U85 _ _ _ hlen2 hk
   ·intro τ' hτ';walk_at"w";refine AB (fun a c' ha=>hτ' a c' (fun hm=>?_) ?_) (h1 ps _ hps hset)
    ·rw[i5 a hm] at ha;exact xNS ha
    ·rw[Ab _ _ (fun z=>?_)]
     ·exact i1 _ _ ha
     ·subst z;rw[i5 a (by simp)] at ha;exact xNS ha
 ·refine(h2 f ?_).sub (SubS.new hp);rcases hf with hf | ⟨ps,hf1,hf2⟩
  ·exact .inl hf
  ·refine .inr (Ai ps hf1 ?_);rw[F0,hf2]
end
section
theorem BN {Γ:Bool->Gam} {hd:Option Nat} {Q:QF} {E:EF} {a b:SS} (J:Loc->Store->Prop)
  (h1:∀Q':QF,(∀m σ,J m σ->Q' .next m σ)->(∀f m σ,f≠.next->Q f m σ->Q' f m σ)->ws Γ hd a m σ Q' E) (h2:∀m σ,J m σ->ws Γ hd b m σ Q E):ws Γ hd (.cons a b) m σ Q E:=
 AO (h1 _ (fun m σ h=>h2 m σ h) fun f m σ hf h=>by cases f <;> first | exact absurd rfl hf | exact h)
noncomputable def dv (base:Int):Int->T->Option Int
 | a,[]=>some a
 | a,c::r=>if BV c < 0∨base<=BV c then none else dv base (a*base+BV c) r
noncomputable def Bc (s:T):Int × T:=match s with
 | []=>(1,[])
 | c::r=>if c=43 then (1,r) else if c=45 then (-1,r) else (1,c::r)
noncomputable def FR (r:T):Option Int:=if r.take 2=[48,120]/\2 < r.length then dv 16 0 (r.drop 2) else if r=[] then none else dv 10 0 r
noncomputable def AN (t:T):Option Int:=(FR (Bc (AQ t)).2).map fun v=>(Bc (AQ t)).1*v
noncomputable def K4:Option Int->V
 | none=>.none
 | some i=>.int i
noncomputable def BI (t:T):AG:=(tx "expected integer but got \""++t++tx "\"",[tx "TCL",tx "VALUE",tx "NUMBER"])
theorem Kb {base:Int} (hl:s.length<=100000) (hb:0 < base) (hb2:base<=16) (h:Q (K4 (if s=[] then none else dv base 0 s)) σ) :
  lev (n+2) false .digits_value [.str s,.int base] σ Q E:=by
 refine AD (m:=[some (.str s),some (.int base),none,none,none]) rfl rfl rfl ?_;dsimp only[DZ];walk_at"w";refine Af (fun z=>?_) (fun z=>?_)
 ·rw[if_pos z] at h;walk_at"w";exact Ah h
 ·rw[if_neg z] at h;walk_at"w";let J1:T->Loc->Store->Prop:=fun cs m σ'=>∃(a:Int) (x y:Option V),m=[some (.str s),some (.int base),some (.int a),x,y]/\σ'=σ/\dv base 0 s=dv base a cs
  refine Mr J1 (Nat.le_trans hl (by decide)) (Kn 0 none none rfl rfl rfl) ?_ ?_
  ·intro c cs m σ' z1_;refine Rx z1_ fun a x y z2_ z3_ e=>?_;clear z1_;subst z2_;subst z3_;walk_at"w";refine Q1 ?_;walk_at"w";rw[dv] at e;refine Af (fun z1=>?_) (fun z1=>?_)
   ·rw[if_pos (.inl z1)] at e;rw[e] at h;walk_at"w";exact Ah h
   ·walk_at"w";refine Af (fun z2=>?_) (fun z2=>?_)
    ·rw[if_pos (.inr z2)] at e;rw[e] at h;walk_at"w";exact Ah h
    ·rw[if_neg (by exact lin 0 2 [.n (.L (.v 0) (.v 1)),.n (.T (.v 1) (.c 0))] (.n (.o (.T (.v 1) (.c 0)) (.L (.v 0) (.v 1)))) [[0,1,1],[1,0,1]] R0 _ _ z2 z1)] at e;walk_at"w";refine Bx (.inr (by exact lin 0 1 [.L (.v 0) (.c 16),.T (.c 0) (.v 0)] (.t (.b (.v 0)) (.c 9223372036854775808)) [[1,0,0,1],[0,1,1,0]] R0 _ hb2 hb)) ?_;walk_at"w";exact Kn _ _ _ rfl rfl e
  ·intro m σ' z4_;refine Rx z4_ fun a x y z5_ z6_ e=>?_;clear z4_;subst z5_;subst z6_;rw[dv] at e;rw[e] at h;walk_at"w";exact Ah h
theorem Qk (h:c∈Cp):([V.str [120],V.str [88]].any fun x=>V.same x (.str [c]))=(c==120)/\([V.str [111],V.str [79]].any fun x=>V.same x (.str [c]))=false/\([V.str [98],V.str [66]].any fun x=>V.same x (.str [c]))=(c==98)/\([V.str [100],V.str [68]].any fun x=>V.same x (.str [c]))=false:=by revert c;decide
theorem N0 {n c:Nat} (hc:c∈Cp) (h:Q (.int (if c=120 then 16 else if c=98 then 2 else 0)) σ):lev (n+1) false .base_of [.str [c]] σ Q E:=by
 have z0_:=Qk hc;have m1:=z0_.1;have m2:=z0_.2.1;have m3:=z0_.2.2.1;have m4:=z0_.2.2.2;clear z0_;refine AD (m:=[some (.str [c])]) rfl rfl rfl ?_;dsimp only[GN];walk_at"w";refine CT m1 ?_;walk_at"w";refine AF (fun z=>?_) (fun z=>?_)
 ·simp at z;subst z;walk_at"w";exact Ah h
 ·have z':c≠120:=by simpa using z
  rw[if_neg z'] at h;walk_at"w";refine CT m2 ?_;walk_at"w";refine CT m3 ?_;walk_at"w";refine AF (fun z=>?_) (fun z=>?_)
  ·simp at z;subst z;walk_at"w";exact Ah h
  ·have z':c≠98:=by simpa using z
   rw[if_neg z'] at h;walk_at"w";refine CT m4 ?_;walk_at"w";exact Ah h
noncomputable def Cw (x:T):T:=(x.reverse.dropWhile (·==32)).reverse
theorem Jp (x:T):Cw (x++[32])=Cw x:=by
 unfold Cw;rw[List.reverse_append];rfl
theorem Lv (x:T) {c:Nat} (h:c≠32):Cw (x++[c])=x++[c]:=by
 unfold Cw;rw[List.reverse_append];show (List.dropWhile _ (c::x.reverse)).reverse=_;rw[List.dropWhile_cons,if_neg (by simpa using h)];simp
theorem Hu (t:T):AQ t=Cw (skip t):=rfl
theorem TR {t pre post:T} {s s':AS} (h:run s t=some s') (e:t=pre++48::98::post):False:=by
 subst e;rw[Bb,Option.bind_eq_some_iff] at h;refine e1a2 h fun s1 h1 h2=>?_;clear h;refine e1a2 (Ci h2) fun s2 h3 h4=>?_;refine e1a2 (Ci h4) fun s3 h5 h6=>?_;obtain⟨d,k,f⟩:=s1;have:s2=(d,k,false):=by
  rw[PO (by decide) (by decide) (by decide) (by decide) (by decide)] at h3;exact(xSS h3).symm
 subst this;exact xNS h5
theorem PA (h:c∈Cp):([V.str [43],V.str [45]].any fun x=>V.same x (.str [c]))=(c==43||c==45):=by revert c;decide
theorem EW {f b c:Nat} (hc:t[f]?=some c) (h:f < b):(t.take b).drop f=c::(t.take b).drop (f+1):=by
 have hf:=(List.getElem?_eq_some_iff.mp hc).1;have:f < (t.take b).length:=by rw[List.length_take];exact lin 3 0 [.t Z0 Z1,.t Z0 Z2] (.t Z0 (.n Z2 Z1)) [[0,1,0,1],[1,0,0,1]] R0 _ _ _ hf h
 rw[List.drop_eq_getElem_cons this];congr 1;rw[List.getElem_take];rw[List.getElem?_eq_getElem hf] at hc;exact Option.some.inj hc
theorem LT (hg:good t) (hl:t.length<=10000) (h:Q (K4 (AN t)) σ) :
  lev (n+3) false .whole_of [.str t] σ Q E:=by
 have hlim:t.length<=LIM:=Nat.le_trans hl (by decide);have ht:=hg.ok;refine AD (m:=[some (.str t),none,none,none,none,none]) rfl rfl rfl ?_;dsimp only[Gh];walk_at"w";let J2:EF:=fun k m σ'=>∃e:Nat,m=[some (.str t),some (.int e),some (.int (t.length:Nat)),none,none,none]/\σ'=σ/\k=t.length - e/\e<=t.length/\skip t=skip (t.drop e)
 refine Ic J2 (Ol t.length 0 rfl rfl rfl (by exact U27 _) rfl) ?_;intro k m σ' z1_;refine Tg z1_ fun e z2_ z3_ z4_ e1 e2=>?_;clear z1_;subst z2_;subst z3_;subst z4_
 suffices next:skip t=t.drop e->G0 (lev (n+2)) none _ (fun fl x σ'=>Iy (dropQ Q) fl [] σ') (fun e x σ'=>dropE E e σ') .next [some (.str t),some (.int e),some (.int (t.length:Nat)),none,none,none] σ' by
  walk_at"w";refine Af (fun z1=>?_) (fun z1=>?_)
  ·refine B2 (BU (t:=t) (p:=e) (by exact U5 _ _ z1)) fun c hc hd hm=>?_;walk_at"w";refine AM hlim (by exact U2 _) hc ?_;refine BW (ht c hm) ?_;walk_at"w";refine AF (fun z2=>?_) (fun z2=>?_)
   ·walk_at"w";simp at z2;subst z2;exact Ai (t.length - (e+1)) (by exact U3 _ _ z1) (Td (e+1) rfl rfl rfl (by exact U1 _ _ z1) (by rw[e2,hd];rfl))
   ·have hcb:c≠32:=by simpa using z2
    exact next (by rw[e2,hd];unfold skip;simp[hcb])
  ·exact next (by rw[e2,show t.drop e=[] from List.drop_of_length_le (by exact U12 _ _ z1)];rfl)
 intro hsk;walk_at"w";let J3:EF:=fun k m σ''=>∃b:Nat,m=[some (.str t),some (.int e),some (.int b),none,none,none]/\σ''=σ'/\k=b/\e<=b/\b<=t.length/\AQ t=Cw ((t.take b).drop e)
 refine Ic J3 (SN t.length t.length rfl rfl rfl e1 (Nat.le_refl _) (by rw[Hu,hsk,List.take_of_length_le (Nat.le_refl _)])) ?_;intro k m σ'' z5_;refine Sa z5_ fun b z6_ z7_ hkb b1 b2 b3=>?_;clear z5_;subst z6_;subst z7_
 suffices next:AQ t=(t.take b).drop e->G0 (lev (n+2)) none _ (fun fl x σ'=>Iy (dropQ Q) fl [] σ') (fun e x σ'=>dropE E e σ') .next [some (.str t),some (.int e),some (.int b),none,none,none] σ'' by
  walk_at"w";refine Af (fun z1=>?_) (fun z1=>?_)
  ·refine B2 (BU (t:=t) (p:=b - 1) (by exact lin 3 0 [.T (.o Z0) (.o Z1),.l Z1 Z2] (.t (.s Z1 (.c 1)) Z2) [[0,1,0,1]] R0 _ _ _ z1 b2)) fun c hc hd hm=>?_;have htk:(t.take b).drop e=(t.take (b - 1)).drop e++[c]:=by
    rw[show t.take b=t.take (b - 1)++[c] from by
     rw[show b=b - 1+1 from by exact lin 2 0 [.T (.o Z0) (.o Z1)] (.e Z1 (.a (.s Z1 (.c 1)) (.c 1))) [[0,0,1],[0,0,1],[],[0,1,1]] R0 _ _ z1,List.take_add_one,show b - 1+1 - 1=b - 1 from by exact lin 1 0 [] (.e (.s (.a (.s Z0 (.c 1)) (.c 1)) (.c 1)) (.s Z0 (.c 1))) [[0,0,0,1],[0,0,0,1],[],[1,0,1,0],[1,1,0,0],[],[],[],[1,0,1,0],[],[],[],[0,1,0,0]] R0 _,hc];rfl]
    rw[List.drop_append_of_le_length (by rw[List.length_take];exact lin 3 0 [.T (.o Z0) (.o Z1),.l Z0 Z2] (.l Z0 (.n (.s Z1 (.c 1)) Z2)) [[1,0,0,0,1],[0,1,0,0,1],[1,0,1,0,1]] R0 _ _ _ z1 e1)]
   walk_at"w";refine AM hlim (by exact lin 2 0 [.T (.o Z0) (.o Z1)] (.L (.c 0) (.s (.o Z1) (.c 1))) [] R0 _ _ z1) (by rw[show ((b:Int) - 1).toNat=b - 1 from by exact lin 1 0 [] (.e (.t (.s (.o Z0) (.c 1))) (.s Z0 (.c 1))) [[0,0,1],[0,0,1],[],[1,1,0],[1,0,1],[0,1,1],[0,0,1],[0,0,1]] R0 _];exact hc) ?_;refine BW (ht c hm) ?_;walk_at"w";refine AF (fun z2=>?_) (fun z2=>?_)
   ·walk_at"w";simp at z2;subst z2;refine Ai (b - 1) (by exact lin 3 0 [.T (.o Z0) (.o Z1),.e Z2 Z1] (.t (.s Z1 (.c 1)) Z2) [[0,0,1,0,1]] R0 _ _ _ z1 hkb) (Of (b - 1) ?_ rfl rfl (by exact lin 2 0 [.T (.o Z0) (.o Z1)] (.l Z0 (.s Z1 (.c 1))) [[1,0,1]] R0 _ _ z1) (by exact lin 2 0 [.l Z0 Z1] (.l (.s Z0 (.c 1)) Z1) [[1,0,1]] R0 _ _ b2) ?_)
    ·rw[show (b:Int) - 1=((b - 1:Nat):Int) from by exact lin 2 0 [.T (.o Z0) (.o Z1)] (.E (.s (.o Z1) (.c 1)) (.o (.s Z1 (.c 1)))) [[0,0,1],[0,0,1],[],[0,1,1]] R0 _ _ z1];rfl
    ·rw[b3,htk,Jp]
   ·have hcb:c≠32:=by simpa using z2
    exact next (by rw[b3,htk,Lv _ hcb])
  ·exact next (by rw[b3,show (t.take b).drop e=[] from List.drop_of_length_le (by rw[List.length_take];exact U29 _ _ _ z1)];rfl)
 intro hst;unfold AN at h;rw[hst] at h;refine AU (AO (DC (Sy (AU (BN (fun m τ=>τ=σ''/\∃(f:Nat) (neg:Bool),f<=b/\m=[some (.str t),some (.int f),some (.int b),some (.bool neg),none,none]/\Q (K4 ((FR ((t.take b).drop f)).map fun v=>(if neg then -1 else 1)*v)) σ'') (fun Q' hQ1 hQ2=>?_) ?_)))))
 ·walk_at"w";refine Af (fun z1=>?_) (fun z1=>?_)
  ·refine B2 (BU (t:=t) (p:=e) (by exact lin 3 0 [.T (.o Z0) (.o Z1),.l Z1 Z2] (.t Z0 Z2) [] R0 _ _ _ z1 b2)) fun c hc hd hm=>?_;have hp:=EW hc (show e < b by exact U5 _ _ z1);rw[hp] at h;walk_at"w";refine AM hlim (by exact U2 _) hc ?_;walk_at"w";refine CT (PA (ht c hm)) ?_;walk_at"w";refine AF (fun z2=>?_) (fun z2=>?_)
   ·walk_at"w";refine AM hlim (by exact U2 _) hc ?_;walk_at"w";rw[F2];refine hQ1 _ _ ⟨rfl,AZ (e+1) (c==45) (by exact U1 _ _ z1) rfl ?_⟩;simp at z2;rcases z2 with rfl | rfl <;> exact h
   ·simp at z2;unfold Bc at h;dsimp only at h;rw[if_neg z2.1,if_neg z2.2,← hp] at h;walk_at"w";exact hQ1 _ _ ⟨rfl,AZ e false b1 rfl h⟩
  ·rw[show (t.take b).drop e=[] from List.drop_of_length_le (by rw[List.length_take];exact U29 _ _ _ z1)] at h;walk_at"w";refine hQ1 _ _ ⟨rfl,AZ e false b1 rfl ?_⟩;rw[show (t.take b).drop e=[] from List.drop_of_length_le (by rw[List.length_take];exact U29 _ _ _ z1)];exact h
 intro m τ z8_;have z9_:=z8_.1;have z10_:=z8_.2;clear z8_;subst z9_;refine Cc z10_ fun f neg hf z11_ hQ=>?_;clear z10_;subst z11_;generalize hR:(t.take b).drop f=R at hQ;have hRl:R.length=b - f:=by rw[← hR,List.length_drop,List.length_take];exact lin 3 0 [.l Z0 Z1] (.e (.s (.n Z0 Z1) Z2) (.s Z0 Z2)) [[0,0,0,0,1],[0,0,0,0,1],[0,0,1,1,0],[0,0,1,1,0],[0,0,1,1,0],[0,0,1,1,0],[0,0,0,0,1],[0,0,0,0,1],[1,1,0,0,0],[1,1,0,0,0],[0,0,1,0,1],[1,1,0,0,0],[1,1,0,0,0],[0,0,0,1,1],[0,0,0,0,1],[0,0,0,0,1]] R0 _ _ _ b2
 refine AO (DC (Dn (AU (BN (fun m τ'=>τ'=τ/\∃bs:Int,m=[some (.str t),some (.int f),some (.int b),some (.bool neg),some (.int bs),none]/\((bs=16/\R.take 2=[48,120]/\2 < R.length)∨(bs=0/\¬(R.take 2=[48,120]/\2 < R.length)))) (fun Q' hQ1 hQ2=>?_) ?_))))
 ·walk_at"w";refine Af (fun z1=>?_) (fun z1=>?_)
  ·refine B2 (BU (t:=t) (p:=f) (by exact lin 3 0 [.T (.c 2) (.s (.o Z0) (.o Z1)),.l Z0 Z2] (.t Z1 Z2) [] R0 _ _ _ z1 b2)) fun c hc hd hm=>?_;refine B2 (BU (t:=t) (p:=f+1) (by exact lin 3 0 [.T (.c 2) (.s (.o Z0) (.o Z1)),.l Z0 Z2] (.t (.a Z1 (.c 1)) Z2) [] R0 _ _ _ z1 b2)) fun c2 hc2 hd2 hm2=>?_;have hp:=EW hc (show f < b by exact lin 2 0 [.T (.c 2) (.s (.o Z0) (.o Z1))] (.t Z1 Z0) [] R0 _ _ z1);have hp2:=EW hc2 (show f+1 < b by exact lin 2 0 [.T (.c 2) (.s (.o Z0) (.o Z1))] (.t (.a Z1 (.c 1)) Z0) [] R0 _ _ z1);rw[hp2,hR] at hp;walk_at"w";refine AM hlim (by exact U2 _) hc ?_;walk_at"w";refine Af (fun z2=>?_) (fun z2=>?_)
   ·simp at z2;subst z2;walk_at"w";refine AM hlim (by exact lin 1 0 [] (.L (.c 0) (.a (.o Z0) (.c 1))) [] R0 _) (by rw[show ((f:Int)+1).toNat=f+1 from by exact lin 1 0 [] (.e (.t (.a (.o Z0) (.c 1))) (.a Z0 (.c 1))) [[0,1],[0,1]] R0 _];exact hc2) ?_;walk_at"w";refine N0 (ht c2 hm2) ?_;walk_at"w";have hn98:c2≠98:=by
     intro z;subst z;refine Aq hg fun f' hrun=>?_;clear hg;exact TR (pre:=t.take f) (post:=t.drop (f+1+1)) hrun (by rw[← hd2,← hd,List.take_append_drop])
    by_cases hx:c2=120
    ·subst hx;rw[if_pos rfl];exact hQ1 _ _ ⟨rfl,Ai 16 rfl (.inl (Bk rfl (by rw[hp];rfl) (by exact lin 3 0 [.T (.c 2) (.s (.o Z0) (.o Z1)),.e Z2 (.s Z0 Z1)] (.t (.c 2) Z2) [[1,0,0,1,1]] R0 _ _ _ z1 hRl)))⟩
    ·rw[if_neg hx,if_neg hn98];exact hQ1 _ _ ⟨rfl,Ai 0 rfl (.inr ⟨rfl,fun z=>hx (by have:=z.1;rw[hp] at this;simpa using this)⟩)⟩
   ·have hc48:c≠48:=by simpa using z2
    walk_at"w";exact hQ1 _ _ ⟨rfl,Ai 0 rfl (.inr ⟨rfl,fun z=>hc48 (by have:=z.1;rw[hp] at this;simp at this;exact this.1)⟩)⟩
  ·walk_at"w";exact hQ1 _ _ ⟨rfl,Ai 0 rfl (.inr ⟨rfl,fun z=>by omega⟩)⟩
 intro m τ' z12_;have z13_:=z12_.1;have z14_:=z12_.2;clear z12_;subst z13_;refine e1a2 z14_ fun bs z15_ hbs=>?_;clear z14_;subst z15_;refine BN (fun m τ=>τ=τ'/\m=[some (.str t),some (.int f),some (.int b),some (.bool neg),some (.int bs),some (K4 (FR R))]) (fun Q' hQ1 hQ2=>?_) ?_
 ·walk_at"w";rcases hbs with ⟨rfl,hb1,hb2⟩ | ⟨rfl,hb1⟩
  ·refine Af (fun _=>?_) (fun z=>absurd z (by decide));walk_at"w";refine Bz (lo:=some ((f+2:Nat):Int)) (hi:=some (b:Int)) rfl rfl hlim ?_;rw[GH];walk_at"w";have hRd:(t.take b).drop (f+2)=R.drop 2:=by rw[← hR,List.drop_drop]
   rw[hRd];refine Kb (by rw[List.length_drop];exact lin 4 0 [.e Z0 (.s Z1 Z2),.l Z3 (.c 10000),.l Z1 Z3] (.l (.s Z0 (.c 2)) (.c 100000)) [[0,1,0,1,1,0,1],[],[0,1,0,0,0,1,0],[0,0,0,0,0,0,1]] R0 _ _ _ _ hRl hl b2) (by decide) (by decide) ?_;walk_at"w";have hne:R.drop 2≠[]:=fun z=>by
    have:=congrArg List.length z;rw[List.length_drop] at this;simp at this;exact lin 1 0 [.e (.s Z0 (.c 2)) (.c 0),.t (.c 2) Z0] .f [[0,1,0,1]] R0 _ this hb2
   rw[if_neg hne];refine hQ1 _ _ ⟨rfl,?_⟩;unfold FR;rw[if_pos ⟨hb1,hb2⟩];rfl
  ·refine Af (fun z=>absurd z (by decide)) (fun _=>?_);walk_at"w";refine Bz (lo:=some (f:Int)) (hi:=some (b:Int)) rfl rfl hlim ?_;rw[GH,hR];walk_at"w";refine Kb (by exact lin 4 0 [.e Z0 (.s Z1 Z2),.l Z3 (.c 10000),.l Z1 Z3] (.l Z0 (.c 100000)) [[0,1,0,1,1,1],[0,1,0,0,0,1]] R0 _ _ _ _ hRl hl b2) (by decide) (by decide) ?_;walk_at"w";refine hQ1 _ _ ⟨rfl,?_⟩;unfold FR;rw[if_neg hb1];rfl
 intro m τ z16_;have z17_:=z16_.1;have z18_:=z16_.2;clear z16_;subst z17_;subst z18_;cases hval:FR R with
 | none =>
  rw[hval] at hQ;walk_at"w";exact Ah hQ
 | some v =>
  rw[hval] at hQ;unfold K4 at hQ ⊢;walk_at"w";cases neg with
  | false =>
   walk_at"w";simp at hQ;exact Ah hQ
  | true =>
   walk_at"w";simp at hQ;exact Ah hQ
theorem DI (hg:good t) (hl:t.length<=10000) (h1:∀v,AN t=some v->Q (.int v) σ) (h2:AN t=none->RaisesA σ E (BI t)) :
  lev (n+4) false .need_whole [.str t] σ Q E:=by
 refine AD (m:=[some (.str t),none]) rfl rfl rfl ?_;dsimp only[EM];walk_at"w";refine LT hg hl ?_;walk_at"w";cases hw:AN t with
 | none =>
  unfold K4;refine ifQ_t ?_;walk_at"w";refine Dm (f:=BI t) (fun e k at_ he hf=>?_);walk_at"w";exact BZ he hf (h2 hw).one
 | some v =>
  unfold K4;walk_at"w";exact Ah (h1 v hw)
end
section
structure HS where
 h:Nat
 vd:Nat
 vs:List (T × Nat)
 st:T->Option T × Nat
noncomputable def Kz (at_:List (T × V)) (s:Option T × Nat):Prop:=at_.lookup [107,105,110,100]=some (.str (if s.1=none then [110,111,110,101] else [115,99,97,108,97,114]))/\at_.lookup [118,97,108,117,101]=some (.str (s.1.getD []))/\at_.lookup [119,114,105,116,101,115]=some (.int s.2)
noncomputable def Ay (x:T):Prop:=x=[100]∨x=[101]
structure HostAt (σ:Store) (H:HS):Prop where
 host:∃n at_,σ H.h=some (.obj .host n at_)/\at_.lookup [118,97,114,115]=some (.ref H.vd)
 dict:∃ep,σ H.vd=some (.dct ep (H.vs.map fun p=>(p.1,.ref p.2)))
 var:∀x a,H.vs.lookup x=some a->∃n at_,n<=50/\σ a=some (.obj .var n at_)/\Kz at_ (H.st x)
 non:∀x,H.vs.lookup x=none->H.st x=(none,0)
 inj:∀x y a,H.vs.lookup x=some a->H.vs.lookup y=some a->x=y
 few:H.vs.length<=2/\(H.vs.map Prod.fst).Nodup/\∀p∈H.vs,Ay p.1
noncomputable def HS.foot (H:HS) (a:Nat):Prop:=a=H.h∨a=H.vd∨∃x,H.vs.lookup x=some a
structure HStep (σ σ':Store) (H H':HS):Prop where
 at_:HostAt σ' H'
 h:H'.h=H.h
 kept:∀a c,¬H.foot a->σ a=some c->σ' a=some c/\¬H'.foot a
theorem HStep.refl {H:HS} (h:HostAt σ H):HStep σ σ H H:=⟨h,rfl,fun a c hf e=>⟨e,hf⟩⟩
theorem HStep.trans {σ σ' σ'':Store} {H H' H'':HS} (x:HStep σ σ' H H') (y:HStep σ' σ'' H' H''):HStep σ σ'' H H'':=
 ⟨y.at_,y.h.trans x.h,fun a c hf e=>let ⟨e1,f1⟩:=x.kept a c hf e;y.kept a c f1 e1⟩
theorem HostAt.known {H:HS} (x:HostAt σ H) {a:Nat} (f:H.foot a):∃c,σ a=some c:=by
 rcases f with rfl | rfl | ⟨y,hy⟩
 ·refine Be x.host fun n at_ e _=>?_;exact⟨_,e⟩
 ·refine Aq x.dict fun ep e=>?_;exact⟨_,e⟩
 ·refine Cc (x.var y a hy) fun n at_ _ e _=>?_;exact⟨_,e⟩
theorem HostAt.sub {σ τ:Store} {H:HS} (x:HostAt σ H) (k:∀a c,H.foot a->σ a=some c->τ a=some c):HostAt τ H where
 host:=let ⟨n,at_,e,r⟩:=x.host;⟨n,at_,k _ _ (.inl rfl) e,r⟩
 dict:=let ⟨ep,e⟩:=x.dict;⟨ep,k _ _ (.inr (.inl rfl)) e⟩
 var:=fun y a hy=>let ⟨n,at_,hn,e,r⟩:=x.var y a hy;⟨n,at_,hn,k _ _ (.inr (.inr ⟨y,hy⟩)) e,r⟩
 non:=x.non
 inj:=x.inj
 few:=x.few
theorem HostAt.turn {H:HS} (x:HostAt σ H) {a:Nat} (ha:¬H.foot a) (c:Cell):HostAt (σ.set a c) H:=x.sub fun b d f e=>by
 rw[Ab _ _ (show b≠a from fun z=>ha (z▸f))];exact e
theorem HostAt.new_off {H:HS} (x:HostAt σ H) {a:Nat} (ha:σ a=none):¬H.foot a:=fun f=>by
 refine Aq (x.known f) fun c e=>?_;rw[ha] at e;exact xNS e
theorem LW {n a:Nat} (ha:σ a=some (.obj .var 0 [])) (h:∀k at_,k<=50->Kz at_ (none,0)->Q .none (σ.set a (.obj .var k at_))) :
  lev (n+1) false .var_init [.ref a] σ Q E:=by
 refine AD (m:=[some (.ref a)]) rfl rfl rfl ?_;dsimp only[Gv];walk_at"w";refine CU ha (by decide) (fun k1 hk1=>?_);walk_at"w";refine CU (Aa _ _ _) (by exact U89 _ hk1) (fun k2 hk2=>?_);rw[Aj];walk_at"w";refine AL (by decide) (fun x hx=>?_);have hax:a≠x:=fun z=>by subst z;rw[Aa] at hx;exact xSN hx
 walk_at"w";refine CU (by rw[Ab _ _ hax];exact Aa _ _ _) (by exact U90 _ _ hk1 hk2) (fun k3 hk3=>?_);walk_at"w";refine CU (Aa _ _ _) (by exact U91 _ _ _ hk1 hk3 hk2) (fun k4 hk4=>?_);rw[Aj];walk_at"w";refine CU (Aa _ _ _) (by exact U92 _ _ _ _ hk1 hk4 hk2 hk3) (fun k5 hk5=>?_);rw[Aj];walk_at"w";refine CU (Aa _ _ _) (by exact U93 _ _ _ _ _ hk1 hk5 hk2 hk3 hk4) (fun k6 hk6=>?_);rw[Aj];walk_at"w";refine AB (Jl (fun b d hb e=>?_) (Aa _ _ _)) (h k6 _ (by exact lin 6 0 [.l Z0 (.a (.c 0) (.c 1)),.l Z1 (.a Z2 (.c 1)),.l Z3 (.a Z0 (.c 1)),.l Z4 (.a Z3 (.c 1)),.l Z5 (.a Z4 (.c 1)),.l Z2 (.a Z5 (.c 1))] (.l Z1 (.c 50)) [] R0 _ _ _ _ _ _ hk1 hk6 hk2 hk3 hk4 hk5) (Bk ?_ ?_ ?_))
 ·rw[Ab _ _ (Ne.symm hax)] at hx;rw[Ab _ _ hb,Ab _ _ (Bg e hx),Ab _ _ hb];exact e
 ·iterate 5 rw[CI _ _ (by decide)]
  exact C9 _ _ _
 ·iterate 4 rw[CI _ _ (by decide)]
  exact C9 _ _ _
 ·exact C9 _ _ _
theorem JN (vs:List (T × Nat)) (x:T):(vs.map fun p=>(p.1,V.ref p.2)).any (fun p=>p.1==x)=(vs.lookup x).isSome:=by
 rw[List.any_map];induction vs with
 | nil=>rfl
 | cons p r ih =>
  obtain⟨p1,p2⟩:=p;rw[List.any_cons,ih,List.lookup_cons];by_cases e:x=p1
  ·subst e;simp
  ·have e1:(x==p1)=false:=by simpa using e
   have e2:(p1==x)=false:=by simpa using fun z:p1=x=>e z.symm
   rw[e1];show ((p1==x)||_)=_;rw[e2];rfl
theorem Ml (vs:List (T × Nat)) (x:T):Da (vs.map fun p=>(p.1,V.ref p.2)) x=(vs.lookup x).map .ref:=by
 unfold Da;induction vs with
 | nil=>rfl
 | cons p r ih =>
  obtain⟨p1,p2⟩:=p;rw[List.map_cons,List.lookup_cons,List.lookup_cons];cases x==p1
  ·exact ih
  ·rfl
theorem MD {a ep:Nat} (e:σ a=some (.dct ep kvs)):BR (.str k) (.ref a) σ=some (kvs.any fun p=>p.1==k):=by
 have h1:C3 σ (.ref a)=none:=by show (match σ a with | some (.lst vs)=>some vs | some (.fin vs)=>some vs | _=>none)=_;rw[e]
 have h2:dictAt σ (.ref a)=some kvs:=Az e;have h3:BR (.str k) (.ref a) σ=match C3 σ (.ref a) with
   | some vs=>if vs.all V.isStr then some (vs.any fun x=>V.same x (.str k)) else none
   | none=>(dictAt σ (.ref a)).map fun kvs=>kvs.any fun p=>p.1==k:=by
  cases k with
  | nil=>rfl
  | cons c r=>cases r <;> rfl
 rw[h3,h1,h2];rfl
theorem C0 {vs:List (T × Nat)} {x y:T}:(vs++[(x,a)]).lookup y=match vs.lookup y with
  | some b=>some b
  | none=>if y=x then some a else none:=by
 induction vs with
 | nil =>
  rw[List.nil_append,List.lookup_cons];by_cases e:y=x
  ·subst e;simp
  ·have:(y==x)=false:=by simpa using e
   rw[this];simp[e]
 | cons p r ih =>
  obtain⟨p1,p2⟩:=p;rw[List.cons_append,List.lookup_cons,List.lookup_cons];cases y==p1
  ·exact ih
  ·rfl
theorem Nh {l:List T} (h:l.Nodup) (hn:∀x∈l,Ay x):l.length<=2:=by
 match l,h,hn with
 | [],_,_=>simp
 | [a],_,_=>simp
 | [a,b],_,_=>simp
 | a::b::c::r,h,hn =>
  have ha:=hn a (by simp);have hb:=hn b (by simp);have hc:=hn c (by simp);simp only[List.nodup_cons,List.mem_cons,not_or] at h;unfold Ay at ha hb hc;exfalso;rcases ha with ea | ea <;> rcases hb with eb | eb <;> rcases hc with ec | ec <;> first | exact h.1.1 (ea.trans eb.symm) | exact h.1.2.1 (ea.trans ec.symm) | exact h.2.1.1 (eb.trans ec.symm)
theorem OH {x:T} {H:HS} (hH:HostAt σ H) (hx:Ay x)
  (h:∀σ' H' a,HStep σ σ' H H'->H'.st=H.st->H'.vs.lookup x=some a->Q (.ref a) σ'):lev (n+2) false .var_in [.ref H.vd,.str x] σ Q E:=by
 refine Aq hH.dict fun ep hd=>?_;refine AD (m:=[some (.ref H.vd),some (.str x)]) rfl rfl rfl ?_;dsimp only[Jc];walk_at"w";refine Dl (r:=!(H.vs.lookup x).isSome) (by rw[MD hd,JN];simp) ?_;walk_at"w";refine AF (fun z=>?_) (fun z=>?_)
 ·obtain⟨a,hl⟩ : ∃a,H.vs.lookup x=some a:=Option.isSome_iff_exists.mp z;walk_at"w";refine By (Az hd) (x:=.ref a) (by rw[Ml,hl];rfl) ?_;walk_at"w";exact Ah (h σ H a (.refl hH) rfl hl)
 ·have hl:H.vs.lookup x=none:=by
   cases q:H.vs.lookup x with
   | none=>rfl
   | some a=>rw[q] at z;exact xTF z
  walk_at"w";refine⟨by decide,fun a ha=>?_⟩;refine LW (Aa _ _ _) (fun k at_ hk hv=>⟨rfl,?_⟩);rw[Aj];walk_at"w";have had:H.vd≠a:=Bg hd ha;refine B3 (by rw[Ab _ _ had];exact hd) (by rw[List.length_map,LIM];have:=hH.few.1;exact lin 1 0 [.l Z0 (.c 2)] (.l Z0 (.c 8000000)) [] R0 _ this) (fun ep'=>?_);have hput:Cf (H.vs.map fun p=>(p.1,V.ref p.2)) x (.ref a)=(H.vs++[(x,a)]).map fun p=>(p.1,V.ref p.2):=by
   unfold Cf;rw[JN,hl];simp
  rw[hput];walk_at"w";let H':HS:={ H with vs:=H.vs++[(x,a)] }
  have hoff:=hH.new_off ha;have hfresh:∀y b,H.vs.lookup y=some b->b≠a:=fun y b hy z=>hoff (z▸.inr (.inr ⟨y,hy⟩));have hst:HostAt ((σ.set a (.obj .var k at_)).set H.vd (.dct ep' (H'.vs.map fun p=>(p.1,V.ref p.2)))) H':=by
   refine⟨?_,⟨ep',Aa _ _ _⟩,?_,?_,?_,?_⟩
   ·refine Be hH.host fun n at' e r=>?_;refine BD n at' ?_ r;have:H.h≠H.vd:=fun z=>by rw[← z,e] at hd;cases hd
    show (Store.set _ _ _) H.h=_;rw[Ab _ _ this,Ab _ _ (Bg e ha)];exact e
   ·intro y b hy;have hy':(H.vs++[(x,a)]).lookup y=some b:=hy;rw[C0] at hy';cases hb:H.vs.lookup y with
    | some b' =>
     rw[hb] at hy';obtain rfl:=(xSS hy').symm;refine Cc (hH.var y b hb) fun n at' hn e r=>?_;refine AZ n at' hn ?_ r;have:b≠H.vd:=fun z=>by rw[z,hd] at e;cases e
     rw[Ab _ _ this,Ab _ _ (hfresh y b hb)];exact e
    | none =>
     rw[hb] at hy';dsimp only at hy';split at hy'
     ·rename_i z;obtain rfl:=xSS hy';subst z;refine AZ k at_ hk ?_ ?_
      ·rw[Ab _ _ (Ne.symm had)];exact Aa _ _ _
      ·show Kz at_ (H.st y);rw[hH.non y hl];exact hv
     ·exact xNS hy'
   ·intro y hy;have hy':(H.vs++[(x,a)]).lookup y=none:=hy;rw[C0] at hy';cases hb:H.vs.lookup y with
    | some b'=>rw[hb] at hy';exact xSN hy'
    | none=>exact hH.non y hb
   ·intro y z b hy hz;have hy':(H.vs++[(x,a)]).lookup y=some b:=hy;have hz':(H.vs++[(x,a)]).lookup z=some b:=hz;rw[C0] at hy' hz';cases h1:H.vs.lookup y with
    | some b1 =>
     rw[h1] at hy';obtain rfl:=(xSS hy').symm;cases h2:H.vs.lookup z with
     | some b2=>rw[h2] at hz';obtain rfl:=(xSS hz').symm;exact hH.inj y z b h1 h2
     | none =>
      rw[h2] at hz';dsimp only at hz';split at hz'
      ·obtain rfl:=xSS hz';exact absurd rfl (hfresh y _ h1)
      ·exact xNS hz'
    | none =>
     rw[h1] at hy';dsimp only at hy';split at hy'
     ·obtain rfl:=xSS hy';cases h2:H.vs.lookup z with
      | some b2=>rw[h2] at hz';obtain rfl:=xSS hz';exact absurd rfl (hfresh z _ h2)
      | none =>
       rw[h2] at hz';dsimp only at hz';split at hz'
       ·rename_i e1 e2;rw[e1,e2]
       ·exact xNS hz'
     ·exact xNS hy'
   ·have hn1:((H.vs++[(x,a)]).map Prod.fst).Nodup:=by
     rw[List.map_append,List.nodup_append];refine Bk hH.few.2.1 (by simp) (fun p hp q hq=>?_);simp at hq;subst hq;intro z;subst z;rw[List.mem_map] at hp;refine e1a2 hp fun p' hp' z1_=>?_;clear hp;subst z1_;have:=JN H.vs p'.1;rw[hl] at this;have h2:(H.vs.map fun p=>(p.1,V.ref p.2)).any (fun p=>p.1==p'.1)=true:=List.any_eq_true.mpr (Ai (p'.1,.ref p'.2) (List.mem_map.mpr (Ai p' hp' rfl)) (by simp));rw[h2] at this;exact xTF this
    have hn2:∀p∈H.vs++[(x,a)],Ay p.1:=by
     intro p hp;rw[List.mem_append] at hp;rcases hp with hp | hp
     ·exact hH.few.2.2 p hp
     ·simp at hp;subst hp;exact hx
    refine Bk ?_ hn1 hn2;have:=Nh hn1 (fun y hy=>by
     rw[List.mem_map] at hy;refine e1a2 hy fun p hp z2_=>?_;clear hy;subst z2_;exact hn2 p hp)
    rw[List.length_map] at this;exact this
  have hlk:H'.vs.lookup x=some a:=by
   show (H.vs++[(x,a)]).lookup x=_;rw[C0,hl];simp
  refine By (Az (Aa _ _ _)) (x:=.ref a) (by rw[Ml,hlk];rfl) ?_;walk_at"w";refine Ah (h _ H' a ⟨hst,rfl,fun b c hb e=>⟨?_,?_⟩⟩ rfl hlk)
  ·rw[Ab _ _ (fun z=>hb (.inr (.inl z))),Ab _ _ (Bg e ha)];exact e
  ·rintro(z | z | ⟨y,hy⟩)
   ·exact hb (.inl z)
   ·exact hb (.inr (.inl z))
   ·have hy':(H.vs++[(x,a)]).lookup y=some b:=hy;rw[C0] at hy';cases h1:H.vs.lookup y with
    | some b1=>rw[h1] at hy';obtain rfl:=xSS hy';exact hb (.inr (.inr ⟨y,h1⟩))
    | none =>
     rw[h1] at hy';dsimp only at hy';split at hy'
     ·obtain rfl:=xSS hy';rw[ha] at e;exact xNS e
     ·exact xNS hy'
theorem CF {H:HS} {q:Prop} (hH:HostAt σ H) (k:q):(∃a n at_,V.ref H.h=.ref a/\σ a=some (.obj .host n at_))/\q:=by
 refine Be hH.host fun n at_ e _=>?_;exact⟨(O0 H.h n at_ rfl e),k⟩
theorem JC {x:T} {H:HS} (hH:HostAt σ H) (hx:Ay x)
  (h:∀σ' H' a,HStep σ σ' H H'->H'.st=H.st->H'.vs.lookup x=some a->Q (.ref a) σ'):lev (n+3) false .sh_place [.ref H.h,.str x] σ Q E:=by
 refine Be hH.host fun k at_ e hv=>?_;refine AD (m:=[some (.ref H.h),some (.str x)]) rfl rfl rfl ?_;dsimp only[Gf];walk_at"w";refine Cy e hv ?_;walk_at"w";refine OH hH hx (fun σ' H' a hs he hl=>?_);walk_at"w";exact Ah (h σ' H' a hs he hl)
theorem SY {x:T} {H:HS} (hH:HostAt σ H)
  (h:Q (.bool (H.st x).1.isSome) σ):lev (n+1) false .sh_has [.ref H.h,.str x] σ Q E:=by
 refine Be hH.host fun k at_ e hv=>?_;refine Aq hH.dict fun ep hd=>?_;refine AD (m:=[some (.ref H.h),some (.str x)]) rfl rfl rfl ?_;dsimp only[I7];walk_at"w";refine Cy e hv ?_;refine inQ_of (r:=(H.vs.lookup x).isSome) (by rw[MD hd,JN]) ?_;walk_at"w";cases hl:H.vs.lookup x with
 | none =>
  rw[hH.non x hl] at h;walk_at"w";exact Ah h
 | some a =>
  refine Lh (hH.var x a hl) fun k2 at2 _ e2 hk _ _=>?_;refine ifQ_t ?_;walk_at"w";refine Cy e hv ?_;walk_at"w";refine By (Az hd) (x:=.ref a) (by rw[Ml,hl];rfl) ?_;refine Cy e2 hk ?_;walk_at"w";cases hs:(H.st x).1 with
  | none =>
   rw[hs] at h;exact Ah h
  | some t =>
   rw[hs] at h;exact Ah h
theorem Iq {x:T} (hx:Ay x) (h:∀e j at_,σ e=none->Q (.ref e) (σ.set e (.exc 0 j at_))) :
  lev (n+3) false .no_variable [.str [114,101,97,100],.str x] σ Q E:=by
 have hl:x.length=1:=by rcases hx with rfl | rfl <;> rfl
 refine AD (m:=[some (.str [114,101,97,100]),some (.str x),none]) rfl rfl rfl ?_;dsimp only[El];walk_at"w";refine Dm (f:=(_,[tx "TCL",tx "LOOKUP",tx "VARNAME",x])) (fun e j at_ he _=>?_);walk_at"w";exact Ah (h e j at_ he)
theorem Po {x:T} {H:HS} (hH:HostAt σ H) (hx:Ay x)
  (h:∀σ' H',HStep σ σ' H H'->H'.st=H.st->match (H.st x).1 with
   | some t=>Q (.str t) σ'
   | none=>∀e k at_,σ' e=none->E e (σ'.set e (.exc 1 k at_))):lev (n+5) false .sh_read [.ref H.h,.str x] σ Q E:=by
 refine AD (m:=[some (.ref H.h),some (.str x)]) rfl rfl rfl ?_;dsimp only[HK];walk_at"w";refine CF hH ?_;walk_at"w";refine CF hH ?_;walk_at"w";refine JC hH hx (fun σ' H' a hs he hl=>?_);have hq:=h σ' H' hs he;refine Lh (hs.at_.var x a hl) fun k2 at2 _ e2 hk hv _=>?_;rw[he] at hk hv;walk_at"w";refine AD (m:=[some (.ref H.h),some (.ref a),some (.str x)]) rfl rfl rfl ?_;dsimp only[Ep];walk_at"w";refine Cy e2 hk ?_;walk_at"w";cases hst:(H.st x).1 with
 | none =>
  rw[hst] at hq;refine Af (fun _=>?_) (fun z=>absurd rfl z);walk_at"w";refine Iq hx (fun e j at_ he=>?_);refine Kn e j at_ rfl (Aa _ _ _) ?_;refine(?_:dropE _ _ _);rw[Aj];exact FH (Aa _ _ _) (Nat.le_refl _) (FH (Aa _ _ _) (Nat.le_refl _) (hq e j at_ he))
 | some t =>
  rw[hst] at hq hv;refine Af (fun z=>absurd z (by simp)) (fun _=>?_);walk_at"w";refine Cy e2 hv ?_;walk_at"w";exact Ah (Ah hq)
theorem Hb {a k:Nat} {c:Cls} {n:T} {x:V} {Q:Store->Prop} (e:σ a=some (.obj c k at_)) (hk:k<=100) (hs:(at_.lookup n).isSome=true) (h:Q (σ.set a (.obj c k (Cf at_ n x)))):setASem (.ref a) n x σ Q:=.obj e hk (by rw[if_pos hs];exact h)
noncomputable def DR (st:T->Option T × Nat) (x t:T):T->Option T × Nat:=fun y=>if y=x then (some t,(st x).2+1) else st y
theorem Fp {x t:T} {H:HS} (hH:HostAt σ H) (hx:Ay x)
  (h:∀σ' H',HStep σ σ' H H'->H'.st=DR H.st x t->Q (.str t) σ'):lev (n+5) false .sh_write [.ref H.h,.str x,.str t] σ Q E:=by
 refine AD (m:=[some (.ref H.h),some (.str x),some (.str t)]) rfl rfl rfl ?_;dsimp only[Gy];walk_at"w";refine CF hH ?_;walk_at"w";refine CF hH ?_;walk_at"w";refine JC hH hx (fun σ' H' a hs he hl=>?_);refine Lh (hs.at_.var x a hl) fun k2 at2 hk2 e2 hk hv hw=>?_;walk_at"w";refine AD (m:=[some (.ref H.h),some (.ref a),some (.str x),some (.str t)]) rfl rfl rfl ?_;dsimp only[Ed];walk_at"w";refine AD (m:=[some (.ref a),some (.str [115,99,97,108,97,114]),some (.str t)]) rfl rfl rfl ?_;dsimp only[Fd];walk_at"w";refine Hb e2 (by exact U30 _ hk2) (by rw[hk];rfl) ?_;walk_at"w";refine Hb (Aa _ _ _) (by exact U30 _ hk2) (by rw[CI _ _ (by decide),hv];rfl) ?_;rw[Aj];walk_at"w";refine Cy (Aa _ _ _) (by rw[CI _ _ (by decide),CI _ _ (by decide)];exact hw) ?_;walk_at"w";refine Hb (Aa _ _ _) (by exact U30 _ hk2) (by rw[CI _ _ (by decide),CI _ _ (by decide),hw];rfl) ?_;rw[Aj];walk_at"w";have hoff:∀b,(∃y,y≠x/\H'.vs.lookup y=some b)∨b=H'.h∨b=H'.vd->b≠a:=by
  rintro b (⟨y,hy,hb⟩ | rfl | rfl) z
  ·subst z;exact hy (hs.at_.inj y x b hb hl)
  ·refine Be hs.at_.host fun n at_ e _=>?_;rw[z,e2] at e;cases e
  ·refine Aq hs.at_.dict fun ep e=>?_;rw[z,e2] at e;cases e
 have hst:HostAt (σ'.set a (.obj .var k2 (Cf (Cf (Cf at2 [107,105,110,100] (.str [115,99,97,108,97,114])) [118,97,108,117,101] (.str t)) [119,114,105,116,101,115] (.int (((H'.st x).2:Nat)+1))))) { H' with st:=DR H.st x t }:=by
  refine⟨?_,?_,?_,?_,hs.at_.inj,hs.at_.few⟩
  ·refine Be hs.at_.host fun n at_ e r=>?_;exact BD n at_ (by show (Store.set _ _ _) H'.h=_;rw[Ab _ _ (hoff _ (.inr (.inl rfl)))];exact e) r
  ·refine Aq hs.at_.dict fun ep e=>?_;exact⟨ep,by show (Store.set _ _ _) H'.vd=_;rw[Ab _ _ (hoff _ (.inr (.inr rfl)))];exact e⟩
  ·intro y b hy;by_cases hyx:y=x
   ·subst hyx;have:b=a:=by
     have hy':H'.vs.lookup y=some b:=hy;rw[hl] at hy';obtain rfl:=xSS hy';rfl
    subst this;refine AZ k2 _ hk2 (Aa _ _ _) ?_;show Kz _ (DR H.st y t y);unfold DR;rw[if_pos rfl];refine Bk ?_ ?_ ?_
    ·rw[CI _ _ (by decide),CI _ _ (by decide),C9];rfl
    ·rw[CI _ _ (by decide),C9];rfl
    ·rw[C9,he];rfl
   ·refine Cc (hs.at_.var y b hy) fun n at_ hn e r=>?_;refine AZ n at_ hn (by rw[Ab _ _ (hoff _ (.inl (Ai y hyx hy)))];exact e) ?_;show Kz _ (DR H.st x t y);unfold DR;rw[if_neg hyx,← he];exact r
  ·intro y hy;have hyx:y≠x:=fun z=>by
    subst z;have hy':H'.vs.lookup y=none:=hy;rw[hl] at hy';exact xSN hy'
   show DR H.st x t y=_;unfold DR;rw[if_neg hyx,← he];exact hs.at_.non y hy
 refine Ah (Ah (Ah (h _ { H' with st:=DR H.st x t } ⟨hst,hs.h,fun b c hb e=>?_⟩ rfl)));have z0_:=hs.kept b c hb e;have e':=z0_.1;have f':=z0_.2;clear z0_;refine⟨?_,f'⟩;rw[Ab _ _ (show b≠a from fun z=>f' (z▸.inr (.inr ⟨x,hl⟩)))];exact e'
end
section
noncomputable def Keep (a:Nat) (σ τ:Store):Prop:=∀b c,b≠a->σ b=some c->τ b=some c
theorem Keep.refl (a:Nat) (σ:Store):Keep a σ σ:=fun _ _ _ e=>e
theorem Keep.new {a d:Nat} {σ τ:Store} {c:Cell} (h:Keep a σ τ) (hd:τ d=none):Keep a σ (τ.set d c):=fun b c hb e=>Ar (h b c hb e) hd
theorem Bi {σ τ:Store} {a k:Nat} {c:Cls} {n:T} {x:V} {Q:Store->Prop} (e:τ a=some (.obj c k at_)) (hk:k<=100) (keep:Keep a σ τ) (h:∀τ' k',k'<=k+1->τ' a=some (.obj c k' (Cf at_ n x))->Keep a σ τ'->Q τ'):setASem (.ref a) n x τ Q:=
 CU e hk fun k' hk'=>h _ k' hk' (Aa _ _ _) fun b c hb e=>by rw[Ab _ _ hb];exact keep b c hb e
theorem KH {n a:Nat} {l f:V} (ha:σ a=some (.obj .host 0 [])) (h:∀τ k at_,k<=20->τ a=some (.obj .host k at_)->Keep a σ τ->Q .none τ) :
  lev (n+1) false .host_init [.ref a,l,f] σ Q E:=by
 refine AD (m:=[some (.ref a),some l,some f]) rfl rfl rfl ?_;dsimp only[Fu];walk_at"w";intro d1 ep1 hd1;walk_at"w";refine Bi (Ar ha hd1) (by decide) ((Keep.refl a σ).new hd1) (fun τ1 k1 h1 e1 p1=>?_);walk_at"w";intro d2 ep2 hd2;walk_at"w";refine Bi (Ar e1 hd2) (by exact U89 _ h1) (p1.new hd2) (fun τ2 k2 h2 e2 p2=>?_);walk_at"w";refine Bi e2 (by exact U90 _ _ h1 h2) p2 (fun τ3 k3 h3 e3 p3=>?_);walk_at"w";refine Bi e3 (by exact U91 _ _ _ h1 h3 h2) p3 (fun τ4 k4 h4 e4 p4=>?_);walk_at"w";refine Bi e4 (by exact U92 _ _ _ _ h1 h4 h2 h3) p4 (fun τ5 k5 h5 e5 p5=>?_);walk_at"w";refine Bi e5 (by exact U93 _ _ _ _ _ h1 h5 h2 h3 h4) p5 (fun τ6 k6 h6 e6 p6=>?_);walk_at"w";refine Bi e6 (by exact lin 6 0 [.l Z0 (.a (.c 0) (.c 1)),.l Z1 (.a Z2 (.c 1)),.l Z3 (.a Z0 (.c 1)),.l Z4 (.a Z3 (.c 1)),.l Z5 (.a Z4 (.c 1)),.l Z2 (.a Z5 (.c 1))] (.l Z1 (.c 100)) [] R0 _ _ _ _ _ _ h1 h6 h2 h3 h4 h5) p6 (fun τ7 k7 h7 e7 p7=>?_);walk_at"w";refine Bi e7 (by exact lin 7 0 [.l Z0 (.a (.c 0) (.c 1)),.l Z1 (.a Z2 (.c 1)),.l Z3 (.a Z0 (.c 1)),.l Z4 (.a Z3 (.c 1)),.l Z5 (.a Z4 (.c 1)),.l Z6 (.a Z5 (.c 1)),.l Z2 (.a Z6 (.c 1))] (.l Z1 (.c 100)) [] R0 _ _ _ _ _ _ _ h1 h7 h2 h3 h4 h5 h6) p7 (fun τ8 k8 h8 e8 p8=>?_);walk_at"w";refine Bi e8 (by exact lin 8 0 [.l Z0 (.a (.c 0) (.c 1)),.l Z1 (.a Z2 (.c 1)),.l Z3 (.a Z0 (.c 1)),.l Z4 (.a Z3 (.c 1)),.l Z5 (.a Z4 (.c 1)),.l Z6 (.a Z5 (.c 1)),.l Z7 (.a Z6 (.c 1)),.l Z2 (.a Z7 (.c 1))] (.l Z1 (.c 100)) [] R0 _ _ _ _ _ _ _ _ h1 h8 h2 h3 h4 h5 h6 h7) p8 (fun τ9 k9 h9 e9 p9=>?_);walk_at"w";exact Ah (h τ9 k9 _ (by exact lin 9 0 [.l Z0 (.a (.c 0) (.c 1)),.l Z1 (.a Z2 (.c 1)),.l Z3 (.a Z0 (.c 1)),.l Z4 (.a Z3 (.c 1)),.l Z5 (.a Z4 (.c 1)),.l Z6 (.a Z5 (.c 1)),.l Z7 (.a Z6 (.c 1)),.l Z8 (.a Z7 (.c 1)),.l Z2 (.a Z8 (.c 1))] (.l Z1 (.c 20)) [] R0 _ _ _ _ _ _ _ _ _ h1 h9 h2 h3 h4 h5 h6 h7 h8) e9 p9)
noncomputable def Ig (a vd:Nat):HS:=⟨a,vd,[],fun _=>(none,0)⟩
theorem Nc {n a:Nat} (ha:σ a=some (.obj .host 0 [])) (h:∀τ vd,HostAt τ (Ig a vd)->(∀b c,b≠a->σ b=some c->τ b=some c/\b≠vd)->Q .none τ) :
  lev (n+2) false .sh_init [.ref a] σ Q E:=by
 refine AD (m:=[some (.ref a),some (.int 40),some .none]) rfl rfl rfl ?_;dsimp only[Hd];walk_at"w";refine KH ha (fun τ0 k0 at0 h0 e0 p0=>?_);walk_at"w";intro vd ep1 hd1;have hav:a≠vd:=Bg e0 hd1;walk_at"w";refine Bi (Ar e0 hd1) (by exact lin 1 0 [.l Z0 (.c 20)] (.l Z0 (.c 100)) [] R0 _ h0) ((Keep.refl a _)) (fun τ1 k1 h1 e1 p1=>?_);walk_at"w";intro d2 ep2 hd2;walk_at"w";refine Bi (Ar e1 hd2) (by exact lin 2 0 [.l Z0 (.a Z1 (.c 1)),.l Z1 (.c 20)] (.l Z0 (.c 100)) [] R0 _ _ h1 h0) (p1.new hd2) (fun τ2 k2 h2 e2 p2=>?_);walk_at"w";intro d3 ep3 hd3;walk_at"w";refine Bi (Ar e2 hd3) (by exact lin 3 0 [.l Z0 (.a Z1 (.c 1)),.l Z1 (.a Z2 (.c 1)),.l Z2 (.c 20)] (.l Z0 (.c 100)) [] R0 _ _ _ h2 h1 h0) (p2.new hd3) (fun τ3 k3 h3 e3 p3=>?_);walk_at"w";refine Ah (h τ3 vd ⟨(BD k3 _ e3 ?_),⟨ep1,p3 vd _ (Ne.symm hav) (Aa _ _ _)⟩,fun x b hx=>(by exact xNS hx),fun x _=>rfl,fun x y b hx=>(by exact xNS hx),(Bk (Nat.zero_le _) List.nodup_nil (fun p hp=>(by cases hp)))⟩ (fun b c hb e=>⟨?_,?_⟩))
 ·rw[CI _ _ (by decide),CI _ _ (by decide)];exact C9 _ _ _
 ·exact p3 b c hb (Ar (p0 b c hb e) hd1)
 ·exact Bg (p0 b c hb e) hd1
theorem Qa {x:T} {H:HS} (hH:HostAt σ H) (hx:Ay x)
  (h:∀σ' H',HStep σ σ' H H'->H'.st=H.st->Q (.int ((H.st x).2:Nat)) σ'):lev (n+4) false .sh_stamp [.ref H.h,.str x] σ Q E:=by
 refine AD (m:=[some (.ref H.h),some (.str x)]) rfl rfl rfl ?_;dsimp only[Ga];walk_at"w";refine CF hH ?_;walk_at"w";refine JC hH hx (fun σ' H' a hs he hl=>?_);refine Lh (hs.at_.var x a hl) fun k2 at2 _ e2 _ _ hw=>?_;rw[he] at hw;refine Cy e2 hw ?_;walk_at"w";exact Ah (h σ' H' hs he)
noncomputable def Ds:Option T->V
 | none=>.none
 | some t=>.str t
theorem Lu {x:T} {H:HS} (hH:HostAt σ H) (hx:Ay x)
  (h:∀σ' H',HStep σ σ' H H'->H'.st=H.st->Q (Ds (H.st x).1) σ'):lev (n+6) false .value_of [.ref H.h,.str x] σ Q E:=by
 refine AD (m:=[some (.ref H.h),some (.str x)]) rfl rfl rfl ?_;dsimp only[Gg];walk_at"w";refine CF hH ?_;walk_at"w";refine Po hH hx (fun σ' H' hs he=>?_);have hq:=h σ' H' hs he;cases hst:(H.st x).1 with
 | some t =>
  rw[hst] at hq;dsimp only;walk_at"w";exact Ah hq
 | none =>
  rw[hst] at hq;intro e k at_ he;walk_at"w";exact AB (SubS.new he) hq
theorem Dy {x:T} {H:HS} (hH:HostAt σ H) (hx:Ay x)
  (h:∀σ' H',HStep σ σ' H H'->H'.st=H.st->Q (.str ((H.st x).1.getD [])) σ'):lev (n+7) false .text_in [.ref H.h,.str x] σ Q E:=by
 refine AD (m:=[some (.ref H.h),some (.str x),none]) rfl rfl rfl ?_;dsimp only[Hw];walk_at"w";refine Lu hH hx (fun σ' H' hs he=>?_);have hq:=h σ' H' hs he;cases hst:(H.st x).1 with
 | some t =>
  rw[hst] at hq;unfold Ds;walk_at"w";exact Ah hq
 | none =>
  rw[hst] at hq;unfold Ds;walk_at"w";exact Ah hq
end
section
noncomputable def FD (u:T):AG:=(tx "wrong # args: should be \""++u++tx "\"",[tx "TCL",tx "WRONGARGS"])
theorem Cd {u:T} (hl:u.length<=1000) (h:∀e j at_,σ e=none->FaultAt at_ (FD u)->Q (.ref e) (σ.set e (.exc 0 j at_))) :
  lev (n+3) false .wrong_args [.str u] σ Q E:=by
 refine AD (m:=[some (.str u)]) rfl rfl rfl ?_;dsimp only[EH];walk_at"w";refine Dm (f:=FD u) (fun e j at_ he hf=>?_);walk_at"w";exact Ah (h e j at_ he hf)
noncomputable def BK (t k:T) (more:List T):Except AG T:=match Ap t with
 | .error f=>.error f
 | .ok ps=>if more=[]/\(ps.lookup k).isSome=true then .ok t else .ok (AE (AK ps k ((ps.lookup k).getD []++AR [] more)))
noncomputable def Bq (t k:T) (more:List T):Except AG T:=match Ap t with
 | .error f=>.error f
 | .ok ps=>match ps.lookup k with
  | none=>.ok (AE (AK ps k (DY more)))
  | some old=>if more=[] then .ok (AE ps) else match A0 old with
   | .error e=>.error (AH e)
   | .ok xs=>.ok (AE (AK ps k (DY (xs++more))))
noncomputable def D4 (t k b:T):Except AG T:=match Ap t with
 | .error f=>.error f
 | .ok ps=>match ps.lookup k with
  | none=>match AN b with
   | none=>.error (BI b)
   | some _=>.ok (AE (AK ps k b))
  | some old=>match AN old with
   | none=>.error (BI old)
   | some z=>match AN b with
    | none=>.error (BI b)
    | some w=>.ok (AE (AK ps k (Cu (z+w))))
noncomputable def C2 (t:T) (ks:List T) (v:T):Except AG T:=match Ap t with
 | .error f=>.error f
 | .ok ps=>(Cq ps ks v).map AE
noncomputable def Bh (t:T) (ks:List T):Except AG T:=match Ap t with
 | .error f=>.error f
 | .ok ps=>(AP ps ks).map AE
noncomputable def IC (σ:Store) (H:HS) (x:T) (r:Except AG T) (Q:QV) (E:QE):Prop:=∀σ' H',HStep σ σ' H H'->match r with
 | .ok t=>H'.st=DR H.st x t->Q (.str t) σ'
 | .error f=>H'.st=H.st->RaisesA σ' E f
theorem HStep.sub {σ τ:Store} {H:HS} (x:HostAt σ H) (k:SubS σ τ):HStep σ τ H H:=⟨x.sub fun a c _ e=>k a c e,rfl,fun b d hb e=>⟨k b d e,hb⟩⟩
theorem RS {a ep:Nat} {d:V} (e:σ a=some (.dct ep kvs)) (h:Q ((Da kvs k).getD d) σ):bmSem .get (.ref a) [.str k,d] σ Q:=.get e h
theorem Qb {a ep:Nat} {q:Prop} (e:σ a=some (.dct ep kvs)) (k:q):Hg .get (.ref a) σ/\q:=⟨.get (Az e),k⟩
theorem Ch {N:Nat} (h:DOk N ps):ps.length<=N:=by
 have h4:=Cs ps;have h5:=Ba (Ao ps);have h6:=Bt (Ao ps);have:=h.wt;exact lin 6 0 [.e (.a Z0 Z1) Z2,.e (.m 2 Z3) Z1,.l Z4 Z5,.l Z2 Z4] (.l Z3 Z5) [[1,0,1,0,1,1,1]] R0 _ _ _ _ _ _ h5 h4 this h6
noncomputable def B7 (x:T):Prop:=good x/\x.length<=30
theorem H4 {l:List T} (h:∀x∈l,x.length<=30):(l.map List.length).sum<=30*l.length:=by
 induction l with
 | nil=>simp
 | cons y r ih =>
  rw[List.map_cons,List.sum_cons,List.length_cons];have:=h y (.head _);have:=ih fun x hx=>h x (.tail _ hx);exact lin 3 0 [.l Z0 (.c 30),.l Z1 (.m 30 Z2)] (.l (.a Z0 Z1) (.m 30 (.a Z2 (.c 1)))) [] R0 _ _ _ (by assumption) this
theorem D6 (l:List T):(AR [] l).length=(l.map List.length).sum:=by
 match l with
 | []=>rfl
 | [x]=>simp[AR]
 | x::y::r =>
  rw[AR,List.length_append,List.length_append,D6 (y::r)];simp
theorem Iv {n w:Nat} {w0 w1 x k:T} {more:List T} {H:HS} (hH:HostAt σ H) (hx:Ay x) (hw:Ag σ (.ref w)=some (Ae (w0::w1::x::k::more))) (hwf:¬H.foot w)
  (hm:more.length<=10) (hmo:∀y∈more,B7 y) (hk:B7 k) (ht:TOk ((H.st x).1.getD [])) (hgj:∀ps,Ap ((H.st x).1.getD [])=.ok ps->good ((ps.lookup k).getD []++AR [] more)) (h:IC σ H x (BK ((H.st x).1.getD []) k more) Q E) :
  lev (n+8) false .dict_append [.ref H.h,.ref w] σ Q E:=by
 refine AD (m:=[some (.ref H.h),some (.ref w),none,none,none]) rfl rfl rfl ?_;dsimp only[CO];have hwl:(Ae (w0::w1::x::k::more)).length<=LIM:=by rw[Ad,LIM];simp;exact U94 _ hm
 walk_at"w";walk_at"w";refine Ak (j:=2) hw hwl (by decide) (Am (x:=x) rfl) ?_;walk_at"w";refine Dy hH hx (fun σ1 H1 hs1 he1=>?_);generalize htt:(H.st x).1.getD []=t at *;have hw1:Ag σ1 (.ref w)=some (Ae (w0::w1::x::k::more)):=by
  obtain⟨c,hc,hcc⟩ : ∃c,σ w=some c/\(c=.lst (Ae (w0::w1::x::k::more))∨c=.fin (Ae (w0::w1::x::k::more))):=by
   unfold Ag at hw;dsimp only at hw;cases q:σ w with
   | none=>rw[q] at hw;exact xNS hw
   | some c=>rw[q] at hw;cases c <;> simp at hw <;> exact Ai _ rfl (by simp[hw])
  have z0_:=hs1.kept w c hwf hc;have e1:=z0_.1;clear z0_;rcases hcc with rfl | rfl
  ·exact Ac e1
  ·exact HO e1
 walk_at"w";refine D2 ht.ok (Nat.le_trans ht.len (by decide)) (fun ps hp d ep hd=>?_) (fun f hp=>?_)
 ·have hdk:=ht.pairs hp;have hw2:∀c,Ag (σ1.set d c) (.ref w)=some (Ae (w0::w1::x::k::more)):=fun c=>Al hw1 (SubS.new hd);have hgood:=hgj ps hp;unfold BK at h;rw[hp] at h;dsimp only at h;have fin:∀(τ:Store) (t':T),SubS σ1 τ->(∀σ' H',HStep σ σ' H H'->H'.st=DR H.st x t'->Q (.str t') σ')->G0 (lev (n+7)) none
    (.cons (.ret (.meth .sh_write [119,114,105,116,101] (.var 0) (.cons (.idx (.var 1) (.cInt 2)) (.cons (.var 2) .nil)))) .nil) (FL Q) (Es E) .next
    [some (.ref H.h),some (.ref w),some (.str t'),some (.ref d),some (.str k)] τ:=by
   intro τ t' hsub hq;have hst:=hs1.trans (HStep.sub hs1.at_ hsub);have hh:H.h=H1.h:=hs1.h.symm;walk_at"w";rw[hh];refine CF hst.at_ ?_;walk_at"w";refine Ak (j:=2) (Al hw1 hsub) hwl (by decide) (Am (x:=x) rfl) ?_;walk_at"w";refine Fp hst.at_ hx (fun σ2 H2 hs2 he2=>?_);walk_at"w";exact Ah (hq σ2 H2 (hst.trans hs2) (by rw[he2,he1]))
  walk_at"w";refine Ak (j:=3) (hw2 _) hwl (by decide) (Am (x:=k) rfl) ?_;walk_at"w";refine len_ref (hw2 _) hwl ?_;walk_at"w";have put:¬(more=[]/\(ps.lookup k).isSome=true)->ws (lev (n+7)) none
    (.cons (.setI (.var 3) (.var 4) (.bin .add (.bm .get (.var 3) (.cons (.var 4) (.cons (.cStr []) .nil))) (.bm .join (.cStr []) (.cons (.slc (.var 1) (.cInt 4) .no) .nil))))
    (.cons (.asg 2 (.call .text_of_dict (.cons (.var 3) .nil))) .nil))
    [some (.ref H.h),some (.ref w),some (.str t),some (.ref d),some (.str k)] (σ1.set d (.dct ep (vp ps)))
    (G0 (lev (n+7)) none (.cons (.ret (.meth .sh_write [119,114,105,116,101] (.var 0) (.cons (.idx (.var 1) (.cInt 2)) (.cons (.var 2) .nil)))) .nil) (FL Q) (Es E))
    (Es E):=by
   intro hc;rw[if_neg hc] at h;walk_at"w";refine Qb (Aa _ _ _) ?_;walk_at"w";refine RS (Aa _ _ _) ?_;rw[HH];have hold:((ps.lookup k).map V.str).getD (.str [])=.str ((ps.lookup k).getD []):=by cases ps.lookup k <;> rfl
   rw[hold];walk_at"w";refine BJ (lo:=some ((4:Nat):Int)) (hi:=none) rfl rfl (hw2 _) hwl ?_;rw[D0];refine AL (by rw[List.length_drop,Ad,LIM];simp;exact U6 _ hm) (fun b hb=>?_);have hbd:d≠b:=Bg (Aa _ _ _) hb;have hsum:=H4 fun y hy=>(hmo y hy).2;walk_at"w";refine CD (ts:=more) (Ac (Aa _ _ _)) (DD more) (by decide) (by rw[LIM];exact U31 _ _ hm hsum) ?_;have hol:((ps.lookup k).getD []).length<=3401:=by
    cases hl:ps.lookup k with
    | none=>simp
    | some old=>have:=(hdk.mem hl).2;simp;exact lin 1 0 [.l (.a Z0 (.c 1)) (.c 3401)] (.l Z0 (.c 3401)) [] R0 _ this
   have hjl:=D6 more;refine bs_add_str (by rw[LIM,hjl];exact lin 3 0 [.l Z0 (.c 10),.l Z1 (.c 3401),.l Z2 (.m 30 Z0)] (.l (.a Z1 Z2) (.c 8000000)) [[30,1,1,1]] R0 _ _ _ hm hol hsum) ?_;walk_at"w";refine B3 (by rw[Ab _ _ hbd];exact Aa _ _ _) (by rw[DH,LIM];have:=Ch hdk;exact U14 _ this) (fun ep'=>?_);rw[Ei];walk_at"w";have hput:=(hdk.put hk.1 hgood).mono (M:=100000) (by have:=hk.2;rw[List.length_append,hjl];exact lin 4 0 [.l Z0 (.c 10),.l Z1 (.c 30),.l Z2 (.c 3401),.l Z3 (.m 30 Z0)] (.l (.a (.a (.a (.c 3401) Z1) (.a Z2 Z3)) (.c 6)) (.c 100000)) [[30,1,1,1,1]] R0 _ _ _ _ hm this hol hsum);refine Ce (Aa _ _ _) hput ?_;walk_at"w";exact fin _ _ (SubS.turn ((SubS.new hd).trans (SubS.new hb)) hd) h
  refine Af (fun z=>?_) (fun z=>?_)
  ·walk_at"w";exact put fun hc=>by rw[hc.1,Ad] at z;simp at z
  ·have hm0:more=[]:=by
    rw[Ad] at z;simp at z;exact List.length_eq_zero_iff.mp (by exact U95 _ z)
   walk_at"w";cases hl:ps.lookup k with
   | none =>
    refine Dl (r:=true) (by rw[De (Aa _ _ _),hl];rfl) ?_;walk_at"w";exact put fun hc=>by rw[hl] at hc;exact xFT hc.2
   | some old =>
    rw[if_pos ⟨hm0,by rw[hl];rfl⟩] at h;refine Dl (r:=false) (by rw[De (Aa _ _ _),hl];rfl) ?_;walk_at"w";exact fin _ _ (SubS.new hd) h
 ·have hh:BK t k more=.error f:=by unfold BK;rw[hp]
  rw[hh] at h;exact(h σ1 H1 hs1 he1).sub (SubS.refl _)
end
section
noncomputable def Kp:T:=[48,49,50,51,52,53,54,55,56,57]
theorem Pc {d:Nat} (h:d < 10):(Nat.digitChar d).toNat∈Kp:=by
 have:∀d,d < 10->(Nat.digitChar d).toNat∈Kp:=by decide
 exact this d h
theorem Fq:∀(fuel n:Nat) (acc:List Char),(∀c∈acc,c.toNat∈Kp)->∀c∈Nat.toDigitsCore 10 fuel n acc,c.toNat∈Kp:=by
 intro fuel;induction fuel with
 | zero=>intro n acc h;exact h
 | succ f ih =>
  intro n acc h;rw[Nat.toDigitsCore];have hd:=Pc (Nat.mod_lt n (show 0 < 10 by decide));split
  ·intro c hc;rcases List.mem_cons.mp hc with rfl | hc
   ·exact hd
   ·exact h c hc
  ·exact ih _ _ fun c hc=>by
    rcases List.mem_cons.mp hc with rfl | hc
    ·exact hd
    ·exact h c hc
theorem NM (n:Nat):∀c∈(Nat.repr n).toList,c.toNat∈Kp:=by
 unfold Nat.repr;intro c hc;have:c∈Nat.toDigits 10 n:=by simpa using hc
 exact Fq _ _ [] (fun c hc=>by cases hc) c this
theorem Mb (n:Nat):Cu (Int.negSucc n)=45::(Nat.repr (n+1)).toList.map Char.toNat:=by
 unfold Cu;show (("-"++Nat.repr (n+1)).toList).map Char.toNat=_;rw[String.toList_append];rfl
theorem KZ:∀(l:T) (s:AS),(∀c∈l,c∈Kp)->∃f,run s l=some (s.1,s.2.1,f):=by
 intro l;induction l with
 | nil=>intro s _;exact⟨s.2.2,rfl⟩
 | cons c r ih =>
  intro s h;have hc:=h c (.head _);have hst:stp s c=some (s.1,s.2.1,false):=
   UQ ((by decide:∀c∈Kp,c≠32/\c≠123/\c≠125/\c≠98/\c∈Cp) c hc) PO
  refine Aq (ih (s.1,s.2.1,false) fun d hd=>h d (.tail _ hd)) fun f hf=>?_;exact⟨f,by rw[run,hst,Option.bind_some,hf]⟩
theorem My (n:Nat):∀c∈(Nat.repr n).toList.map Char.toNat,c∈Kp:=by
 intro c hc;rw[List.mem_map] at hc;refine e1a2 hc fun d hd z1_=>?_;clear hc;subst z1_;exact NM n d hd
theorem Eh (i:Int):good (Cu i):=by
 cases i with
 | ofNat n=>exact KZ _ (0,0,true) (My n)
 | negSucc n =>
  rw[Mb];refine Aq (KZ ((Nat.repr (n+1)).toList.map Char.toNat) (0,0,false) (My (n+1))) fun f hf=>?_;exact⟨f,by rw[run];exact hf⟩
theorem Ht {i:Int} {k:Nat} (hk:0 < k) (h:i.natAbs < 10 ^ k):(Cu i).length<=k+1:=by
 have:=PySem.int_text_length_le10 hk h;unfold Cu;rw[List.length_map,String.length_toList];exact this
theorem Pv {base:Int} (h:¬(BV c < 0∨base<=BV c)):0<=BV c/\BV c < base:=by exact lin 0 2 [.n (.o (.T (.v 0) (.c 0)) (.L (.v 1) (.v 0)))] (.a (.L (.c 0) (.v 0)) (.T (.v 0) (.v 1))) [[1,0,1],[0,1,1]] R0 _ _ h
theorem KD {base:Int} (hb:0 < base) (hb2:base<=16):∀(s:T) (a v:Int) (n:Nat),0<=a->a < 16 ^ n->dv base a s=some v->0<=v/\v < 16 ^ (n+s.length):=by
 intro s;induction s with
 | nil=>intro a v n h0 h1 h;obtain rfl:=xSS h;exact⟨h0,by simpa using h1⟩
 | cons c r ih =>
  intro a v n h0 h1 h;rw[dv] at h;split at h
  ·exact xNS h
  ·rename_i hc;have hd:=Pv hc;have h2:a*base+BV c < 16 ^ (n+1):=by
    rw[Int.pow_succ];have e1:a*base<=a*16:=Int.mul_le_mul_of_nonneg_left hb2 h0;have e2:a*base+base<=a*16+16:=by exact lin 0 3 [.L (.v 0) (.c 16),.L (.v 1) (.r (.v 2) 16)] (.L (.a (.v 1) (.v 0)) (.a (.r (.v 2) 16) (.c 16))) [] R0 _ _ _ hb2 e1
    have e3:a+1<=16 ^ n:=h1;have e4:(a+1)*16<=16 ^ n*16:=Int.mul_le_mul_of_nonneg_right e3 (by decide);exact lin 0 5 [.L (.a (.v 0) (.v 1)) (.a (.r (.v 2) 16) (.c 16)),.T (.v 2) (.v 3),.n (.o (.T (.v 4) (.c 0)) (.L (.v 1) (.v 4)))] (.T (.a (.v 0) (.v 4)) (.r (.v 3) 16)) [[1,16,0,1,1]] R0 _ _ _ _ _ e2 h1 hc
   have:=ih _ v (n+1) (by have:=Int.mul_nonneg h0 (Int.le_of_lt hb);exact lin 0 3 [.L (.c 0) (.v 0),.n (.o (.T (.v 1) (.c 0)) (.L (.v 2) (.v 1)))] (.L (.c 0) (.a (.v 0) (.v 1))) [[1,1,0,1]] R0 _ _ _ this hc) h2 h;rw[List.length_cons,show n+(r.length+1)=n+1+r.length from by exact lin 2 0 [] (.e (.a Z0 (.a Z1 (.c 1))) (.a (.a Z0 (.c 1)) Z1)) [] R0 _ _];exact this
theorem L8 {r:T} {v:Int} (h:FR r=some v):0<=v/\v < 16 ^ r.length:=by
 unfold FR at h;split at h
 ·have:=KD (by decide) (by decide) _ 0 v 0 (by decide) (by decide) h;refine⟨this.1,Int.lt_of_lt_of_le this.2 ?_⟩;rw[Nat.zero_add,List.length_drop]
  exact_mod_cast Nat.pow_le_pow_right (by decide) (by omega)
 ·split at h
  ·exact xNS h
  ·have:=KD (by decide) (by decide) _ 0 v 0 (by decide) (by decide) h
   rwa [Nat.zero_add] at this
theorem FU (t:T):(AQ t).length<=t.length:=by
 unfold AQ;rw[List.length_reverse];refine Nat.le_trans (List.dropWhile_sublist _).length_le ?_;rw[List.length_reverse];exact(List.dropWhile_sublist _).length_le
theorem F6 {v:Int} (h:AN t=some v):v.natAbs < 16 ^ t.length:=by
 unfold AN at h;rw[Option.map_eq_some_iff] at h;refine e1a2 h fun z hz e=>?_;clear h;have hb:=L8 hz;have hs:(Bc (AQ t)).2.length<=t.length/\((Bc (AQ t)).1=1∨(Bc (AQ t)).1=-1):=by
  have:=FU t;unfold Bc;split
  ·rename_i e;rw[e] at this;exact⟨by simp,.inl rfl⟩
  ·rename_i c r e;rw[e] at this;split
   ·exact⟨by show r.length<=_;simp at this;exact U96 _ _ this,.inl rfl⟩
   ·split
    ·exact⟨by show r.length<=_;simp at this;exact U96 _ _ this,.inr rfl⟩
    ·exact⟨this,.inl rfl⟩
 have h2:z.natAbs < 16 ^ (Bc (AQ t)).2.length:=by
  have:((16 ^ (Bc (AQ t)).2.length:Nat):Int)=16 ^ (Bc (AQ t)).2.length:=by simp
  exact lin 1 2 [.E (.o Z0) (.v 0),.a (.L (.c 0) (.v 1)) (.T (.v 1) (.v 0))] (.t (.b (.v 1)) Z0) [[0,1,0,1,0,1],[0,1,2,1,0,1]] R0 _ _ _ this hb
 have h3:v.natAbs=z.natAbs:=by
  rw[← e];rcases hs.2 with h | h <;> rw[h] <;> simp
 rw[h3];exact Nat.lt_of_lt_of_le h2 (Nat.pow_le_pow_right (by decide) hs.1)
theorem IL {a b:T} {z w:Int} (h1:AN a=some z) (h2:AN b=some w) (ha:a.length<=n) (hb:b.length<=n):(z+w).natAbs < 16 ^ (n+1):=by
 have e1:=F6 h1;have e2:=F6 h2;have e3:16 ^ a.length<=16 ^ n:=Nat.pow_le_pow_right (by decide) ha;have e4:16 ^ b.length<=16 ^ n:=Nat.pow_le_pow_right (by decide) hb;rw[Nat.pow_succ];exact lin 3 2 [.l Z0 Z1,.l Z2 Z1,.t (.b (.v 0)) Z0,.t (.b (.v 1)) Z2] (.t (.b (.a (.v 0) (.v 1))) (.r Z1 16)) [[1,1,0,1,0,1,0,1],[16,0,17,16,1,0,0,1],[1,0,0,1,1,0,0,1],[0,1,1,0,0,1,0,1],[0,1,1,0,0,1,0,1],[1,0,0,1,1,0,0,1],[16,0,17,16,1,0,0,1],[1,1,0,1,0,1,0,1]] R0 _ _ _ _ _ e3 e4 e1 e2
theorem M7 (n:Nat):16 ^ (4*n)<=10 ^ (5*n):=by
 rw[Nat.pow_mul,Nat.pow_mul];exact Nat.pow_le_pow_left (by decide) n
theorem HT {a b:T} {z w:Int} (h1:AN a=some z) (h2:AN b=some w) (ha:a.length<=n) (hb:b.length<=n):4*(Cu (z+w)).length<=5*n+30:=by
 have h:=IL h1 h2 ha hb;have h3:(z+w).natAbs < 10 ^ (5*((n+1) / 4+1)):=by
  refine Nat.lt_of_lt_of_le h (Nat.le_trans (Nat.pow_le_pow_right (by decide) ?_) (M7 ((n+1) / 4+1)));omega
 have:=Ht (by exact lin 1 0 [] (.t (.c 0) (.m 5 (.a Z0 (.c 1)))) [] R0 _) h3;omega
theorem Mu {a b:T} {z w:Int} (h1:AN a=some z) (h2:AN b=some w) (ha:a.length<=3401) (hb:b.length<=3401):(z+w).natAbs < DIG:=by
 have h:=IL h1 h2 ha hb;refine Nat.lt_of_lt_of_le h ?_;unfold DIG;refine Nat.le_trans (Nat.pow_le_pow_right (by decide) (show 3401+1<=4*860 by decide)) ?_;exact M7 860
end
section
theorem HStep.list {σ σ1:Store} {H H1:HS} (hs:HStep σ σ1 H H1) {w:Nat} {vs:List V} (hwf:¬H.foot w) (hw:Ag σ (.ref w)=some vs):Ag σ1 (.ref w)=some vs:=by
 obtain⟨c,hc,hcc⟩ : ∃c,σ w=some c/\(c=.lst vs∨c=.fin vs):=by
  unfold Ag at hw;dsimp only at hw;cases q:σ w with
  | none=>rw[q] at hw;exact xNS hw
  | some c=>rw[q] at hw;cases c <;> simp at hw <;> exact Ai _ rfl (by simp[hw])
 have z0_:=hs.kept w c hwf hc;have e1:=z0_.1;clear z0_;rcases hcc with rfl | rfl
 ·exact Ac e1
 ·exact HO e1
theorem QA {n w d:Nat} {w0 w1 x:T} {rest:List T} {H H1:HS} {σ σ1 τ:Store} {dv:Nat} (hx:Ay x) (hs1:HStep σ σ1 H H1) (he1:H1.st=H.st)
  (hw1:Ag σ1 (.ref w)=some (Ae (w0::w1::x::rest))) (hl:rest.length<=20) (hsub:SubS σ1 τ) (hd:∃ep,τ d=some (.dct ep (vp ps))) (hdk:DOk 100000 ps)
  (m0:m[0]?=some (some (.ref H.h))) (m1:m[1]?=some (some (.ref w))) (m2:m[dv]?=some (some (.ref d)))
  (hq:∀σ' H',HStep σ σ' H H'->H'.st=DR H.st x (AE ps)->Q (.str (AE ps)) σ') :
  ws (lev (n+5)) none (.cons (.ret (.meth .sh_write [119,114,105,116,101] (.var 0) (.cons (.idx (.var 1) (.cInt 2)) (.cons (.call .text_of_dict (.cons (.var dv) .nil)) .nil)))) .nil) m τ (FL Q) (Es E):=by
 have hst:=hs1.trans (HStep.sub hs1.at_ hsub);have hh:H.h=H1.h:=hs1.h.symm;refine Aq hd fun ep hde=>?_;clear hd;refine AO (Kl (OK (AI m0 ?_)));rw[hh];refine CF hst.at_ ?_;refine AY (IG (AI m1 (Dn ?_)));refine Ak (j:=2) (Al hw1 hsub) (by rw[Ad,LIM];simp;exact lin 1 0 [.l Z0 (.c 20)] (.l Z0 (.c 7999997)) [] R0 _ hl) (by decide) (Am (x:=x) rfl) ?_;refine AY (FT (AY (AI m2 (C8 ?_))));refine Ce hde hdk ?_;refine C8 ?_;refine Fp hst.at_ hx (fun σ2 H2 hs2 he2=>?_);exact Ah (hq σ2 H2 (hst.trans hs2) (by rw[he2,he1]))
theorem Hx {n w:Nat} {w0 w1 x k:T} {more:List T} {H:HS} (hH:HostAt σ H) (hx:Ay x) (hw:Ag σ (.ref w)=some (Ae (w0::w1::x::k::more))) (hwf:¬H.foot w)
  (hm:more.length<=10) (hmo:∀y∈more,B7 y) (hk:B7 k) (ht:TOk ((H.st x).1.getD [])) (h:IC σ H x (Bq ((H.st x).1.getD []) k more) Q E) :
  lev (n+8) false .dict_lappend [.ref H.h,.ref w] σ Q E:=by
 refine AD (m:=[some (.ref H.h),some (.ref w),none,none]) rfl rfl rfl ?_;dsimp only[C5];have hwl:(Ae (w0::w1::x::k::more)).length<=LIM:=by rw[Ad,LIM];simp;exact U94 _ hm
 have hmw:weigh more<=31*10:=by
  have h1:=H4 fun y hy=>(hmo y hy).2;have h2:=Ba more;exact lin 3 0 [.e (.a Z0 Z1) Z2,.l Z1 (.c 10),.l Z0 (.m 30 Z1)] (.l Z2 (.m 31 (.c 10))) [[0,1,31,1,1]] R0 _ _ _ h2 hm h1
 have hmg:∀y∈more,good y:=fun y hy=>(hmo y hy).1;walk_at"w";walk_at"w";refine Ak (j:=2) hw hwl (by decide) (Am (x:=x) rfl) ?_;walk_at"w";refine Dy hH hx (fun σ1 H1 hs1 he1=>?_);have hw1:=hs1.list hwf hw;generalize htt:(H.st x).1.getD []=t at *;walk_at"w";refine D2 ht.ok (Nat.le_trans ht.len (by decide)) (fun ps hp d ep hd=>?_) (fun f hp=>?_)
 ·have hdk:=ht.pairs hp;have hw2:∀c,Ag (σ1.set d c) (.ref w)=some (Ae (w0::w1::x::k::more)):=fun c=>Al hw1 (SubS.new hd);unfold Bq at h;rw[hp] at h;dsimp only at h;refine AU (AO (DC (IG (AI rfl (Dn ?_)))));refine Ak (j:=3) (hw2 _) hwl (by decide) (Am (x:=k) rfl) ?_;refine AU (BN (fun m τ=>m=[some (.ref H.h),some (.ref w),some (.ref d),some (.str k)]/\SubS σ1 τ/\∃ep' ps',τ d=some (.dct ep' (vp ps'))/\DOk 100000 ps' /\
   ∀σ' H',HStep σ σ' H H'->H'.st=DR H.st x (AE ps')->Q (.str (AE ps')) σ') (fun Q' hQ1 hQ2=>?_) ?_)
  ·cases hl:ps.lookup k with
   | none =>
    rw[hl] at h;walk_at"w";refine Dl (r:=true) (by rw[De (Aa _ _ _),hl];rfl) ?_;walk_at"w";refine BJ (lo:=some ((4:Nat):Int)) (hi:=none) rfl rfl (hw2 _) hwl ?_;rw[D0];refine AL (by rw[List.length_drop,Ad,LIM];simp;exact U6 _ hm) (fun b hb=>?_);have hbd:d≠b:=Bg (Aa _ _ _) hb;walk_at"w";refine Em (xs:=more) (Ac (Aa _ _ _)) hmg (by exact lin 1 0 [.l Z0 (.m 31 (.c 10))] (.l Z0 (.c 100000)) [] R0 _ hmw) ?_;walk_at"w";refine B3 (by rw[Ab _ _ hbd];exact Aa _ _ _) (by rw[DH,LIM];have:=Ch hdk;exact U14 _ this) (fun ep'=>?_);rw[Ei];walk_at"w";refine hQ1 _ _ (Bk rfl (SubS.turn ((SubS.new hd).trans (SubS.new hb)) hd) (AZ ep' _ (Aa _ _ _) ((hdk.put hk.1 (BX hmg)).mono ?_) h));have h1:=Bo more;have h2:=FZ true more;have h3:wt more<=10*33:=by
     have:∀l:List T,(∀y∈l,B7 y)->wt l<=33*l.length:=by
      intro l;induction l with
      | nil=>intro _;exact Nat.zero_le _
      | cons y r ih =>
       intro hy;rw[Bf,List.length_cons];have a1:=AV y false;have a2:=(hy y (.head _)).2;have a3:=ih fun z hz=>hy z (.tail _ hz);exact lin 4 0 [.l Z0 (.a Z1 (.c 2)),.l Z1 (.c 30),.l Z2 (.m 33 Z3)] (.l (.a (.a Z0 (.c 1)) Z2) (.m 33 (.a Z3 (.c 1)))) [] R0 _ _ _ _ a1 a2 a3
     have:=this more hmo;exact lin 2 0 [.l Z0 (.c 10),.l Z1 (.m 33 Z0)] (.l Z1 (.m 10 (.c 33))) [[33,1,1]] R0 _ _ hm this
    have:=hk.2;exact lin 3 0 [.l Z0 (.a Z1 (.c 1)),.l Z2 (.c 30),.l Z1 (.m 10 (.c 33))] (.l (.a (.a (.a (.c 3401) Z2) Z0) (.c 6)) (.c 100000)) [] R0 _ _ _ h1 this h3
   | some old =>
    rw[hl] at h;dsimp only at h;have hold:=hdk.mem hl;have hto:=hdk.val hl;walk_at"w";refine Dl (r:=false) (by rw[De (Aa _ _ _),hl];rfl) ?_;walk_at"w";refine len_ref (hw2 _) hwl ?_;walk_at"w";rw[Ad];refine Af (fun z=>?_) (fun z=>?_)
    ·have hm0:more≠[]:=fun z2=>by subst z2;simp at z
     rw[if_neg hm0] at h;walk_at"w";refine By (Az (Aa _ _ _)) (x:=.str old) (by rw[HH,hl];rfl) ?_;walk_at"w";refine ML hto.ok (Nat.le_trans hto.len (by decide)) (fun xs hxs a ha=>?_) (fun e he=>?_)
     ·rw[hxs] at h;dsimp only at h;have had:d≠a:=Bg (Aa _ _ _) ha;have hxw:=(Et old xs (Nat.le_refl _) hxs).1;have hxg:=EP _ old xs (Nat.le_refl _) hold.1 hxs;have hsub2:SubS σ1 ((σ1.set d (.dct ep (vp ps))).set a (.lst (Ae xs))):=(SubS.new hd).trans (SubS.new ha);walk_at"w";refine BJ (lo:=some ((4:Nat):Int)) (hi:=none) rfl rfl (Al hw1 hsub2) hwl ?_;rw[D0];refine AL (by rw[List.length_drop,Ad,LIM];simp;exact U6 _ hm) (fun b hb=>?_);have hab:a≠b:=Bg (Aa _ _ _) hb;have hxl:xs.length<=10000:=by
       have:=Ba xs;have:=Bt xs;have:=hto.len;omega
      refine CW (xs:=Ae xs) (ys:=Ae more) (Ac (by rw[Ab _ _ hab];exact Aa _ _ _)) (Ac (Aa _ _ _)) ?_;refine AL (by rw[List.length_append,Ad,Ad,LIM];exact U97 _ _ hm hxl) (fun c hc=>?_);have hdb:d≠b:=Bg (by rw[Ab _ _ had];exact Aa _ _ _) hb;have hdc:d≠c:=Bg (by rw[Ab _ _ hdb,Ab _ _ had];exact Aa _ _ _) hc;have hsv:Ae xs++Ae more=Ae (xs++more):=by unfold Ae;simp
      rw[hsv];have hwa:weigh (xs++more)<=4000:=by
       have e1:weigh (xs++more)=weigh xs+weigh more:=by unfold weigh;rw[List.map_append,List.sum_append]
       have:=Bt xs;have:=hto.len;omega
      have hga:∀y∈xs++more,good y:=fun y hy=>by
       rw[List.mem_append] at hy;exact hy.elim (hxg y) (hmg y)
      walk_at"w";refine Em (xs:=xs++more) (Ac (Aa _ _ _)) hga (by exact U98 _ hwa) ?_;walk_at"w";refine B3 (by rw[Ab _ _ hdc,Ab _ _ hdb,Ab _ _ had];exact Aa _ _ _) (by rw[DH,LIM];have:=Ch hdk;exact U14 _ this) (fun ep'=>?_);rw[Ei];walk_at"w";refine hQ1 _ _ (Bk rfl (SubS.turn ((hsub2.trans (SubS.new hb)).trans (SubS.new hc)) hd) (AZ ep' _ (Aa _ _ _) ((hdk.put hk.1 (BX hga)).mono ?_) h));have h1:(DY (xs++more)).length<=3*weigh (xs++more)+1:=by
       have a1:=Bo (xs++more);have a2:wt (xs++more)<=3*weigh (xs++more):=by
        have:∀l:List T,wt l<=3*weigh l:=by
         intro l;induction l with
         | nil=>exact Nat.zero_le _
         | cons y r ih =>
          rw[Bf];have b1:=AV y false;have b2:weigh (y::r)=y.length+1+weigh r:=rfl;exact U99 _ _ _ _ _ b2 b1 ih
        exact this _
       exact lin 3 0 [.l Z0 (.a Z1 (.c 1)),.l Z1 (.m 3 Z2)] (.l Z0 (.a (.m 3 Z2) (.c 1))) [] R0 _ _ _ a1 a2
      have:=hk.2;exact lin 3 0 [.l Z0 (.a (.m 3 Z1) (.c 1)),.l Z2 (.c 30),.l Z1 (.c 4000)] (.l (.a (.a (.a (.c 3401) Z2) Z0) (.c 6)) (.c 100000)) [[1,1,3,1]] R0 _ _ _ h1 this hwa
     ·rw[he] at h;dsimp only at h;have hE:=h σ1 H1 hs1 he1;exact(RaisesA.one hE).sub (SubS.new hd)
    ·have hm0:more=[]:=by
      simp at z;exact List.length_eq_zero_iff.mp (by exact U95 _ z)
     rw[if_pos hm0] at h;walk_at"w";exact hQ1 _ _ (Bk rfl (SubS.new hd) (AZ ep ps (Aa _ _ _) (hdk.mono (by decide)) h))
  ·intro m τ z1_;have z2_:=z1_.1;have hsub:=z1_.2.1;have z3_:=z1_.2.2;clear z1_;subst z2_;refine Cc z3_ fun ep' ps' hde hdk' hq=>?_;clear z3_;exact QA hx hs1 he1 hw1 (by simp;exact lin 1 0 [.l Z0 (.c 10)] (.l Z0 (.c 19)) [] R0 _ hm) hsub ⟨ep',hde⟩ hdk' rfl rfl rfl hq
 ·have hh:Bq t k more=.error f:=by unfold Bq;rw[hp]
  rw[hh] at h;exact(h σ1 H1 hs1 he1).sub (SubS.refl _)
theorem JI {i:Int} (hi:i.natAbs < DIG) (h:Q (.str (Cu i)) σ):bfSem .str [.int i] σ Q:=.str hi h
theorem K2 {n w:Nat} {w0 w1 x k:T} {more:List T} {H:HS} (hH:HostAt σ H) (hx:Ay x) (hw:Ag σ (.ref w)=some (Ae (w0::w1::x::k::more))) (hwf:¬H.foot w)
  (hm:more.length<=1) (hmo:∀y∈more,B7 y) (hk:B7 k) (ht:TOk ((H.st x).1.getD [])) (h:IC σ H x (D4 ((H.st x).1.getD []) k (more.headD [49])) Q E) :
  lev (n+8) false .dict_incr [.ref H.h,.ref w] σ Q E:=by
 refine AD (m:=[some (.ref H.h),some (.ref w),none,none,none,none]) rfl rfl rfl ?_;dsimp only[DF];have hwl:(Ae (w0::w1::x::k::more)).length<=LIM:=by rw[Ad,LIM];simp;exact lin 1 0 [.l Z0 (.c 1)] (.l Z0 (.c 7999996)) [] R0 _ hm
 have hby:B7 (more.headD [49]):=by
  cases more with
  | nil=>exact⟨⟨false,rfl⟩,by decide⟩
  | cons y r=>exact hmo y (.head _)
 walk_at"w";refine CT (t':=true) ?_ ?_
 ·rw[Ad];cases more with
  | nil=>rfl
  | cons y r =>
   have:r=[]:=by cases r with
    | nil=>rfl
    | cons=>simp at hm
   subst this;rfl
 walk_at"w";refine Ak (j:=2) hw hwl (by decide) (Am (x:=x) rfl) ?_;walk_at"w";refine Dy hH hx (fun σ1 H1 hs1 he1=>?_);have hw1:=hs1.list hwf hw;generalize htt:(H.st x).1.getD []=t at *;walk_at"w";refine D2 ht.ok (Nat.le_trans ht.len (by decide)) (fun ps hp d ep hd=>?_) (fun f hp=>?_)
 ·have hdk:=ht.pairs hp;have hw2:∀c,Ag (σ1.set d c) (.ref w)=some (Ae (w0::w1::x::k::more)):=fun c=>Al hw1 (SubS.new hd);unfold D4 at h;rw[hp] at h;dsimp only at h;generalize hbb:more.headD [49]=b at *;refine AU (AO (DC (IG (AI rfl (Dn ?_)))));refine Ak (j:=3) (hw2 _) hwl (by decide) (Am (x:=k) rfl) ?_;refine AU (AO (DC (CL (AU (BN (fun m τ=>m=[some (.ref H.h),some (.ref w),some (.ref d),some (.str k),some (.str b),none]/\τ=σ1.set d (.dct ep (vp ps))) (fun Q' hQ1 hQ2=>?_) ?_)))))
  ·walk_at"w";refine len_ref (hw2 _) hwl ?_;walk_at"w";rw[Ad];cases more with
   | nil =>
    refine Af (fun z=>absurd z (by simp)) (fun _=>?_);walk_at"w";have:b=[49]:=by rw[← hbb];rfl
    subst this;exact hQ1 _ _ ⟨rfl,rfl⟩
   | cons y r =>
    have hr:r=[]:=by cases r with
     | nil=>rfl
     | cons=>simp at hm
    subst hr;have:b=y:=by rw[← hbb];rfl
    subst this;refine Af (fun _=>?_) (fun z=>absurd (show ((5:Nat):Int)=5 from rfl) z);walk_at"w";refine Ak (j:=4) (hw2 _) hwl (by decide) (Am (x:=b) rfl) ?_;walk_at"w";exact hQ1 _ _ ⟨rfl,rfl⟩
  intro m τ z1_;have z2_:=z1_.1;have z3_:=z1_.2;clear z1_;subst z2_;subst z3_;refine BN (fun m τ=>(∃z,m=[some (.ref H.h),some (.ref w),some (.ref d),some (.str k),some (.str b),z])/\SubS σ1 τ/\∃ep' ps',τ d=some (.dct ep' (vp ps'))/\DOk 100000 ps' /\
   ∀σ' H',HStep σ σ' H H'->H'.st=DR H.st x (AE ps')->Q (.str (AE ps')) σ') (fun Q' hQ1 hQ2=>?_) ?_
  ·have hpl:(vp ps).length<=LIM:=by rw[DH,LIM];have:=Ch hdk;exact U14 _ this
   cases hl:ps.lookup k with
   | none =>
    rw[hl] at h;dsimp only at h;walk_at"w";refine inQ_of (r:=false) (by rw[De (Aa _ _ _),hl];rfl) ?_;walk_at"w";refine DI hby.1 (by have:=hby.2;exact U7 _ this) (fun v hv=>?_) (fun hv=>?_)
    ·rw[hv] at h;walk_at"w";refine B3 (Aa _ _ _) hpl (fun ep'=>?_);rw[Ei,Aj];walk_at"w";exact hQ1 _ _ (Bk ⟨_,rfl⟩ (SubS.new hd) (AZ ep' _ (Aa _ _ _) ((hdk.put hk.1 hby.1).mono (by have:=hk.2;have:=hby.2;exact lin 2 0 [.l Z0 (.c 30),.l Z1 (.c 30)] (.l (.a (.a (.a (.c 3401) Z1) Z0) (.c 6)) (.c 100000)) [] R0 _ _ this (by assumption))) h))
    ·rw[hv] at h;exact(h σ1 H1 hs1 he1).sub (SubS.new hd)
   | some old =>
    rw[hl] at h;dsimp only at h;have hold:=hdk.mem hl;walk_at"w";refine inQ_of (r:=true) (by rw[De (Aa _ _ _),hl];rfl) ?_;walk_at"w";refine By (Az (Aa _ _ _)) (x:=.str old) (by rw[HH,hl];rfl) ?_;walk_at"w";refine DI hold.1 (by omega) (fun v hv=>?_) (fun hv=>?_)
    ·rw[hv] at h;dsimp only at h;walk_at"w";refine DI hby.1 (by have:=hby.2;exact U7 _ this) (fun u hu=>?_) (fun hu=>?_)
     ·rw[hu] at h;dsimp only at h;walk_at"w";refine JI (Mu hv hu (by omega) (by have:=hby.2;exact U19 _ this)) ?_;walk_at"w";refine B3 (Aa _ _ _) hpl (fun ep'=>?_);rw[Ei,Aj];walk_at"w";refine hQ1 _ _ (Bk ⟨_,rfl⟩ (SubS.new hd) (AZ ep' _ (Aa _ _ _) ((hdk.put hk.1 (Eh _)).mono ?_) h));have:=HT hv hu (n:=3401) (by omega) (by have:=hby.2;exact U19 _ this);have:=hk.2;exact lin 2 0 [.l (.m 4 Z0) (.a (.m 5 (.c 3401)) (.c 30)),.l Z1 (.c 30)] (.l (.a (.a (.a (.c 3401) Z1) Z0) (.c 6)) (.c 100000)) [] R0 _ _ (by assumption) this
     ·rw[hu] at h;exact(h σ1 H1 hs1 he1).sub (SubS.new hd)
    ·rw[hv] at h;exact(h σ1 H1 hs1 he1).sub (SubS.new hd)
  ·intro m τ z4_;have z5_:=z4_.1;have hsub:=z4_.2.1;have z6_:=z4_.2.2;clear z4_;refine Aq z5_ fun z z7_=>?_;clear z5_;subst z7_;refine Cc z6_ fun ep' ps' hde hdk' hq=>?_;clear z6_;exact QA hx hs1 he1 hw1 (by simp;exact lin 1 0 [.l Z0 (.c 1)] (.l Z0 (.c 19)) [] R0 _ hm) hsub ⟨ep',hde⟩ hdk' rfl rfl rfl hq
 ·have hh:D4 t k (more.headD [49])=.error f:=by unfold D4;rw[hp]
  rw[hh] at h;exact(h σ1 H1 hs1 he1).sub (SubS.refl _)
theorem Lz {n w:Nat} {w0 w1 x kl v:T} {ks:List T} {H:HS} (hH:HostAt σ H) (hx:Ay x) (hw:Ag σ (.ref w)=some (Ae (w0::w1::x::(ks++[kl])++[v]))) (hwf:¬H.foot w)
  (hm:ks.length<=8) (hkg:∀y∈ks++[kl],good y/\y.length<=10) (hv:B7 v) (ht:TOk ((H.st x).1.getD [])) (h:IC σ H x (C2 ((H.st x).1.getD []) (ks++[kl]) v) Q E) :
  lev (n+10) false .dict_set [.ref H.h,.ref w] σ Q E:=by
 refine AD (m:=[some (.ref H.h),some (.ref w)]) rfl rfl rfl ?_;dsimp only[E6];have hwl:(Ae (w0::w1::x::(ks++[kl])++[v])).length<=LIM:=by rw[Ad,LIM];simp;exact To _ hm
 walk_at"w";refine Af (fun z=>by rw[Ad] at z;simp at z;exact(lin 1 0 [.T (.a (.a (.a (.a (.o Z0) (.c 2)) (.c 1)) (.c 1)) (.c 1)) (.c 5)] .f [] R0 _ z).elim) (fun _=>?_);walk_at"w";refine CF hH ?_;walk_at"w";refine Ak (j:=2) hw hwl (by decide) (Am (x:=x) rfl) ?_;walk_at"w";refine Ak (j:=2) hw hwl (by decide) (Am (x:=x) rfl) ?_;walk_at"w";refine Dy hH hx (fun σ1 H1 hs1 he1=>?_);have hw1:=hs1.list hwf hw;generalize htt:(H.st x).1.getD []=t at *;walk_at"w";have hcut:Cr (Ae (w0::w1::x::(ks++[kl])++[v])) (some ((3:Nat):Int)) (some (-1))=Ae (ks++[kl]):=by
  have e1:Ae (w0::w1::x::(ks++[kl])++[v])=Ae (w0::w1::x::(ks++[kl]))++[.str v]:=by unfold Ae;rw[List.map_append];rfl
  have e2:=G4 (Ae (w0::w1::x::(ks++[kl]))) (.str v);unfold Cr at e2 ⊢;rw[e1];simp only[Option.map_none,Option.getD_none,List.drop_zero] at e2;rw[e2];simp only[Option.map_some,Option.getD_some,Dx];rw[Nat.min_eq_left (by rw[List.length_append,Ad];simp)];rfl
 refine BJ (lo:=some ((3:Nat):Int)) (hi:=some (-1)) rfl rfl hw1 hwl ?_;rw[hcut];refine AL (by rw[Ad,LIM];simp;exact U20 _ hm) (fun b hb=>?_);walk_at"w";have e1:Ae (w0::w1::x::(ks++[kl])++[v])=Ae (w0::w1::x::(ks++[kl]))++[.str v]:=by unfold Ae;rw[List.map_append];rfl
 refine CR (s:=Ae (w0::w1::x::(ks++[kl]))) (x:=.str v) (by rw[← e1];exact Al hw1 (SubS.new hb)) (by rw[Ad,LIM];simp;exact To _ hm) ?_;walk_at"w";refine Mj ht (Ac (Aa _ _ _)) (by exact U21 _ hm) hkg hv.1 (by have:=hv.2;exact SR _ this) (fun ps dd hp hs=>?_) (fun f hf=>?_)
 ·have hh:C2 t (ks++[kl]) v=.ok (AE dd):=by unfold C2;rw[hp];dsimp only;rw[hs];rfl
  rw[hh] at h;have hst:=hs1.trans (HStep.sub hs1.at_ (SubS.new (c:=.lst (Ae (ks++[kl]))) hb));walk_at"w";rw[show H.h=H1.h from hs1.h.symm];refine Fp hst.at_ hx (fun σ2 H2 hs2 he2=>?_);walk_at"w";exact Ah (h σ2 H2 (hst.trans hs2) (by rw[he2,he1]))
 ·have hh:C2 t (ks++[kl]) v=.error f:=by
   unfold C2;rcases hf with hf | ⟨ps,hp,hs⟩
   ·rw[hf]
   ·rw[hp];dsimp only;rw[hs];rfl
  rw[hh] at h;exact(h σ1 H1 hs1 he1).sub (SubS.new hb)
theorem JK {n w:Nat} {w0 w1 x kl:T} {ks:List T} {H:HS} (hH:HostAt σ H) (hx:Ay x) (hw:Ag σ (.ref w)=some (Ae (w0::w1::x::(ks++[kl])))) (hwf:¬H.foot w)
  (hm:ks.length<=8) (hkg:∀y∈ks++[kl],good y/\y.length<=10) (ht:TOk ((H.st x).1.getD [])) (h:IC σ H x (Bh ((H.st x).1.getD []) (ks++[kl])) Q E) :
  lev (n+10) false .dict_unset [.ref H.h,.ref w] σ Q E:=by
 refine AD (m:=[some (.ref H.h),some (.ref w)]) rfl rfl rfl ?_;dsimp only[Dt];have hwl:(Ae (w0::w1::x::(ks++[kl]))).length<=LIM:=by rw[Ad,LIM];simp;exact lin 1 0 [.l Z0 (.c 8)] (.l Z0 (.c 7999996)) [] R0 _ hm
 walk_at"w";refine Af (fun z=>by rw[Ad] at z;simp at z;exact(lin 1 0 [.T (.a (.a (.a (.a (.o Z0) (.c 1)) (.c 1)) (.c 1)) (.c 1)) (.c 4)] .f [] R0 _ z).elim) (fun _=>?_);walk_at"w";refine CF hH ?_;walk_at"w";refine Ak (j:=2) hw hwl (by decide) (Am (x:=x) rfl) ?_;walk_at"w";refine Ak (j:=2) hw hwl (by decide) (Am (x:=x) rfl) ?_;walk_at"w";refine Dy hH hx (fun σ1 H1 hs1 he1=>?_);have hw1:=hs1.list hwf hw;generalize htt:(H.st x).1.getD []=t at *;walk_at"w";refine BJ (lo:=some ((3:Nat):Int)) (hi:=none) rfl rfl hw1 hwl ?_;rw[D0,show (Ae (w0::w1::x::(ks++[kl]))).drop 3=Ae (ks++[kl]) from rfl];refine AL (by rw[Ad,LIM];simp;exact U20 _ hm) (fun b hb=>?_);walk_at"w";refine JU ht (Ac (Aa _ _ _)) (by exact U21 _ hm) hkg (fun ps dd hp hs=>?_) (fun f hf=>?_)
 ·have hh:Bh t (ks++[kl])=.ok (AE dd):=by unfold Bh;rw[hp];dsimp only;rw[hs];rfl
  rw[hh] at h;have hst:=hs1.trans (HStep.sub hs1.at_ (SubS.new (c:=.lst (Ae (ks++[kl]))) hb));walk_at"w";rw[show H.h=H1.h from hs1.h.symm];refine Fp hst.at_ hx (fun σ2 H2 hs2 he2=>?_);walk_at"w";exact Ah (h σ2 H2 (hst.trans hs2) (by rw[he2,he1]))
 ·have hh:Bh t (ks++[kl])=.error f:=by
   unfold Bh;rcases hf with hf | ⟨ps,hp,hs⟩
   ·rw[hf]
   ·rw[hp];dsimp only;rw[hs];rfl
  rw[hh] at h;exact(h σ1 H1 hs1 he1).sub (SubS.new hb)
end
section
theorem OU:∀(r:T) (d:Nat),clo d (r++[32])=(clo d r).map fun p=>(p.1,p.2++[32]):=by
 intro r;induction r with
 | nil =>
  intro d;show clo d [32]=none;unfold clo;simp[clo]
 | cons c r ih =>
  intro d;rw[List.cons_append,clo,clo];split
  ·split
   ·rfl
   ·rw[ih,Option.map_map,Option.map_map];rfl
  ·rw[ih,Option.map_map,Option.map_map];rfl
theorem Jd (q:T):AA (q++[32])=AA q:=by
 induction q with
 | nil=>rfl
 | cons c r ih =>
  by_cases hc:c=32
  ·subst hc;rfl
  ·have h1:∀z:T,AA (c::z)=c::AA z:=fun z=>by unfold AA;simp[hc]
   rw[List.cons_append,h1,h1,ih]
theorem Nn (q:T):rest (q++[32])=rest q++[32]:=by
 induction q with
 | nil=>rfl
 | cons c r ih =>
  by_cases hc:c=32
  ·subst hc;rfl
  ·have h1:∀z:T,rest (c::z)=rest z:=fun z=>by unfold rest;simp[hc]
   rw[List.cons_append,h1,h1,ih]
theorem Ny (x:T):skip (x++[32])=if skip x=[] then [] else skip x++[32]:=by
 induction x with
 | nil=>rfl
 | cons c r ih =>
  by_cases hc:c=32
  ·subst hc;exact ih
  ·have h1:∀z:T,skip (c::z)=c::z:=fun z=>by unfold skip;simp[hc]
   rw[List.cons_append,h1,h1,if_neg (by simp)];rfl
theorem Nr (x:T):Bu (x++[32])=match Bu x with
  | none=>none
  | some (.error e)=>some (.error e)
  | some (.ok (y,q))=>some (.ok (y,q++[32])):=by
 unfold Bu;rw[Ny];cases hs:skip x with
 | nil=>rfl
 | cons c r =>
  rw[if_neg (by simp),List.cons_append];dsimp only;by_cases hc:c=123
  ·rw[if_pos hc,if_pos hc,OU];cases hcl:clo 1 r with
   | none=>rfl
   | some p =>
    obtain⟨i,q⟩:=p;simp only[Option.map_some];rw[Jd];by_cases hw:AA q=[]
    ·rw[if_pos hw,if_pos hw]
    ·rw[if_neg hw,if_neg hw]
  ·rw[if_neg hc,if_neg hc];have h1:=Jd (c::r);have h2:=Nn (c::r);rw[List.cons_append] at h1 h2;rw[h1,h2]
theorem LQ:∀(N:Nat) (x:T),x.length<=N->A0 (x++[32])=A0 x:=by
 intro N;induction N with
 | zero =>
  intro x hl;have:x=[]:=List.length_eq_zero_iff.mp (by exact U9 _ hl);subst this;rw[Av rfl,Av rfl]
 | succ N ih =>
  intro x hl;have hs:=Nr x;cases he:Bu x with
  | none=>rw[he] at hs;rw[Av hs,Av he]
  | some r =>
   cases r with
   | error e=>rw[he] at hs;rw[AT hs,AT he]
   | ok p =>
    obtain⟨y,q⟩:=p;rw[he] at hs;have hlt:=Cv he;rw[B4 hs,B4 he,ih q (by exact U17 _ _ _ hl hlt)]
theorem JG (x:T):A0 (Cw x)=A0 x:=by
 have aux:∀(l:T),A0 ((l.dropWhile (·==32)).reverse)=A0 l.reverse:=by
  intro l;induction l with
  | nil=>rfl
  | cons c r ih =>
   by_cases hc:c=32
   ·subst hc;rw[List.reverse_cons,LQ _ _ (Nat.le_refl _)];exact ih
   ·rw[List.dropWhile_cons,if_neg (by simpa using hc)]
 have:=aux x.reverse
 rwa [List.reverse_reverse] at this
theorem FV (t:T):skip (skip t)=skip t:=by
 induction t with
 | nil=>rfl
 | cons c r ih =>
  by_cases hc:c=32
  ·subst hc;exact ih
  ·have:skip (c::r)=c::r:=by unfold skip;simp[hc]
   rw[this,this]
theorem Kh (t:T):A0 (AQ t)=A0 t:=by
 rw[Hu,JG,DO (FV t)]
theorem L6 (t:T):skip (AQ t)=AQ t:=by
 rw[Hu];cases h:skip t with
 | nil=>rfl
 | cons c r =>
  have hc:c≠32:=by
   intro z;subst z;have:=List.head?_dropWhile_not (p:=(·==32)) t;rw[show (List.dropWhile (fun x=>x==32) t)=skip t from rfl,h] at this;simp at this
  have:∃z,Cw (c::r)=c::z:=by
   unfold Cw;rw[List.reverse_cons];have:∀l:T,∃z,((l++[c]).dropWhile (·==32))=z++[c]:=by
    intro l;induction l with
    | nil=>exact⟨[],by simp[hc]⟩
    | cons d l ih =>
     rw[List.cons_append,List.dropWhile_cons];split
     ·exact ih
     ·exact⟨d::l,rfl⟩
   refine Aq (this r.reverse) fun z hz=>?_;exact⟨z.reverse,by rw[hz];simp⟩
  refine Aq this fun z hz=>?_;clear this;rw[hz];unfold skip;simp[hc]
theorem GT (q:T):(BE q)[0]?=some (AA q):=by
 induction q with
 | nil=>rfl
 | cons c r ih =>
  rw[BE];by_cases hc:c=32
  ·subst hc;rfl
  ·rw[if_neg hc];have h1:AA (c::r)=c::AA r:=by unfold AA;simp[hc]
   cases hs:BE r with
   | nil=>rw[hs] at ih;exact xNS ih
   | cons x q=>rw[hs] at ih;simp at ih;subst ih;rw[h1];rfl
theorem IJ (q:T):(BE q).length<=q.length+1:=by
 induction q with
 | nil=>simp[BE]
 | cons c r ih =>
  rw[BE];split
  ·simp;assumption
  ·split <;> rename_i e <;> rw[e] at ih <;> simp at ih ⊢ <;> exact U4 _ _ ih
theorem NW (q:T):q.take (AA q).length=AA q/\q.drop (AA q).length=rest q:=by
 have h:=CB q;generalize AA q=a at *;generalize rest q=b at *;subst h;simp
noncomputable def DT (r:T):Nat:=match clo 1 r with
 | none=>0
 | some (i,_)=>i.length+2
theorem NO {r:T} (hl:r.length<=100000) (h:Q (.int (DT r:Nat)) σ):lev (n+1) false .l_close [.str (123::r)] σ Q E:=by
 have hlim:(123::r).length<=LIM:=by rw[LIM,List.length_cons];exact lin 1 0 [.l Z0 (.c 100000)] (.l (.a Z0 (.c 1)) (.c 8000000)) [] R0 _ hl
 refine AD (m:=[some (.str (123::r)),none,none]) rfl rfl rfl ?_;dsimp only[GS];walk_at"w";have hna:((((123::r).length:Nat):Int)).natAbs < 2 ^ 40:=by rw[Int.natAbs_natCast];rw[LIM] at hlim;exact lin 1 0 [.l Z0 (.c 8000000)] (.t Z0 (.c 1099511627776)) [] R0 _ hlim
 refine Lf hna ?_;let J1:EF:=fun k m σ'=>∃(d:Nat) (y:Option V),m=[some (.str (123::r)),some (.int d),y]/\σ'=σ/\((k=0/\d=0)∨(1<=k/\1<=d/\clo 1 r=(clo d ((123::r).drop k)).map fun z=>(r.take (k - 1)++z.1,z.2)))
 refine CG J1
  (123::r).length (by decide) hna (by decide) (by decide) (by unfold Builtin.Range.rangeSize;rw[if_pos (by decide),Int.ediv_one];split <;> first | exact TS _ | exact Uo _ (by assumption)) hlim (AZ 0 none rfl rfl (.inl ⟨rfl,rfl⟩)) ?_ ?_
 ·intro k m σ' hk z1_;refine Cc z1_ fun d y z2_ z3_ hd=>?_;clear z1_;subst z2_;subst z3_;refine B2 (BU (t:=123::r) (p:=k) hk) fun c hc hcd hm=>?_;have hci:∀i:Int,i=(k:Int)->(123::r)[i.toNat]?=some c:=fun i hi=>by subst hi;exact hc
  walk_at"w";refine AM hlim (by exact TJ _) (hci _ (by exact U32 _)) ?_;walk_at"w";rcases hd with ⟨rfl,rfl⟩ | ⟨k1,d1,hcl⟩
  ·simp at hc;subst hc;refine Af (fun _=>?_) (fun z=>absurd rfl z);walk_at"w";walk_at"w";refine AZ 1 _ rfl rfl (.inr (Bk (by decide) (by decide) ?_));rw[show (123::r).drop (0+1)=r from rfl];cases clo 1 r <;> rfl
  ·have hkr:k - 1 < r.length:=by simp at hk;exact lin 2 0 [.l (.c 1) Z0,.t Z0 (.a Z1 (.c 1))] (.t (.s Z0 (.c 1)) Z1) [[0,1,0,1]] R0 _ _ k1 hk
   have hrc:r[k - 1]?=some c:=by
    rw[show k=(k - 1)+1 from by exact lin 1 0 [.l (.c 1) Z0] (.e Z0 (.a (.s Z0 (.c 1)) (.c 1))) [[0,0,1],[0,0,1],[],[1,1,0]] R0 _ k1,List.getElem?_cons_succ] at hc;exact hc
   have htk:r.take (k+1 - 1)=r.take (k - 1)++[c]:=by
    rw[show k+1 - 1=(k - 1)+1 from by exact lin 1 0 [.l (.c 1) Z0] (.e (.s (.a Z0 (.c 1)) (.c 1)) (.a (.s Z0 (.c 1)) (.c 1))) [[0,0,0,1],[0,0,0,1],[],[1,0,1,0],[1,1,0,0]] R0 _ k1,List.take_add_one,hrc];rfl
   rw[hcd,clo] at hcl;refine Af (fun z=>?_) (fun z=>?_)
   ·simp at z;subst z;walk_at"w";walk_at"w";refine AZ (d+1) _ rfl rfl (.inr (Bk (by exact U11 _) (by exact U11 _) ?_));rw[hcl,htk,if_neg (by decide),if_pos rfl,Option.map_map];congr 1;funext z;simp
   ·have hc1:c≠123:=by simpa using z
    walk_at"w";refine AM hlim (by exact TJ _) (hci _ (by exact U32 _)) ?_;walk_at"w";refine Af (fun z=>?_) (fun z=>?_)
    ·simp at z;subst z;rw[if_pos rfl] at hcl;walk_at"w";refine Af (fun z=>?_) (fun z=>?_)
     ·have hd1:d=1:=by exact U57 _ z
      subst hd1;rw[if_pos rfl] at hcl;simp at hcl;walk_at"w";have:DT r=k+1:=by
       unfold DT;rw[hcl];simp;exact lin 2 0 [.l (.c 1) Z0,.t (.s Z0 (.c 1)) Z1] (.e (.a (.n (.s Z0 (.c 1)) Z1) (.c 1)) Z0) [[0,0,0,0,0,1],[0,0,0,0,0,1],[0,0,1,0,1,0],[0,0,1,0,1,0],[1,0,0,1,0,0],[1,0,0,1,0,0],[0,0,1,0,0,1],[0,0,0,0,1,0],[0,0,0,0,0,1],[0,0,0,0,0,1],[1,1,0,0,0,0],[0,0,0,0,1,1],[1,1,0,0,0,0],[1,1,0,0,0,0],[],[0,0,1,0,1,0]] R0 _ _ k1 hkr
      rw[this] at h;have e:(0:Int)+1*(k:Int)+1=((k+1:Nat):Int):=by exact lin 1 0 [] (.E (.a (.a (.c 0) (.m 1 (.o Z0))) (.c 1)) (.o (.a Z0 (.c 1)))) [] R0 _
      rw[e];exact Ah h
     ·rw[if_neg (by exact U60 _ z)] at hcl;walk_at"w";refine AZ (d - 1) (some (.int (0+1*(k:Int)))) ?_ rfl (.inr (Bk (by exact U11 _) (by exact U58 _ d1 z) ?_))
      ·rw[show (d:Int) - 1=((d - 1:Nat):Int) from by exact U59 _ d1];rfl
      ·rw[hcl,htk,Option.map_map];congr 1;funext z;simp
    ·have hc2:c≠125:=by simpa using z
     rw[if_neg hc2,if_neg hc1] at hcl;walk_at"w";refine Af (fun z=>by exact(lin 1 0 [.E (.o Z0) (.c 0),.l (.c 1) Z0] .f [[1,0,1]] R0 _ z d1).elim) (fun _=>?_);walk_at"w";refine AZ d _ rfl rfl (.inr (Bk (by exact U11 _) (by assumption) ?_));rw[hcl,htk,Option.map_map];congr 1;funext z;simp
 ·intro m σ' z4_;refine Cc z4_ fun d y z5_ z6_ hd=>?_;clear z4_;subst z5_;subst z6_;walk_at"w";rcases hd with ⟨z,_⟩ | ⟨k1,d1,hcl⟩
  ·simp at z
  ·rw[List.drop_of_length_le (Nat.le_refl _)] at hcl;have:DT r=0:=by unfold DT;rw[hcl];rfl
   rw[this] at h;exact Ah h
theorem Ki (hl:s.length<=LIM) (h:∀a,σ a=none->Q (.ref a) (σ.set a (.lst ((BE s).map .str)))):bmSem .split (.str s) [.str [32]] σ Q:=.split hl h
theorem KT (hl:s.length<=LIM) (h:Q (.str (AQ s)) σ):bmSem .strip (.str s) [.str [32]] σ Q:=.strip hl h
theorem Nm (hl:s.length<=LIM) (h:Q (.str (skip s)) σ):bmSem .lstrip (.str s) [.str [32]] σ Q:=.lstrip hl h
noncomputable def RO (e:Bad):V:=.tup [.str e.pre,.str e.suf,.str e.kind]
theorem Lp (hl:t.length<=50000)
  (h1:∀xs,A0 t=.ok xs->∀a,σ a=none->Q (.ref a) (σ.set a (.lst (Ae xs))))
  (h2:∀e,A0 t=.error e->Q (RO e) σ):lev (n+2) false .l_list [.str t] σ Q E:=by
 refine AD (m:=[some (.str t),none,none,none,none]) rfl rfl rfl ?_;dsimp only[IF];walk_at"w";refine AL (by decide) (fun a ha=>?_);walk_at"w";refine KT (Nat.le_trans hl (by decide)) ?_;walk_at"w";let J2:EF:=fun k m τ=>∃(r:T) (acc:List T) (y z:Option V),m=[some (.str t),some (.ref a),some (.str r),y,z]/\SubS σ τ/\τ a=some (.lst (Ae acc))/\k=r.length/\r.length+acc.length<=t.length/\skip r=r/\A0 t=(A0 r).map (acc++·)
 refine Ic J2
  (UJ ((AQ t).length) (AQ t) [] none none rfl (SubS.new ha) (Aa _ _ _) rfl (by have:=FU t;simpa using this) (L6 t) (by rw[Kh];cases A0 t <;> rfl)) ?_
 intro k m τ z1_;refine UE z1_ fun r acc y z z2_ hs hal z3_ hrl hsk hp=>?_;clear z1_;subst z2_;subst z3_;walk_at"w";cases r with
 | nil =>
  refine Af (fun z=>absurd rfl z) (fun _=>?_);walk_at"w";rw[Av (t:=[]) rfl] at hp;simp[Except.map] at hp;exact AB (SubS.put hs hal) (h1 acc hp a ha)
 | cons c r =>
  rw[List.length_cons] at hrl;have hlim:(c::r).length<=LIM:=by rw[LIM,List.length_cons];exact lin 3 0 [.l (.a (.a Z0 (.c 1)) Z1) Z2,.l Z2 (.c 50000)] (.l (.a Z0 (.c 1)) (.c 8000000)) [] R0 _ _ _ hrl hl
  have hacl:(Ae acc).length<=LIM:=by rw[Ad,LIM];exact lin 3 0 [.l (.a (.a Z0 (.c 1)) Z1) Z2,.l Z2 (.c 50000)] (.l Z1 (.c 8000000)) [] R0 _ _ _ hrl hl
  refine Af (fun _=>?_) (fun z=>absurd (show (c::r)≠[] by simp) z);refine BN (fun m τ'=>∃(sz:Nat) (x q:T) (w:Option V),m=[some (.str t),some (.ref a),some (.str (c::r)),some (.int (sz:Nat)),w]/\SubS σ τ'/\τ' a=some (.lst (Ae (acc++[x])))/\(c::r).drop sz=q/\Bu (c::r)=some (.ok (x,q))) (fun Q' hQ1 hQ2=>?_) ?_
  ·walk_at"w";refine AM hlim (by decide) (c:=c) rfl ?_;walk_at"w";refine Af (fun z=>?_) (fun z=>?_)
   ·simp at z;subst z;walk_at"w";refine NO (by exact lin 3 0 [.l (.a (.a Z0 (.c 1)) Z1) Z2,.l Z2 (.c 50000)] (.l Z0 (.c 100000)) [] R0 _ _ _ hrl hl) ?_;walk_at"w";have hel:Bu (123::r)=match clo 1 r with
      | none=>some (.error .brace)
      | some (i,q)=>if AA q=[] then some (.ok (i,q)) else some (.error (.junk ((AA q).take 20))):=by
     unfold Bu;rw[hsk];dsimp only;rw[if_pos rfl];try rfl
    cases hcl:clo 1 r with
    | none =>
     have hcn:DT r=0:=by unfold DT;rw[hcl]
     rw[hcn];rw[hcl] at hel;refine Af (fun _=>?_) (fun z=>absurd rfl z);walk_at"w";refine hQ2 _ _ _ (fun z=>by cases z) ?_;have:=h2 .brace (by rw[hp,AT hel];rfl);walk_at"w";exact AB hs this
    | some p =>
     obtain⟨i,q⟩:=p;have hcn:DT r=i.length+2:=by unfold DT;rw[hcl]
     rw[hcn];rw[hcl] at hel;dsimp only at hel;have hrq:=HY _ _ _ _ hcl;have hdr:(123::r).drop (i.length+2)=q:=by
      rw[hrq,show i.length+2=(i.length+1)+1 from rfl,List.drop_succ_cons,List.drop_append,List.drop_of_length_le (by exact U25 _)];rw[show i.length+1 - i.length=1 from by exact lin 1 0 [] (.e (.s (.a Z0 (.c 1)) Z0) (.c 1)) [[0,1],[0,1]] R0 _];rfl
     refine Af (fun z=>by exact(lin 1 0 [.E (.o (.a Z0 (.c 2))) (.c 0)] .f [[1,0]] R0 _ z).elim) (fun _=>?_);walk_at"w";refine Bz (lo:=some ((i.length+2:Nat):Int)) (hi:=none) rfl rfl hlim ?_;rw[D0,hdr];have hql:q.length<=50000:=by
      have:=congrArg List.length hdr;rw[List.length_drop,List.length_cons] at this;exact lin 5 0 [.e (.s (.a Z0 (.c 1)) (.a Z1 (.c 2))) Z2,.l (.a (.a Z0 (.c 1)) Z3) Z4,.l Z4 (.c 50000)] (.l Z2 (.c 50000)) [[0,0,1,1,1,1],[0,0,1,0,0,1]] R0 _ _ _ _ _ this hrl hl
     walk_at"w";refine Ki (by rw[LIM];exact lin 1 0 [.l Z0 (.c 50000)] (.l Z0 (.c 8000000)) [] R0 _ hql) (fun b hb=>?_);have hab:a≠b:=Bg hal hb;walk_at"w";refine Ak (j:=0) (Ac (Aa _ _ _)) (by rw[List.length_map,LIM];have:=IJ q;exact lin 2 0 [.l Z0 (.a Z1 (.c 1)),.l Z1 (.c 50000)] (.l Z0 (.c 8000000)) [] R0 _ _ this hql) (by decide) (by rw[List.getElem?_map,GT];rfl) ?_;walk_at"w";refine Af (fun z=>?_) (fun z=>?_)
     ·have hz:AA q≠[]:=by simpa using z
      rw[if_neg hz] at hel;have hwl:(AA q).length<=q.length:=by
       have:=congrArg List.length (CB q);rw[List.length_append] at this;exact lin 3 0 [.e (.a Z0 Z1) Z2] (.l Z0 Z2) [[1,0,1]] R0 _ _ _ this
      walk_at"w";refine Bz (lo:=none) (hi:=some ((20:Nat):Int)) rfl rfl (by rw[LIM];exact lin 2 0 [.l Z0 (.c 50000),.l Z1 Z0] (.l Z1 (.c 8000000)) [] R0 _ _ hql hwl) ?_;rw[Hn];have hw20:((AA q).take 20).length<=20:=by rw[List.length_take];exact U66 _
      walk_at"w";refine hQ2 _ _ _ (fun z=>by cases z) ?_;have:=h2 (.junk ((AA q).take 20)) (by rw[hp,AT hel];rfl);walk_at"w";exact AB (hs.trans (SubS.new hb)) this
     ·have hw:AA q=[]:=by
       cases hh:AA q with
       | nil=>rfl
       | cons=>rw[hh] at z;simp at z
      rw[if_pos hw] at hel;walk_at"w";refine BB (by rw[Ab _ _ hab];exact hal) ?_;walk_at"w";refine Bz (lo:=some ((1:Nat):Int)) (hi:=some ((i.length+1:Nat):Int)) rfl (by show some (some _)=_;congr 2;exact lin 1 0 [] (.E (.s (.o (.a Z0 (.c 2))) (.c 1)) (.o (.a Z0 (.c 1)))) [] R0 _) hlim ?_;rw[GH];walk_at"w";refine BC (by rw[Ab _ _ hab];exact hal) hacl ?_;walk_at"w";have hi:((123::r).take (i.length+1)).drop 1=i:=by
       rw[List.take_succ_cons,hrq];simp
      rw[hi];refine hQ1 _ _ (SM (i.length+2) i q _ rfl ?_ ?_ hdr hel)
      ·exact(hs.trans (SubS.new hb)).turn ha
      ·rw[Aa];unfold Ae;simp
   ·have hc:c≠123:=by simpa using z
    have hel:Bu (c::r)=some (.ok (AA (c::r),rest (c::r))):=by
     unfold Bu;rw[hsk];dsimp only;rw[if_neg hc]
    walk_at"w";refine Ki hlim (fun b hb=>?_);have hab:a≠b:=Bg hal hb;walk_at"w";refine Ak (j:=0) (Ac (Aa _ _ _)) (by rw[List.length_map,LIM];have:=IJ (c::r);rw[List.length_cons] at this;exact lin 4 0 [.l (.a (.a Z0 (.c 1)) Z1) Z2,.l Z3 (.a (.a Z0 (.c 1)) (.c 1)),.l Z2 (.c 50000)] (.l Z3 (.c 8000000)) [] R0 _ _ _ _ hrl this hl) (by decide) (by rw[List.getElem?_map,GT];rfl) ?_;have hwr:=congrArg List.length (CB (c::r));rw[List.length_append] at hwr;have hwl:(AA (c::r)).length<=LIM:=by exact lin 4 0 [.e (.a Z0 Z1) Z2,.l Z2 Z3] (.l Z0 Z3) [[1,0,1,1]] R0 _ _ _ _ hwr hlim
    walk_at"w";refine BB (by rw[Ab _ _ hab];exact hal) ?_;walk_at"w";refine Bz (lo:=none) (hi:=some ((AA (c::r)).length:Int)) rfl rfl hlim ?_;rw[Hn];walk_at"w";refine BC (by rw[Ab _ _ hab];exact hal) hacl ?_;walk_at"w";have z0_:=NW (c::r);have ht:=z0_.1;have hdr:=z0_.2;clear z0_;rw[ht];refine hQ1 _ _ (SM ((AA (c::r)).length) _ _ _ rfl ?_ ?_ hdr hel)
    ·exact(hs.trans (SubS.new hb)).turn ha
    ·rw[Aa];unfold Ae;simp
  ·intro m τ' z4_;refine Us z4_ fun sz x q w z5_ hs' hal' hdr hel=>?_;clear z4_;subst z5_;walk_at"w";refine Bz (lo:=some (sz:Int)) (hi:=none) rfl rfl hlim ?_;rw[D0,hdr];have hlt:=Cv hel;rw[List.length_cons] at hlt;have hsl:=HG q;walk_at"w";refine Nm (by rw[LIM];exact lin 4 0 [.l (.a (.a Z0 (.c 1)) Z1) Z2,.l Z2 (.c 50000),.t Z3 (.a Z0 (.c 1))] (.l Z3 (.c 8000000)) [] R0 _ _ _ _ hrl hl hlt) ?_;walk_at"w";refine Ai ((skip q).length) (by rw[List.length_cons];exact lin 3 0 [.l Z0 Z1,.t Z1 (.a Z2 (.c 1))] (.t Z0 (.a Z2 (.c 1))) [] R0 _ _ _ hsl hlt) (Vc (skip q) (acc++[x]) _ _ rfl hs' hal' rfl (by simp;exact lin 5 0 [.l (.a (.a Z0 (.c 1)) Z1) Z2,.l Z3 Z4,.t Z4 (.a Z0 (.c 1))] (.l (.a Z3 (.a Z1 (.c 1))) Z2) [] R0 _ _ _ _ _ hrl hsl hlt) (FV q) ?_);rw[hp,B4 hel,DO (FV q)];cases A0 q <;> simp[Except.map]
end
section
noncomputable abbrev M8 (G:Gam) (k:Nat) (elt cond:X) (caps:List Nat) (m:Loc) (Q:QV) (v:V) (σ:Store):Prop:=QN k (wp G elt) (wp G cond) caps m Q v σ
theorem Hm {G:Gam} {k:Nat} {elt cond src:X} {caps:List Nat} (hc:(caps.all fun i=>((m[i]?).join).isSome)=true) (h:(wp G src).x m σ (M8 G k elt cond caps m Q) E):(wp G (.comp k elt cond src caps)).x m σ Q E:=⟨hc,h⟩
theorem DA {G:Gam} {k:Nat} {elt cond:X} {caps:List Nat} {ep:Option Nat} (g:V->Option V) (hi:AW σ v=some (xs,ep)) (hl:xs.length<=LIM)
  (hs:∀y∈xs,∃m',Gw k y caps m=some m'/\(∀Qt:QB,Qt (g y).isSome σ->(wp G cond).t m' σ Qt (fun _ _=>False))/\∀w,g y=some w->∀Qv:QV,Qv w σ->(wp G elt).x m' σ Qv (fun _ _=>False))
  (h:∀a,σ a=none->Q (.ref a) (σ.set a (.lst (xs.filterMap g)))):M8 G k elt cond caps m Q v σ:=by
 refine AZ xs ep hi hl (B9 (fun ys acc σ'=>σ'=σ/\∃pre,xs=pre++ys/\acc=pre.filterMap g) ⟨rfl,Ai [] rfl rfl⟩ ?_ ?_)
 ·intro y ys acc σ' z1_;have z2_:=z1_.1;have z3_:=z1_.2;clear z1_;subst z2_;refine e1a2 z3_ fun pre e1 z4_=>?_;clear z3_;subst z4_;refine B2 (hs y (by rw[e1];simp)) fun m' h1 h2 h3=>?_;refine Bk (Nat.le_trans (List.length_filterMap_le _ _) (Nat.le_trans (by rw[e1];simp) hl)) hi (Ai m' h1 (h2 _ ?_));cases hg:g y with
  | none =>
   refine(?_:_/\_);exact⟨rfl,Ai (pre++[y]) (by rw[e1];simp) (by rw[List.filterMap_append];simp[hg])⟩
  | some w =>
   exact h3 w hg _ (⟨rfl,pre++[y],by rw[e1];simp,by rw[List.filterMap_append];simp[hg]⟩ : _/\_)
 ·intro acc σ' z5_;have z6_:=z5_.1;have z7_:=z5_.2;clear z5_;subst z6_;refine e1a2 z7_ fun pre e1 z8_=>?_;clear z7_;subst z8_;rw[List.append_nil] at e1;subst e1;exact⟨hi,h⟩
theorem in_str:BR (.str [c]) (.str s) σ=some (s.contains c):=rfl
theorem LE {xs:List T} (h:Ag σ (.ref a)=some (Ae xs)):BR (.str k) (.ref a) σ=some (xs.any fun x=>x==k):=by
 have h1:C3 σ (.ref a)=some (Ae xs):=h;have h3:BR (.str k) (.ref a) σ=match C3 σ (.ref a) with
   | some vs=>if vs.all V.isStr then some (vs.any fun x=>V.same x (.str k)) else none
   | none=>(dictAt σ (.ref a)).map fun kvs=>kvs.any fun p=>p.1==k:=by
  cases k with
  | nil=>rfl
  | cons c r=>cases r <;> rfl
 rw[h3,h1];have:(Ae xs).all V.isStr=true:=by unfold Ae;rw[List.all_map,List.all_eq_true];intro x _;rfl
 dsimp only;rw[if_pos this];unfold Ae;rw[List.any_map];congr 2
theorem O4 {x:T} {b:Bool} (hl:x.length<=1000000) (h:Q (.str (Cg x b)) σ):lev (n+1) false .l_form [.str x,.bool b] σ Q E:=by
 have hlim:x.length<=LIM:=Nat.le_trans hl (by decide);refine AD (m:=[some (.str x),some (.bool b)]) rfl rfl rfl ?_;dsimp only[IQ];unfold Cg at h;refine BN (fun m σ'=>m=[some (.str x),some (.bool b)]/\σ'=σ/\Ea x b=false) (fun Q' hQ1 hQ2=>?_) ?_
 ·have yes:Ea x b=true->ws (lev n) none (.cons (.ret (.bin .add (.bin .add (.cStr [123]) (.var 0)) (.cStr [125]))) .nil) [some (.str x),some (.bool b)] σ Q' (Es E):=by
   intro hb;rw[if_pos hb] at h;walk_at"w";refine hQ2 _ _ _ (fun z=>by cases z) ?_;walk_at"w";exact Ah h
  have no:Ea x b=false->ws (lev n) none .nil [some (.str x),some (.bool b)] σ Q' (Es E):=fun hb=>Ku (hQ1 _ _ (Bk rfl rfl hb));refine He (RX (F7 (F9 (AI rfl (CL (cs_eq_str (BA ?_)))))));cases x with
  | nil =>
   refine ifQ_t ?_;exact yes rfl
  | cons c r =>
   have hb:Ea (c::r) b=((c::r).contains 32||(c==123||(b&&c==35))):=by
    unfold Ea;show (false||(c::r).contains 32||(some c==some 123)||(b&&(some c==some 35)))=_;rw[Bool.false_or,Bool.or_assoc];rfl
   refine ifQ_f ?_;refine RX (Pd (OM (CL (AI rfl (inQ_of in_str (BA ?_))))));refine AF (fun z=>?_) (fun z=>?_)
   ·exact yes (by rw[hb,z];rfl)
   ·rw[z,Bool.false_or] at hb;walk_at"w";refine AM hlim (by decide) (c:=c) rfl ?_;walk_at"w";rw[F2];refine AF (fun z=>?_) (fun z=>?_)
    ·exact yes (by rw[hb,z];rfl)
    ·rw[z,Bool.false_or] at hb;refine NZ (TO (AI rfl (BA ?_)));cases b with
     | false=>exact no (by rw[hb];rfl)
     | true =>
      refine ifQ_t (F7 (F9 (IG (AI rfl (Dn (AM hlim (by decide) (c:=c) rfl (CL (cs_eq_str (BA ?_)))))))));rw[F2];refine AF (fun z=>?_) (fun z=>?_)
      ·exact yes (by rw[hb,z];rfl)
      ·exact no (by rw[hb,z];rfl)
 ·intro m σ' z1_;have z2_:=z1_.1;have z3_:=z1_.2.1;have hb:=z1_.2.2;clear z1_;subst z2_;subst z3_;rw[hb] at h;walk_at"w";exact Ah h
theorem Ow (xs:List T):Bs true xs=(List.range xs.length).map fun i=>Cg (xs.getD i []) (i==0):=by
 have aux:∀(l:List T),Bs false l=(List.range l.length).map fun i=>Cg (l.getD i []) false:=by
  intro l;induction l with
  | nil=>rfl
  | cons x r ih =>
   rw[Bs,List.length_cons,List.range_succ_eq_map,List.map_cons,List.map_map,ih];rfl
 cases xs with
 | nil=>rfl
 | cons x r=>rw[Bs,List.length_cons,List.range_succ_eq_map,List.map_cons,List.map_map,aux];rfl
theorem Fj {n r:Nat} {xs:List T} (hr:Ag σ (.ref r)=some (Ae xs)) (hw:weigh xs<=100000) (h:Q (.str (DY xs)) σ):lev (n+2) false .l_text [.ref r] σ Q E:=by
 have hs:=Ba xs;have hxl:(Ae xs).length<=LIM:=by rw[Ad,LIM];exact U28 _ _ _ hs hw
 refine AD (m:=[some (.ref r)]) rfl rfl rfl ?_;dsimp only[Ja];refine AO (Kl (Q0 (CL ⟨.str rfl,AY (Hm rfl ?_)⟩)));walk_at"w";rw[Ad];refine Lf (by rw[Int.natAbs_natCast];exact TA _ _ _ hs hw) ?_;have hrl:Cl 0 (xs.length:Int) 1=(List.range xs.length).map fun (i:Nat)=>(i:Int):=by
  unfold Cl;have:(Builtin.Range.rangeSize 0 (xs.length:Int) 1).toNat=xs.length:=by
   unfold Builtin.Range.rangeSize;rw[if_pos (by decide),Int.ediv_one];split <;> first | exact TS _ | exact Uo _ (by assumption)
  rw[this];congr 1;funext i;exact U32 _
 refine DA (xs:=(List.range xs.length).map fun (i:Nat)=>V.int i) (ep:=none) (fun y=>match y with | .int i=>some (.str (Cg (xs.getD i.toNat []) (i.toNat==0))) | _=>none) ?_ (by rw[List.length_map,List.length_range,LIM];exact U28 _ _ _ hs hw) ?_ (fun a ha=>?_)
 ·unfold AW;dsimp only;rw[if_pos (Qd (by decide) (by rw[Int.natAbs_natCast];exact TA _ _ _ hs hw) (by decide) (by decide)),hrl,List.map_map];rfl
 ·intro y hy;rw[List.mem_map] at hy;refine e1a2 hy fun i hi z1_=>?_;clear hy;subst z1_;rw[List.mem_range] at hi;refine B9 [some (.int i),some (.ref r)] rfl (fun Qt hQ=>G3 hQ) (fun w hw Qv hQ=>?_);cases hw
  have hxi:xs[i]?=some (xs.getD i []):=by rw[List.getD_eq_getElem?_getD,List.getElem?_eq_getElem hi];rfl
  walk_at"w";refine Ak (j:=i) hr hxl rfl (Am hxi) ?_;walk_at"w";have hm:=FG (List.mem_of_getElem? hxi);have hd:decide ((i:Int)=0)=(i==0):=by cases i with
   | zero=>rfl
   | succ i=>rw[decide_eq_false (by exact lin 1 0 [] (.n (.E (.o (.a Z0 (.c 1))) (.c 0))) [[1,0]] R0 _)];rfl
  rw[hd];refine O4 (by exact lin 2 0 [.l (.a Z0 (.c 1)) Z1,.l Z1 (.c 100000)] (.l Z0 (.c 1000000)) [] R0 _ _ hm hw) ?_;exact hQ
 ·have hfm:((List.range xs.length).map fun (i:Nat)=>V.int i).filterMap (fun y=>match y with | .int i=>some (.str (Cg (xs.getD i.toNat []) (i.toNat==0))) | _=>none)=Ae (Bs true xs):=by
   rw[List.filterMap_map,Ow];unfold Ae;rw[List.map_map,← List.filterMap_eq_map];rfl
  rw[hfm];have hf:=FZ true xs;walk_at"w";refine CD (ts:=Bs true xs) (Ac (Aa _ _ _)) (DD _) (by decide) (by rw[LIM,D8];exact U65 _ _ _ _ hs hf hw) ?_;walk_at"w";exact AB (SubS.new ha) h
end
section
noncomputable def pv (p:T × T):V:=.tup [.str p.1,.str p.2]
noncomputable def tp (ps:List (T × T)):List V:=ps.map pv
theorem Hi (ps:List (T × T)):(tp ps).length=ps.length:=by unfold tp;simp
noncomputable def fv (f:AG):V:=.tup [.int 1,.str f.1,.tup (Ae f.2)]
theorem FA {n p:Nat} {k v:T} (hp:Ag σ (.ref p)=some (tp ps)) (hl:ps.length<=100000) (h:∀a,σ a=none->Q (.ref a) (σ.set a (.lst (tp (AK ps k v))))) :
  lev (n+1) false .l_put [.ref p,.str k,.str v] σ Q E:=by
 have hpl:(tp ps).length<=LIM:=by rw[Hi,LIM];exact U10 _ hl
 refine AD (m:=[some (.ref p),some (.str k),some (.str v)]) rfl rfl rfl ?_;dsimp only[KN];refine AO (He (Pd (OM (AI rfl (Hm rfl (AI rfl ?_))))));refine DA (xs:=tp ps) (ep:=none) (fun y=>match y with | .tup [a,_]=>some a | _=>none) (DB _ hp) hpl ?_ (fun a ha=>?_)
 ·intro y hy;unfold tp at hy;rw[List.mem_map] at hy;refine e1a2 hy fun q _ z1_=>?_;clear hy;subst z1_;refine B9 [some (.str q.1),some (.str q.2)] rfl (fun Qt hQ=>G3 hQ) (fun w hw Qv hQ=>?_);obtain rfl:=xSS hw;exact AI rfl hQ
 have hfm:(tp ps).filterMap (fun y=>match y with | .tup [a,_]=>some a | _=>none)=Ae (ps.map Prod.fst):=by
  unfold tp Ae;rw[List.filterMap_map,List.map_map,← List.filterMap_eq_map];rfl
 rw[hfm];have hany:(ps.map Prod.fst).any (fun x=>x==k)=ps.any fun q=>q.1==k:=by rw[List.any_map];rfl
 refine inQ_of (r:=ps.any fun q=>q.1==k) (by rw[LE (Ac (Aa _ _ _)),hany]) ?_;have hp2:Ag (σ.set a (.lst (Ae (ps.map Prod.fst)))) (.ref p)=some (tp ps):=Al hp (SubS.new ha);have fin:∀τ b,SubS σ τ->τ b=none->dropQ Q (.ref b) (τ.set b (.lst (tp (AK ps k v)))):=fun τ b hs hb =>
  AB (SubS.put (hs.turn (hs.none hb)) (Aa _ _ _)) (h b (hs.none hb))
 walk_at"w";refine AF (fun z=>?_) (fun z=>?_)
 ·refine AO (Kl (Hm rfl (AI rfl ?_)));refine DA (xs:=tp ps) (ep:=none) (fun y=>match y with | .tup [.str a,.str b]=>some (pv (if (a==k)=true then (a,v) else (a,b))) | _=>none) (DB _ hp2) hpl ?_ (fun b hb=>?_)
  ·intro y hy;unfold tp at hy;rw[List.mem_map] at hy;refine e1a2 hy fun q _ z2_=>?_;clear hy;subst z2_;refine B9 [some (.str q.1),some (.str q.2),some (.str v),some (.str k)] rfl (fun Qt hQ=>G3 hQ) (fun w hw Qv hQ=>?_);obtain rfl:=xSS hw;walk_at"w";refine Af (fun z=>?_) (fun z=>?_)
   ·rw[if_pos (by simpa using z)] at hQ;walk_at"w";exact hQ
   ·rw[if_neg (by simpa using z)] at hQ;walk_at"w";exact hQ
  ·have hfm2:(tp ps).filterMap (fun y=>match y with | .tup [.str a,.str b]=>some (pv (if (a==k)=true then (a,v) else (a,b))) | _=>none)=tp (AK ps k v):=by
    unfold AK tp;rw[if_pos z,List.filterMap_map,List.map_map,← List.filterMap_eq_map];rfl
   rw[hfm2];walk_at"w";exact fin _ b (SubS.new ha) hb
 ·walk_at"w";refine AL (by simp[LIM]) (fun b hb=>?_);refine CW (xs:=tp ps) (ys:=[pv (k,v)]) (Al hp2 (SubS.new hb)) (Ac (Aa _ _ _)) ?_;refine AL (by rw[List.length_append,Hi,LIM];simp;exact lin 1 0 [.l Z0 (.c 100000)] (.l Z0 (.c 7999999)) [] R0 _ hl) (fun c hc=>?_);have:tp ps++[pv (k,v)]=tp (AK ps k v):=by
   unfold AK;rw[z,if_neg (by decide)];unfold tp;simp
  rw[this];walk_at"w";exact fin _ c ((SubS.new ha).trans (SubS.new hb)) hc
theorem LB {n p:Nat} (hp:Ag σ (.ref p)=some (tp ps)) (hl:ps.length<=100000) (h:Q (Ds (ps.lookup k)) σ) :
  lev (n+1) false .l_at [.ref p,.str k] σ Q E:=by
 refine AD (m:=[some (.ref p),some (.str k),none,none]) rfl rfl rfl ?_;dsimp only[MC];walk_at"w";let J1:List V->Loc->Store->Prop:=fun ys m σ'=>∃(post:List (T × T)) (y z:Option V),ys=tp post/\m=[some (.ref p),some (.str k),y,z]/\σ'=σ/\ps.lookup k=post.lookup k
 refine Lg J1 hp (by rw[Hi,LIM];exact U10 _ hl) (Lc ps none none rfl rfl rfl rfl) ?_ ?_
 ·intro y ys m σ' z1_;refine JD z1_ fun post y0 z0 hy z2_ z3_ hlk=>?_;clear z1_;subst z2_;subst z3_;cases post with
  | nil=>exact xCN hy
  | cons q post =>
   obtain⟨q1,q2⟩:=q;unfold tp at hy;rw[List.map_cons] at hy;refine xCC hy fun z4_ z5_=>?_;subst z4_;subst z5_;refine⟨hp,BD (.str q1) (.str q2) rfl ?_⟩;walk_at"w";rw[List.lookup_cons] at hlk;refine Af (fun z=>?_) (fun z=>?_)
   ·subst z;simp at hlk;rw[hlk] at h;walk_at"w";exact Ah h
   ·have:(k==q1)=false:=by simpa using fun e:k=q1=>z e.symm
    rw[this] at hlk;walk_at"w";exact Lc post _ _ rfl rfl rfl hlk
 ·intro m σ' z6_;refine JD z6_ fun post y0 z0 hy z7_ z8_ hlk=>?_;clear z6_;subst z7_;subst z8_;have:post=[]:=by cases post with
   | nil=>rfl
   | cons=>exact xNC hy
  subst this;rw[hlk] at h;refine⟨hp,?_⟩;walk_at"w";exact Ah h
theorem Df (e:Ag σ (.ref a)=some xs) (h:Q (.bool false) σ):bfSem .isTup [.ref a] σ Q:=.tup_f xs e h
theorem Dw (hl:t.length<=10000)
  (h1:∀ps,Ap t=.ok ps->∀a,σ a=none->Q (.ref a) (σ.set a (.lst (tp ps))))
  (h2:∀f,Ap t=.error f->Q (fv f) σ):lev (n+3) false .l_pairs [.str t] σ Q E:=by
 refine AD (m:=[some (.str t),none,none,none]) rfl rfl rfl ?_;dsimp only[HN];walk_at"w";refine Lp (by exact lin 1 0 [.l Z0 (.c 10000)] (.l Z0 (.c 50000)) [] R0 _ hl) (fun xs hp a ha=>?_) (fun e hp=>?_)
 ·have hpp:Ap t=if xs.length % 2=1 then .error missing else .ok (Bv xs []):=by unfold Ap;rw[hp]
  have hxl:xs.length<=10000:=Nat.le_trans (Jk _ _ (Nat.le_refl _) hp) hl;have hxv:(Ae xs).length<=LIM:=by rw[Ad,LIM];exact T9 _ hxl
  walk_at"w";refine Df (Ac (Aa _ _ _)) ?_;walk_at"w";refine mod_int (by decide) ?_;walk_at"w";rw[Ad];refine Af (fun z=>?_) (fun z=>?_)
  ·rw[if_pos (OZ z)] at hpp;walk_at"w";exact AB (SubS.new ha) (h2 _ hpp)
  ·rw[if_neg (Oa z)] at hpp;walk_at"w";refine AL (by decide) (fun d hd=>?_);have had:a≠d:=Bg (Aa _ _ _) hd;walk_at"w";refine len_ref (Ac (by rw[Ab _ _ had];exact Aa _ _ _)) hxv ?_;walk_at"w";rw[Ad];have hna:((xs.length:Nat):Int).natAbs < 2 ^ 40:=by rw[Int.natAbs_natCast];exact lin 1 0 [.l Z0 (.c 10000)] (.t Z0 (.c 1099511627776)) [] R0 _ hxl
   refine O7 (by decide) hna (by decide) (by decide) ?_;let J2:EF:=fun j m τ=>∃(acc:List (T × T)) (d:Nat) (y:Option V),m=[some (.str t),some (.ref a),some (.ref d),y]/\SubS (σ.set a (.lst (Ae xs))) τ/\σ d=none/\τ d=some (.lst (tp acc))/\Bv xs []=Bv (xs.drop (2*j)) acc/\acc.length<=j
   refine CG J2
    (xs.length / 2) (by decide) hna (by decide) (by decide) (Oy _ z) (by rw[LIM];omega)
    (NG [] d none rfl (SubS.new hd) ((SubS.new ha).none hd) (Aa _ _ _) rfl (Nat.le_refl _)) ?_ ?_
   ·intro j m τ hj z1_;refine Pk z1_ fun acc d y z2_ hs hd0 hda e1 e2=>?_;clear z1_;subst z2_;obtain⟨k,hk⟩ : ∃k,xs[2*j]?=some k:=⟨_,List.getElem?_eq_getElem (by omega)⟩;obtain⟨v,hv⟩ : ∃v,xs[2*j+1]?=some v:=⟨_,List.getElem?_eq_getElem (by omega)⟩;have hla2:Ag τ (.ref a)=some (Ae xs):=Ac (hs _ _ (Aa _ _ _));walk_at"w";refine Ak (j:=2*j) hla2 hxv (by exact U69 _) (Am hk) ?_;walk_at"w";refine Ak (j:=2*j+1) hla2 hxv (by exact U68 _) (Am hv) ?_;walk_at"w";refine FA (Ac hda) (by omega) (fun d2 hd2=>?_);walk_at"w";refine NG (AK acc k v) d2 _ rfl (hs.trans (SubS.new hd2)) ((SubS.new ha).none (hs.none hd2)) (Aa _ _ _) ?_ ?_
    ·rw[e1,Go xs acc j k v hk hv]
    ·unfold AK;split <;> simp <;> first | exact U4 _ _ e2 | assumption
   ·intro m τ z3_;refine Pk z3_ fun acc d y z4_ hs hd0 hda e1 e2=>?_;clear z3_;subst z4_;walk_at"w";rw[show xs.drop (2*(xs.length / 2))=[] from List.drop_of_length_le (QX _ z)] at e1;rw[e1] at hpp;exact AB (SubS.put ((SubS.new ha).trans hs) hda) (h1 _ hpp d hd0)
 ·have hpp:Ap t=.error (Cb e):=by unfold Ap;rw[hp]
  have hq:=h2 _ hpp;have hln:e.pre.length<=30/\e.suf.length<=100:=by
   cases e with
   | brace=>exact⟨by decide,by decide⟩
   | junk x =>
    have hx:=GW hp;refine⟨Nat.zero_le _,?_⟩;unfold Bad.suf;rw[List.length_append,List.length_append,show (tx " element in braces followed by \"").length=32 from rfl,show (tx "\" instead of space").length=18 from rfl];exact TN _ hx
  unfold RO;walk_at"w";exact Ah hq
theorem E0 {n p:Nat} (hp:Ag σ (.ref p)=some (tp ps)) (hw:weigh (Ao ps)<=100000) (h:Q (.str (AE ps)) σ) :
  lev (n+3) false .l_dict [.ref p] σ Q E:=by
 have hil:(Ao ps).length<=100000:=by have:=Ba (Ao ps);exact U70 _ _ _ this hw
 have hpl:=Cs ps;refine AD (m:=[some (.ref p),none,none,none]) rfl rfl rfl ?_;dsimp only[IN];walk_at"w";refine AL (by decide) (fun a ha=>?_);have hp2:∀c,Ag (σ.set a c) (.ref p)=some (tp ps):=fun c=>Al hp (SubS.new ha);walk_at"w";let J3:List V->Loc->Store->Prop:=fun ys m σ'=>∃(pre post:List (T × T)) (y z:Option V),ps=pre++post/\ys=tp post/\m=[some (.ref p),some (.ref a),y,z]/\σ'=σ.set a (.lst (Ae (Ao pre)))
 refine Lg J3
  (hp2 _) (by rw[Hi,LIM];exact U71 _ _ hpl hil) (Sh [] ps none none rfl rfl rfl rfl) ?_ ?_
 ·intro y ys m σ' z1_;refine Rv z1_ fun pre post y0 z0 hx hy z2_ z3_=>?_;clear z1_;subst z2_;subst z3_;cases post with
  | nil=>exact xCN hy
  | cons q post =>
   obtain⟨k,v⟩:=q;unfold tp at hy;rw[List.map_cons] at hy;refine xCC hy fun z4_ z5_=>?_;subst z4_;subst z5_;have hil2:(Ao pre).length+2<=(Ao ps).length:=by
    rw[hx,BP,Bj];simp
   refine⟨hp2 _,BD (.str k) (.str v) rfl ?_⟩;walk_at"w";refine BB (Aa _ _ _) ?_;walk_at"w";refine BC (Aa _ _ _) (by rw[Ad,LIM];exact U72 _ _ hil2 hil) ?_;rw[Aj];walk_at"w";refine BB (Aa _ _ _) ?_;walk_at"w";refine BC (Aa _ _ _) (by rw[List.length_append,Ad,LIM];simp;exact U73 _ _ hil2 hil) ?_;rw[Aj];walk_at"w";refine Sh (pre++[(k,v)]) post _ _ (by rw[hx];simp) rfl rfl ?_;rw[BP,Bj];unfold Ae;simp[Ao]
 ·intro m σ' z6_;refine Rv z6_ fun pre post y0 z0 hx hy z7_ z8_=>?_;clear z6_;subst z7_;subst z8_;have:post=[]:=by cases post with
   | nil=>rfl
   | cons=>exact xNC hy
  subst this;rw[List.append_nil] at hx;subst hx;refine⟨hp2 _,?_⟩;walk_at"w";refine Fj (Ac (Aa _ _ _)) hw ?_;walk_at"w";exact AB (SubS.new ha) h
end
section
noncomputable def s10:T:=[48,49,50,51,52,53,54,55,56,57]
noncomputable def s16:T:=[48,49,50,51,52,53,54,55,56,57,97,98,99,100,101,102]
noncomputable def dch (sn:T) (base:Int) (c:Nat):Bool:=match FO sn c with
 | none=>!sn.contains c&&decide (BV c < 0∨base<=BV c)
 | some i=>sn.contains c&&(decide (¬(BV c < 0∨base<=BV c))&&decide ((i:Int)=BV c))
theorem PY:∀c∈Cp,dch s10 10 c=true:=by decide
theorem P6:∀c∈Cp,dch s16 16 c=true:=by decide
theorem Nw (h:c∈AQ t):c∈t:=by
 unfold AQ at h;rw[List.mem_reverse] at h;have:=(List.dropWhile_sublist _).subset h;rw[List.mem_reverse] at this;exact(List.dropWhile_sublist _).subset this
theorem P0 {c i:Nat} (hi:FO s c=some i) (h:Q (.int i) σ):bmSem .index (.str s) [.str [c]] σ Q:=.index hi h
theorem OV (c d:Nat):(([d]:T)==[c])=(c==d):=by
 by_cases h:c=d
 ·subst h;simp
 ·have h2:¬d=c:=fun e=>h e.symm;have e1:(c==d)=false:=by simpa using h
  have e2:(([d]:T)==[c])=false:=by simpa using h2
  rw[e1,e2]
theorem D3 (ht:okt t) (hl:t.length<=10000) (h:Q (K4 (AN t)) σ):lev (n+1) false .l_whole [.str t] σ Q E:=by
 refine AD (m:=[some (.str t),none,none,none,none,none]) rfl rfl rfl ?_;dsimp only[GZ];unfold AN at h;have hsl:=FU t;have hso:okt (AQ t):=fun c hc=>ht c (Nw hc);refine AO (DC (Q0 (AI rfl ⟨.str rfl,AY (CL (C8 (KT (by rw[LIM];exact T9 _ hl) (AU (AO (DC (Dn (AU ?_))))))))⟩)));generalize hS:AQ t=S at *;refine BN (fun m τ=>SubS σ τ/\m=[some (.str t),some (.str (Bc S).2),some (.int (Bc S).1),none,none,none]) (fun Q' hQ1 hQ2=>?_) ?_
 ·walk_at"w";refine Bz (lo:=none) (hi:=some ((1:Nat):Int)) rfl rfl (by rw[LIM];exact TX _ _ hl hsl) ?_;rw[Hn];walk_at"w";refine AL (by decide) (fun a ha=>?_);refine inQ_of (r:=[[43],[45]].any fun x=>x==S.take 1) (LE (xs:=[[43],[45]]) (Ac (Aa _ _ _))) ?_;walk_at"w";cases S with
  | nil =>
   refine AF (fun z=>absurd z (by decide)) (fun _=>?_);walk_at"w";exact hQ1 _ _ ⟨SubS.new ha,rfl⟩
  | cons c r =>
   have hany:([[43],[45]].any fun x:T=>x==(c::r).take 1)=(c==43||c==45):=by
    rw[List.any_cons,List.any_cons,List.any_nil,Bool.or_false];show ((([43]:T)==[c])||(([45]:T)==[c]))=_;rw[OV,OV]
   rw[hany];have hlim:(c::r).length<=LIM:=by rw[LIM];exact TX _ _ hl hsl
   refine AF (fun z=>?_) (fun z=>?_)
   ·walk_at"w";refine AM hlim (by decide) (c:=c) rfl ?_;walk_at"w";have tl:∀s:Int,(s,r)=Bc (c::r)->G0 (lev n) none (.cons (.asg 1 (.slc (.var 1) (.cInt 1) .no)) .nil) Q' (Es E) .next [some (.str t),some (.str (c::r)),some (.int s),none,none,none] (σ.set a (.lst (Ae [[43],[45]]))):=by
     intro s hs;walk_at"w";refine Bz (lo:=some ((1:Nat):Int)) (hi:=none) rfl rfl hlim ?_;rw[D0];walk_at"w";refine hQ1 _ _ ⟨SubS.new ha,?_⟩;rw[← hs];rfl
    simp at z;refine Af (fun z2=>?_) (fun z2=>?_)
    ·simp at z2;subst z2;walk_at"w1";walk_at"w1";walk_at"w1";exact tl (-1) rfl
    ·have z2':c≠45:=by simpa using z2
     have z3:c=43:=z.elim id fun e=>absurd e z2';subst z3;walk_at"w1";exact tl 1 rfl
   ·simp at z;walk_at"w";refine hQ1 _ _ ⟨SubS.new ha,?_⟩;have hs:Bc (c::r)=(1,c::r):=by unfold Bc;dsimp only;rw[if_neg z.1,if_neg z.2]
    rw[hs];rfl
 intro m τ z1_;have hsub:=z1_.1;have z2_:=z1_.2;clear z1_;subst z2_;have hRo:okt (Bc S).2/\(Bc S).2.length<=S.length:=by
  unfold Bc;split
  ·exact⟨hso,Nat.le_refl _⟩
  ·rename_i c r;split
   ·exact⟨fun d hd=>hso d (.tail _ hd),by simp⟩
   ·split
    ·exact⟨fun d hd=>hso d (.tail _ hd),by simp⟩
    ·exact⟨hso,Nat.le_refl _⟩
 generalize (Bc S).2=R at *;have hsg:(Bc S).1=1∨(Bc S).1=-1:=by
  unfold Bc;split
  ·exact .inl rfl
  ·split
   ·exact .inl rfl
   ·split
    ·exact .inr rfl
    ·exact .inl rfl
 generalize (Bc S).1=sg at *;have hlim:R.length<=LIM:=by rw[LIM];omega
 refine AO (DC (CL (AU ?_)));refine BN (fun m τ'=>τ'=τ/\∃(sn R2:T),m=[some (.str t),some (.str R2),some (.int sg),some (.str sn),none,none]/\okt R2/\R2.length<=LIM/\((sn=s10/\FR R=if R2=[] then none else dv 10 0 R2)∨(sn=s16/\R2≠[]/\FR R=dv 16 0 R2))) (fun Q' hQ1 hQ2=>?_) ?_
 ·have no:¬(R.take 2=[48,120]/\2 < R.length)->Q' .next [some (.str t),some (.str R),some (.int sg),some (.str s10),none,none] τ:=by
   intro hn;refine hQ1 _ _ ⟨rfl,Gz s10 R rfl hRo.1 hlim (.inl ⟨rfl,?_⟩)⟩;unfold FR;rw[if_neg hn]
  walk_at"w";refine Bz (lo:=none) (hi:=some ((2:Nat):Int)) rfl rfl hlim ?_;rw[Hn];walk_at"w";refine Af (fun z=>?_) (fun z=>?_)
  ·walk_at"w";refine Af (fun z2=>?_) (fun z2=>?_)
   ·walk_at"w";refine Bz (lo:=some ((2:Nat):Int)) (hi:=none) rfl rfl hlim ?_;rw[D0];walk_at"w";refine hQ1 _ _ ⟨rfl,Gz s16 (R.drop 2) rfl (fun c hc=>hRo.1 c (List.mem_of_mem_drop hc)) (by rw[List.length_drop];exact lin 2 0 [.l Z0 Z1] (.l (.s Z0 (.c 2)) Z1) [[1,0,1],[0,0,1]] R0 _ _ hlim) (.inr (Bk rfl ?_ ?_))⟩
    ·intro e;have:=congrArg List.length e;rw[List.length_drop] at this;simp at this;exact lin 1 0 [.T (.c 2) (.o Z0),.e (.s Z0 (.c 2)) (.c 0)] .f [[1,0,1,0]] R0 _ z2 this
    ·unfold FR;rw[if_pos ⟨z,by exact lin 1 0 [.T (.c 2) (.o Z0)] (.t (.c 2) Z0) [] R0 _ z2⟩]
   ·walk_at"w";exact no fun hh=>z2 (by omega)
  ·walk_at"w";exact no fun hh=>z hh.1
 intro m τ' z3_;have z4_:=z3_.1;have z5_:=z3_.2;clear z3_;subst z4_;refine Kc z5_ fun sn R2 z6_ hR2 hR2l hcase=>?_;clear z5_;subst z6_
 suffices gen:∀(base:Int) (r:Option Int),FR R=r->(∀c∈Cp,dch sn base c=true)->(sn.length:Int)=base->sn.length<=16->r=(if R2=[] then none else dv base 0 R2) ->
   ws (lev n) none _ [some (.str t),some (.str R2),some (.int sg),some (.str sn),none,none] τ' (FL Q) (Es E) by
  rcases hcase with ⟨rfl,hn⟩ | ⟨rfl,hne,hn⟩
  ·exact gen 10 _ hn PY rfl (by decide) rfl
  ·exact gen 16 _ hn P6 rfl (by decide) (by rw[if_neg hne])
 ·intro base r hr hdig hbase hsn hrr;rw[hr,hrr] at h;refine AO (He (F7 (F9 (AI rfl (CL (cs_eq_str (BA ?_)))))));refine Af (fun z=>?_) (fun z=>?_)
  ·rw[if_pos z] at h;walk_at"w";exact AB hsub h
  ·rw[if_neg z] at h;refine Ku (AU ?_);walk_at"w";let J1:T->Loc->Store->Prop:=fun cs m σ'=>∃(a:Int) (x:Option V),m=[some (.str t),some (.str R2),some (.int sg),some (.str sn),some (.int a),x]/\σ'=τ'/\okt cs/\dv base 0 R2=dv base a cs
   refine Mr J1 hR2l (Gz 0 none rfl rfl hR2 rfl) ?_ ?_
   ·intro c cs m σ' z7_;refine Kc z7_ fun a x z8_ z9_ hcs e=>?_;clear z7_;subst z8_;subst z9_;have hd:=hdig c (hcs c (.head _));unfold dch at hd;rw[dv] at e;walk_at"w";cases hix:FO sn c with
    | none =>
     rw[hix] at hd;simp only[Bool.and_eq_true,Bool.not_eq_true',decide_eq_true_eq] at hd;rw[if_pos hd.2] at e;rw[e] at h;refine CT hd.1 ?_;walk_at"w";exact AB hsub h
    | some i =>
     rw[hix] at hd;simp only[Bool.and_eq_true,decide_eq_true_eq] at hd;rw[if_neg hd.2.1] at e;refine CT hd.1 ?_;walk_at"w";refine Bx (.inr (by rw[Int.natAbs_natCast];exact lin 1 0 [.l Z0 (.c 16)] (.t Z0 (.c 9223372036854775808)) [] R0 _ hsn)) ?_;walk_at"w";refine P0 hix ?_;walk_at"w";exact Gz _ _ rfl rfl (fun d hd=>hcs d (.tail _ hd)) (by rw[e,hbase,hd.2.2])
   ·intro m σ' z10_;refine Kc z10_ fun a x z11_ z12_ hcs e=>?_;clear z10_;subst z11_;subst z12_;rw[dv] at e;rw[e] at h;walk_at"w";refine Bx (.inl (by rcases hsg with e | e <;> rw[e] <;> decide)) ?_;walk_at"w";exact AB hsub h
end
section
noncomputable def rv:Except AG T->V
 | .ok t=>.tup [.int 0,.str t]
 | .error f=>fv f
theorem GI (hl:t.length<=10000) (h:Q (fv (BI t)) σ):lev (n+1) false .l_none [.str t] σ Q E:=by
 refine AD (m:=[some (.str t)]) rfl rfl rfl ?_;dsimp only[IS];walk_at"w";exact Ah h
theorem N1 (hl:k.length<=10000) (h:Q (fv (Fh k)) σ):lev (n+1) false .l_lacks [.str k] σ Q E:=by
 refine AD (m:=[some (.str k)]) rfl rfl rfl ?_;dsimp only[HJ];walk_at"w";exact Ah h
theorem M9:TOk []:=⟨fun c hc=>(by cases hc),Nat.zero_le _,.inl ES⟩
theorem DOk.old (h:DOk 3401 ps) (k:T):TOk ((ps.lookup k).getD []):=by
 cases hl:ps.lookup k with
 | none=>exact M9
 | some v=>exact h.val hl
theorem Kw {v:T} (hv:good v) (hvl:v.length<=60):∀(ks:List T) (ps d:List (T × T)),(∀k∈ks,good k/\k.length<=10)->DOk 3401 ps->Cq ps ks v=.ok d->DOk (3500*(ks.length+1)) d:=by
 intro ks;induction ks with
 | nil=>intro ps d _ h e;rw[Cq] at e;obtain rfl:=xOO e;exact h.mono (by decide)
 | cons k ks ih =>
  intro ps d hk h e;have hk1:=hk k (.head _);cases ks with
  | nil =>
   rw[Cq] at e;obtain rfl:=xOO e;exact(h.put hk1.1 hv).mono (by simp;omega)
  | cons k2 ks =>
   rw[Cq] at e;split at e
   ·exact xEO e
   ·rename_i q hq;cases hs:Cq q (k2::ks) v with
    | error f=>rw[hs] at e;exact xEO e
    | ok q' =>
     rw[hs] at e;obtain rfl:=xOO e;have h2:=(ih q q' (fun x hx=>hk x (.tail _ hx)) ((h.old k).pairs hq) hs).text;refine(h.put hk1.1 h2.1).mono ?_;simp only[List.length_cons] at h2 ⊢;omega
theorem GG:∀(ks:List T) (ps d:List (T × T)),(∀k∈ks,good k/\k.length<=10)->DOk 3401 ps->AP ps ks=.ok d->DOk (3500*(ks.length+1)) d:=by
 intro ks;induction ks with
 | nil=>intro ps d _ h e;rw[AP] at e;obtain rfl:=xOO e;exact h.mono (by decide)
 | cons k ks ih =>
  intro ps d hk h e;have hk1:=hk k (.head _);cases ks with
  | nil =>
   rw[AP] at e;obtain rfl:=xOO e;exact(h.del k).mono (by simp)
  | cons k2 ks =>
   rw[AP] at e;split at e
   ·exact xEO e
   ·rename_i old hl;split at e
    ·exact xEO e
    ·rename_i q hq;cases hs:AP q (k2::ks) with
     | error f=>rw[hs] at e;exact xEO e
     | ok q' =>
      rw[hs] at e;obtain rfl:=xOO e;have h2:=(ih q q' (fun x hx=>hk x (.tail _ hx)) ((h.val hl).pairs hq) hs).text;refine(h.put hk1.1 h2.1).mono ?_;simp only[List.length_cons] at h2 ⊢;omega
theorem NJ (t k k2 v:T) (ks:List T):C2 t (k::k2::ks) v=match Ap t with
  | .error f=>.error f
  | .ok ps=>match C2 ((ps.lookup k).getD []) (k2::ks) v with
   | .error f=>.error f
   | .ok u=>.ok (AE (AK ps k u)):=by
 unfold C2;cases Ap t with
 | error f=>rfl
 | ok ps =>
  dsimp only;rw[Cq];cases Ap ((ps.lookup k).getD []) with
  | error f=>rfl
  | ok q =>
   dsimp only;cases Cq q (k2::ks) v <;> rfl
theorem KG (t k k2:T) (ks:List T):Bh t (k::k2::ks)=match Ap t with
  | .error f=>.error f
  | .ok ps=>match ps.lookup k with
   | none=>.error (Fh k)
   | some old=>match Bh old (k2::ks) with
    | .error f=>.error f
    | .ok u=>.ok (AE (AK ps k u)):=by
 unfold Bh;cases Ap t with
 | error f=>rfl
 | ok ps =>
  dsimp only;rw[AP];cases ps.lookup k with
  | none=>rfl
  | some old =>
   dsimp only;cases Ap old with
   | error f=>rfl
   | ok q =>
    dsimp only;cases AP q (k2::ks) <;> rfl
theorem MU {t u v:T} {ks:List T} (ht:TOk t) (hv:good v) (hvl:v.length<=60) (hk:∀k∈ks,good k/\k.length<=10) (h:C2 t ks v=.ok u):good u/\u.length<=3500*(ks.length+1)+1:=by
 unfold C2 at h;cases hp:Ap t with
 | error f=>rw[hp] at h;exact xEO h
 | ok ps =>
  rw[hp] at h;dsimp only at h;cases hs:Cq ps ks v with
  | error f=>rw[hs] at h;exact xEO h
  | ok d =>
   rw[hs] at h;obtain rfl:=xOO h;exact(Kw hv hvl ks ps d hk (ht.pairs hp) hs).text
theorem Lq {t u:T} {ks:List T} (ht:TOk t) (hk:∀k∈ks,good k/\k.length<=10) (h:Bh t ks=.ok u):good u/\u.length<=3500*(ks.length+1)+1:=by
 unfold Bh at h;cases hp:Ap t with
 | error f=>rw[hp] at h;exact xEO h
 | ok ps =>
  rw[hp] at h;dsimp only at h;cases hs:AP ps ks with
  | error f=>rw[hs] at h;exact xEO h
  | ok d =>
   rw[hs] at h;obtain rfl:=xOO h;exact(GG ks ps d hk (ht.pairs hp) hs).text
theorem DOk.weigh {N:Nat} (h:DOk N ps):Mine.weigh (Ao ps)<=N:=Nat.le_trans (Bt _) h.wt
theorem PW {v:T} (hv:good v) (hvl:v.length<=60):∀(ks:List T) (k t:T) (n r:Nat) (σ:Store) (Q:QV) (E:QE),TOk t->(∀x∈k::ks,good x/\x.length<=10)->ks.length<=8->Ag σ (.ref r)=some (Ae (k::ks))->Q (rv (C2 t (k::ks) v)) σ->lev (n+ks.length+4) false .l_set [.str t,.ref r,.str v] σ Q E:=by
 intro ks;induction ks with
 | nil =>
  intro k t n r σ Q E ht hk hkl hr h;refine AD (m:=[some (.str t),some (.ref r),some (.str v),none,none,none]) rfl rfl rfl ?_;dsimp only[GP];walk_at"w";refine Dw (Nat.le_trans ht.len (by decide)) (fun ps hp a ha=>?_) (fun f hf=>?_)
  ·have hd:=ht.pairs hp;have hrr:C2 t [k] v=.ok (AE (AK ps k v)):=by unfold C2;rw[hp];rfl
   rw[hrr] at h;have hr2:Ag (σ.set a (.lst (tp ps))) (.ref r)=some (Ae [k]):=Al hr (SubS.new ha);have hk1:(Ae [k]).length<=LIM:=by simp[Ae,LIM]
   walk_at"w";refine Df (Ac (Aa _ _ _)) ?_;walk_at"w";walk_at"w";refine Ak (j:=0) hr2 (by simp[Ae,LIM]) (by decide) (Am (x:=k) rfl) ?_;walk_at"w";refine FA (Ac (Aa _ _ _)) (by have:=Ch hd;exact U8 _ this) (fun b hb=>?_);walk_at"w";refine E0 (Ac (Aa _ _ _)) (by have:=(hd.put (hk k (.head _)).1 hv).weigh;have:=(hk k (.head _)).2;exact lin 3 0 [.l Z0 (.a (.a (.a (.c 3401) Z1) Z2) (.c 6)),.l Z1 (.c 10),.l Z2 (.c 60)] (.l Z0 (.c 100000)) [] R0 _ _ _ (by assumption) this hvl) ?_;walk_at"w";exact AB ((SubS.new ha).trans (SubS.new hb)) h
  ·have hrr:C2 t [k] v=.error f:=by unfold C2;rw[hf]
   rw[hrr] at h;walk_at"w";refine bf_tup_t ?_;walk_at"w";exact Ah h
 | cons k2 ks ih =>
  intro k t n r σ Q E ht hk hkl hr h;refine AD (n:=n+ks.length+4) (m:=[some (.str t),some (.ref r),some (.str v),none,none,none]) rfl rfl rfl ?_;dsimp only[GP];rw[NJ] at h;have hkl2:(Ae (k::k2::ks)).length<=LIM:=by rw[Ad,LIM];simp at hkl ⊢;exact Tk _ hkl
  walk_at"w";refine Dw (n:=n+ks.length+1) (Nat.le_trans ht.len (by decide)) (fun ps hp a ha=>?_) (fun f hf=>?_)
  ·have hd:=ht.pairs hp;rw[hp] at h;dsimp only at h;have hr2:Ag (σ.set a (.lst (tp ps))) (.ref r)=some (Ae (k::k2::ks)):=Al hr (SubS.new ha);walk_at"w";refine Df (Ac (Aa _ _ _)) ?_;walk_at"w";refine Af (fun _=>?_) (fun z=>absurd (by rw[Ad];simp;exact lin 1 0 [] (.T (.c 1) (.a (.a (.o Z0) (.c 1)) (.c 1))) [] R0 _) z);walk_at"w";refine Ak (j:=0) hr2 hkl2 (by decide) (Am (x:=k) rfl) ?_;walk_at"w";refine LB (n:=n+ks.length+3) (Ac (Aa _ _ _)) (by have:=Ch hd;exact U8 _ this) ?_;refine AU (BN (fun m τ=>SubS (σ.set a (.lst (tp ps))) τ/\m=[some (.str t),some (.ref r),some (.str v),some (.ref a),some (Ds (ps.lookup k)),some (rv (C2 ((ps.lookup k).getD []) (k2::ks) v))]) (fun Q' hQ1 hQ2=>?_) ?_)
   ·have arg:∀m:Loc,m[1]?=some (some (.ref r))->m[2]?=some (some (.str v))->∀(Q2:QL) E2,(∀b,(σ.set a (.lst (tp ps))) b=none->Q2 [.ref b,.str v] ((σ.set a (.lst (tp ps))).set b (.lst (Ae (k2::ks))))) ->
      (wp (lev (n+ks.length+4) false) (.cons (.slc (.var 1) (.cInt 1) .no) (.cons (.var 2) .nil))).l m (σ.set a (.lst (tp ps))) Q2 E2:=by
     intro m h1 h2 Q2 E2 hq;refine AY (TY (AI h1 (Dn (UN ?_))));refine BJ (lo:=some ((1:Nat):Int)) (hi:=none) rfl rfl hr2 hkl2 ?_;rw[D0,show (Ae (k::k2::ks)).drop 1=Ae (k2::ks) from rfl];refine AL (by rw[Ad,LIM];exact lin 1 0 [.l Z0 (.c 8)] (.l Z0 (.c 8000000)) [] R0 _ hkl) (fun b hb=>?_);exact AY (AI h2 (C8 (hq b hb)))
    have call:∀(b:Nat),(σ.set a (.lst (tp ps))) b=none->∀Q3 E3,(∀τ,SubS (σ.set a (.lst (tp ps))) τ->Q3 (rv (C2 ((ps.lookup k).getD []) (k2::ks) v)) τ) ->
      lev (n+ks.length+4) false .l_set [.str ((ps.lookup k).getD []),.ref b,.str v] ((σ.set a (.lst (tp ps))).set b (.lst (Ae (k2::ks)))) Q3 E3:=by
     intro b hb Q3 E3 hq;exact ih k2 _ n b _ _ _ (hd.old k) (fun x hx=>hk x (.tail _ hx)) (by simp at hkl;exact T1 _ hkl) (Ac (Aa _ _ _)) (hq _ (SubS.new hb))
    cases hl:ps.lookup k with
    | none =>
     rw[hl] at call;refine DC (FT (AY (Mw (Ra (Rb (AI rfl (P2 (BA (ifQ_t (CL ?_))))))))));refine arg _ rfl rfl _ _ (fun b hb=>call b hb _ _ fun τ hτ=>?_);exact hQ1 _ _ ⟨hτ,by rw[hl];rfl⟩
    | some old =>
     rw[hl] at call;refine DC (FT (AY (Mw (Ra (Rb (AI rfl (PG (BA (ifQ_f (AI rfl ?_))))))))));refine arg _ rfl rfl _ _ (fun b hb=>call b hb _ _ fun τ hτ=>?_);exact hQ1 _ _ ⟨hτ,by rw[hl];rfl⟩
   intro m τ z1_;have hτ:=z1_.1;have z2_:=z1_.2;clear z1_;subst z2_;have hσ:=(SubS.new ha).trans hτ;cases hs:C2 ((ps.lookup k).getD []) (k2::ks) v with
   | error f =>
    rw[hs] at h;unfold rv fv;walk_at"w";walk_at"w";exact AB hσ h
   | ok u =>
    rw[hs] at h;have hu:=MU (hd.old k) hv hvl (fun x hx=>hk x (.tail _ hx)) hs;unfold rv;walk_at"w";walk_at"w";refine Ak (j:=0) (Al hr2 hτ) hkl2 (by decide) (Am (x:=k) rfl) ?_;walk_at"w";refine FA (n:=n+ks.length+3) (Ac (hτ _ _ (Aa _ _ _))) (by have:=Ch hd;exact U8 _ this) (fun b hb=>?_);walk_at"w";refine E0 (n:=n+ks.length+1) (Ac (Aa _ _ _)) (by
     have:=(hd.put (hk k (.head _)).1 hu.1).weigh;have:=(hk k (.head _)).2;have:=hu.2;simp at hkl this;exact Tr _ _ _ _ (by assumption) this (by assumption) hkl) ?_
    walk_at"w";exact AB (hσ.trans (SubS.new hb)) h
  ·rw[hf] at h;walk_at"w";refine bf_tup_t ?_;walk_at"w";exact Ah h
theorem N8:∀(ks:List T) (k t:T) (n r:Nat) (σ:Store) (Q:QV) (E:QE),TOk t->(∀x∈k::ks,good x/\x.length<=10)->ks.length<=8->Ag σ (.ref r)=some (Ae (k::ks))->Q (rv (Bh t (k::ks))) σ->lev (n+ks.length+4) false .l_unset [.str t,.ref r] σ Q E:=by
 intro ks;induction ks with
 | nil =>
  intro k t n r σ Q E ht hk hkl hr h;refine AD (m:=[some (.str t),some (.ref r),none,none,none]) rfl rfl rfl ?_;dsimp only[EQ];walk_at"w";refine Dw (Nat.le_trans ht.len (by decide)) (fun ps hp a ha=>?_) (fun f hf=>?_)
  ·have hd:=ht.pairs hp;have hrr:Bh t [k]=.ok (AE (EC ps k)):=by unfold Bh;rw[hp];rfl
   rw[hrr] at h;have hr2:Ag (σ.set a (.lst (tp ps))) (.ref r)=some (Ae [k]):=Al hr (SubS.new ha);have hk1:(Ae [k]).length<=LIM:=by simp[Ae,LIM]
   have hpl:(tp ps).length<=LIM:=by rw[Hi,LIM];have:=Ch hd;exact U14 _ this
   walk_at"w";refine Df (Ac (Aa _ _ _)) ?_;walk_at"w";refine AO (AO (Kl (Ri (AY (Dn (AY (FT (AY (Hm rfl (AI rfl ?_))))))))));refine DA (xs:=tp ps) (ep:=none) (fun y=>match y with | .tup [.str a,.str b]=>if (!(a==k))=true then some (pv (a,b)) else none | _=>none) (DB _ (Ac (Aa _ _ _))) hpl ?_ (fun b hb=>?_)
   ·intro y hy;unfold tp at hy;rw[List.mem_map] at hy;refine e1a2 hy fun q _ z1_=>?_;clear hy;subst z1_;refine B9 [some (pv q),some (.ref r)] rfl (fun Qt hQ=>?_) (fun w hw Qv hQ=>?_)
    ·unfold pv;walk_at"w";refine Ak (j:=0) hr2 hk1 (by decide) (Am (x:=k) rfl) ?_;walk_at"w";have e:(match pv q with | .tup [.str a,.str b]=>if (!(a==k))=true then some (pv (a,b)) else none | _=>none).isSome=decide (q.1≠k):=by
      show (if (!(q.1==k))=true then some (pv (q.1,q.2)) else none).isSome=_;by_cases z:q.1=k <;> simp[z]
     rw[← e];exact hQ
    ·refine AI rfl ?_;have hw':(if (!(q.1==k))=true then some (pv (q.1,q.2)) else none)=some w:=hw;split at hw'
     ·obtain rfl:=xSS hw';exact hQ
     ·exact xNS hw'
   ·have hfm:(tp ps).filterMap (fun y=>match y with | .tup [.str a,.str b]=>if (!(a==k))=true then some (pv (a,b)) else none | _=>none)=tp (EC ps k):=by
     unfold tp EC;rw[List.filterMap_map,← List.filterMap_eq_filter,List.map_filterMap];congr 1;funext q;show (if (!(q.1==k))=true then some (pv (q.1,q.2)) else none)=Option.map pv (Option.guard _ q);unfold Option.guard;split <;> rfl
    rw[hfm];walk_at"w";refine E0 (Ac (Aa _ _ _)) (by have:=(hd.del k).weigh;exact U8 _ this) ?_;walk_at"w";exact AB ((SubS.new ha).trans (SubS.new hb)) h
  ·have hrr:Bh t [k]=.error f:=by unfold Bh;rw[hf]
   rw[hrr] at h;walk_at"w";refine bf_tup_t ?_;walk_at"w";exact Ah h
 | cons k2 ks ih =>
  intro k t n r σ Q E ht hk hkl hr h;refine AD (n:=n+ks.length+4) (m:=[some (.str t),some (.ref r),none,none,none]) rfl rfl rfl ?_;dsimp only[EQ];rw[KG] at h;have hkl2:(Ae (k::k2::ks)).length<=LIM:=by rw[Ad,LIM];simp at hkl ⊢;exact Tk _ hkl
  walk_at"w";refine Dw (n:=n+ks.length+1) (Nat.le_trans ht.len (by decide)) (fun ps hp a ha=>?_) (fun f hf=>?_)
  ·have hd:=ht.pairs hp;rw[hp] at h;dsimp only at h;have hr2:Ag (σ.set a (.lst (tp ps))) (.ref r)=some (Ae (k::k2::ks)):=Al hr (SubS.new ha);walk_at"w";refine Df (Ac (Aa _ _ _)) ?_;walk_at"w";walk_at"w";refine Ak (j:=0) hr2 hkl2 (by decide) (Am (x:=k) rfl) ?_;walk_at"w";refine LB (n:=n+ks.length+3) (Ac (Aa _ _ _)) (by have:=Ch hd;exact U8 _ this) ?_;cases hl:ps.lookup k with
   | none =>
    rw[hl] at h;unfold Ds;walk_at"w";refine Ak (j:=0) hr2 hkl2 (by decide) (Am (x:=k) rfl) ?_;walk_at"w";refine N1 (n:=n+ks.length+3) (by have:=(hk k (.head _)).2;exact lin 1 0 [.l Z0 (.c 10)] (.l Z0 (.c 10000)) [] R0 _ this) ?_;walk_at"w";exact AB (SubS.new ha) h
   | some old =>
    rw[hl] at h;dsimp only at h;have hto:=hd.val hl;unfold Ds;walk_at"w";refine BJ (lo:=some ((1:Nat):Int)) (hi:=none) rfl rfl hr2 hkl2 ?_;rw[D0,show (Ae (k::k2::ks)).drop 1=Ae (k2::ks) from rfl];refine AL (by rw[Ad,LIM];simp at hkl ⊢;exact lin 1 0 [.l Z0 (.c 7)] (.l Z0 (.c 7999999)) [] R0 _ hkl) (fun b hb=>?_);walk_at"w";refine ih k2 old n b _ _ _ hto (fun x hx=>hk x (.tail _ hx)) (by simp at hkl;exact T1 _ hkl) (Ac (Aa _ _ _)) ?_;have hτ:SubS (σ.set a (.lst (tp ps))) ((σ.set a (.lst (tp ps))).set b (.lst (Ae (k2::ks)))):=SubS.new hb;have hσ:=(SubS.new ha).trans hτ;cases hs:Bh old (k2::ks) with
    | error f =>
     rw[hs] at h;unfold rv fv;walk_at"w";walk_at"w";exact AB hσ h
    | ok u =>
     rw[hs] at h;have hu:=Lq hto (fun x hx=>hk x (.tail _ hx)) hs;unfold rv;walk_at"w";walk_at"w";refine Ak (j:=0) (Al hr2 hτ) hkl2 (by decide) (Am (x:=k) rfl) ?_;walk_at"w";refine FA (n:=n+ks.length+3) (Ac (hτ _ _ (Aa _ _ _))) (by have:=Ch hd;exact U8 _ this) (fun c hc=>?_);walk_at"w";refine E0 (n:=n+ks.length+1) (Ac (Aa _ _ _)) (by
      have:=(hd.put (hk k (.head _)).1 hu.1).weigh;have:=(hk k (.head _)).2;have:=hu.2;simp at hkl this;exact Tr _ _ _ _ (by assumption) this (by assumption) hkl) ?_
     walk_at"w";exact AB (hσ.trans (SubS.new hc)) h
  ·rw[hf] at h;walk_at"w";refine bf_tup_t ?_;walk_at"w";exact Ah h
end
section
set_option genCtorIdx true in
inductive Kd | append | lappend | incr | set | unset
 deriving DecidableEq
noncomputable def As:Kd->T
 | .append=>[97,112,112,101,110,100]
 | .lappend=>[108,97,112,112,101,110,100]
 | .incr=>[105,110,99,114]
 | .set=>[115,101,116]
 | .unset=>[117,110,115,101,116]
noncomputable def Ax (k:Kd) (many:Nat):T:=match k with
 | .set=>if many < 3 then [107,101,121,32,63,107,101,121,32,46,46,46,63,32,118,97,108,117,101] else []
 | .unset=>if many < 2 then [107,101,121,32,63,107,101,121,32,46,46,46,63] else []
 | .incr=>if many=2∨many=3 then [] else [107,101,121,32,63,105,110,99,114,101,109,101,110,116,63]
 | _=>if many < 2 then [107,101,121,32,63,118,97,108,117,101,32,46,46,46,63] else []
noncomputable def Ej (k:Kd) (many:Nat):AG:=FD (tx "dict "++As k++tx " dictVarName "++Ax k many)
noncomputable def LH (k:Kd) (t:T) (its:List T):Except AG T:=match k,its with
 | .append,key::more=>BK t key more
 | .lappend,key::more=>Bq t key more
 | .incr,key::more=>D4 t key (more.headD [49])
 | .set,its=>C2 t its.dropLast (its.getLastD [])
 | .unset,its=>Bh t its
 | _,[]=>.ok t
theorem Qr {i:Int} {xs:List Int} (h:Ag σ (.ref a)=some (xs.map .int)):BR (.int i) (.ref a) σ=some (xs.any fun x=>x==i):=by
 have h1:C3 σ (.ref a)=some (xs.map .int):=h;have h3:BR (.int i) (.ref a) σ=match C3 σ (.ref a) with
   | some vs=>if vs.all Dp then some (vs.any fun x=>V.same x (.int i)) else none
   | none=>none:=rfl
 rw[h3,h1];have:(xs.map V.int).all Dp=true:=by rw[List.all_map,List.all_eq_true];intro x _;rfl
 dsimp only;rw[if_pos this,List.any_map];congr 2
theorem N5 {n many:Nat} {k:Kd} (h:Q (.str (Ax k many)) σ):lev (n+1) false .l_usage [.str (As k),.int many] σ Q E:=by
 refine AD (m:=[some (.str (As k)),some (.int many)]) rfl rfl rfl ?_;dsimp only[GD];unfold Ax at h;cases k with
 | append =>
  dsimp only at h;walk_at"wd";refine Af (fun z=>?_) (fun z=>?_)
  ·rw[if_pos (by exact U33 _ z)] at h;walk_at"w";exact Ah h
  ·rw[if_neg (by exact U34 _ z)] at h;walk_at"w";exact Ah h
 | lappend =>
  dsimp only at h;walk_at"wd";refine Af (fun z=>?_) (fun z=>?_)
  ·rw[if_pos (by exact U33 _ z)] at h;walk_at"w";exact Ah h
  ·rw[if_neg (by exact U34 _ z)] at h;walk_at"w";exact Ah h
 | incr =>
  dsimp only at h;walk_at"wd";refine AL (by decide) (fun a ha=>?_);refine Dl (r:=!([(2:Int),3].any fun x=>x==(many:Int))) (by rw[Bool.not_not];exact Qr (xs:=[2,3]) (Ac (Aa _ _ _))) ?_;walk_at"w";refine AF (fun z=>?_) (fun z=>?_)
  ·rw[if_pos (by simp at z;exact lin 1 0 [.o (.E (.c 2) (.o Z0)) (.E (.c 3) (.o Z0))] (.o (.e Z0 (.c 2)) (.e Z0 (.c 3))) [[1,0,1,0],[],[],[0,1,1,0],[1,0,1,0],[],[],[0,1,0,1]] R0 _ z)] at h;walk_at"w";exact AB (SubS.new ha) h
  ·rw[if_neg (by simp at z;exact lin 1 0 [.a (.n (.E (.c 2) (.o Z0))) (.n (.E (.c 3) (.o Z0)))] (.n (.o (.e Z0 (.c 2)) (.e Z0 (.c 3)))) [[1,0,1,0],[0,1,1,0],[],[],[],[],[1,0,0,1],[1,0,0,1]] R0 _ z)] at h;walk_at"w";exact AB (SubS.new ha) h
 | set =>
  dsimp only at h;walk_at"wd";refine Af (fun z=>?_) (fun z=>?_)
  ·rw[if_pos (by exact lin 1 0 [.T (.o Z0) (.c 3)] (.t Z0 (.c 3)) [] R0 _ z)] at h;walk_at"w";exact Ah h
  ·rw[if_neg (by exact lin 1 0 [.n (.T (.o Z0) (.c 3))] (.n (.t Z0 (.c 3))) [] R0 _ z)] at h;walk_at"w";exact Ah h
 | unset =>
  dsimp only at h;walk_at"wd";refine Af (fun z=>?_) (fun z=>?_)
  ·rw[if_pos (by exact U33 _ z)] at h;walk_at"w";exact Ah h
  ·rw[if_neg (by exact U34 _ z)] at h;walk_at"w";exact Ah h
noncomputable def Dj (k:Kd) (old:Option T) (more:List T):Except AG T:=match k with
 | .append=>.ok (old.getD []++AR [] more)
 | .lappend=>match old with
  | none=>.ok (DY more)
  | some o=>if more=[] then .ok o else match A0 o with
   | .error e=>.error (AH e)
   | .ok xs=>.ok (DY (xs++more))
 | _=>match old with
  | none=>match AN (more.headD [49]) with
   | none=>.error (BI (more.headD [49]))
   | some _=>.ok (more.headD [49])
  | some o=>match AN o with
   | none=>.error (BI o)
   | some z=>match AN (more.headD [49]) with
    | none=>.error (BI (more.headD [49]))
    | some w=>.ok (Cu (z+w))
theorem Lk {a b:Nat} (h1:Ag σ (.ref a)=some xs) (h2:Ag σ (.ref b)=some []) (h3:B6 8 xs=true) (h:Q (.bool xs.isEmpty) σ):cmpSem .eq (.ref a) (.ref b) σ Q:=.eq_lst xs h1 h2 h3 h
theorem Ib (h:c∈Cp):c < 1114112:=by revert c;decide
theorem okV (h:okt t) (n:Nat):V.ok n (.str t)=true:=by
 unfold V.ok;rw[List.all_eq_true];intro c hc;exact decide_eq_true (Ib (h c hc))
theorem Tw {l:List T} (h:∀x∈l,good x) (n:Nat):B6 n (Ae l)=true:=by
 unfold Ae;induction l with
 | nil=>rfl
 | cons x r ih =>
  rw[List.map_cons,B6,okV (h x (.head _)).ok,ih fun y hy=>h y (.tail _ hy)];rfl
theorem LZ {n r:Nat} {k:Kd} {old:Option T} {more:List T} (hk:k=.append∨k=.lappend∨k=.incr) (ho:∀o,old=some o->TOk o/\good o) (hm:more.length<=10) (hmo:∀y∈more,B7 y) (hr:Ag σ (.ref r)=some (Ae more))
  (h:Q (rv (Dj k old more)) σ):lev (n+3) false .l_behind [.str (As k),Ds old,.ref r] σ Q E:=by
 refine AD (m:=[some (.str (As k)),some (Ds old),some (.ref r),none,none]) rfl rfl rfl ?_;dsimp only[Gq];have hsum:=H4 fun y hy=>(hmo y hy).2;have hml:(Ae more).length<=LIM:=by rw[Ad,LIM];exact U6 _ hm
 have hmg:∀y∈more,good y:=fun y hy=>(hmo y hy).1;unfold Dj at h;rcases hk with rfl | rfl | rfl
 ·dsimp only at h;walk_at"wd";have hjl:=D6 more;cases old with
  | none =>
   walk_at"wd";refine CD (ts:=more) hr (DD more) (by decide) (by rw[LIM];exact U31 _ _ hm hsum) ?_;refine bs_add_str (by rw[LIM,hjl];simp;exact lin 2 0 [.l Z0 (.c 10),.l Z1 (.m 30 Z0)] (.l Z1 (.c 8000000)) [[30,1,1]] R0 _ _ hm hsum) ?_;walk_at"wd";exact Ah h
  | some o =>
   have hol:=(ho o rfl).1.len;walk_at"wd";refine CD (ts:=more) hr (DD more) (by decide) (by rw[LIM];exact U31 _ _ hm hsum) ?_;refine bs_add_str (by rw[LIM,hjl];exact lin 3 0 [.l Z0 (.c 10),.l Z1 (.c 3400),.l Z2 (.m 30 Z0)] (.l (.a Z1 Z2) (.c 8000000)) [[30,1,1,1]] R0 _ _ _ hm hol hsum) ?_;walk_at"wd";exact Ah h
 ·dsimp only at h;have hweigh:weigh more<=400:=by have:=Ba more;exact Ta _ _ _ this hm hsum
  cases old with
  | none =>
   walk_at"wd";refine AL (by decide) (fun a ha=>?_);walk_at"wd";refine Df (Ac (Aa _ _ _)) ?_;walk_at"wd";refine CW (xs:=[]) (ys:=Ae more) (Ac (Aa _ _ _)) (Al hr (SubS.new ha)) ?_;refine AL (by rw[List.nil_append];exact hml) (fun b hb=>?_);walk_at"wd";refine Fj (xs:=more) (Ac (Aa _ _ _)) (by exact lin 1 0 [.l Z0 (.c 400)] (.l Z0 (.c 100000)) [] R0 _ hweigh) ?_;walk_at"wd";exact AB ((SubS.new ha).trans (SubS.new hb)) h
  | some o =>
   have z0_:=ho o rfl;have hto:=z0_.1;have hog:=z0_.2;clear z0_;dsimp only at h;walk_at"wd";have hol:=hto.len;have empt:∀(τ:Store),SubS σ τ->∀(v:V) (Q':QB),(∀τ',SubS τ τ'->Q' more.isEmpty τ') ->
     (wp (lev (n+2) false) (.cmp .eq (.var 2) (.lst .nil))).t [some (.str [108,97,112,112,101,110,100]),some (.str o),some (.ref r),some v,none] τ Q' (fun e σ'=>dropE E e σ'):=by
    intro τ hτ v Q' hq;refine F7 (F9 (AI rfl (Re (C8 (AL (by decide) (fun b hb=>?_))))));refine Lk (Al hr (hτ.trans (SubS.new hb))) (Ac (Aa _ _ _)) (Tw hmg 8) (BA ?_);have:(Ae more).isEmpty=more.isEmpty:=by unfold Ae;cases more <;> rfl
    rw[this];exact hq _ (SubS.new hb)
   refine Lp (by exact lin 1 0 [.l Z0 (.c 3400)] (.l Z0 (.c 50000)) [] R0 _ hol) (fun xs hxs a ha=>?_) (fun e he=>?_)
   ·refine AU (AO (He (NZ (OO (Oz (AI rfl (K5 (BA (ifQ_t ?_)))))))));refine empt _ (SubS.new ha) (.ref a) _ (fun τ' hτ'=>?_);have hτ:=(SubS.new ha).trans hτ';refine AF (fun z=>?_) (fun z=>?_)
    ·have hm0:more=[]:=by simpa using z
     rw[if_pos hm0] at h;walk_at"wd";exact AB hτ h
    ·have hm0:more≠[]:=by simpa using z
     rw[if_neg hm0,hxs] at h;dsimp only at h;have hxw:=(Et o xs (Nat.le_refl _) hxs).1;have hla:=hτ' _ _ (Aa σ a (.lst (Ae xs)));have hwa:weigh (xs++more)<=4000:=by
      have e1:weigh (xs++more)=weigh xs+weigh more:=by unfold weigh;rw[List.map_append,List.sum_append]
      have:=Bt xs;exact lin 5 0 [.e Z0 (.a Z1 Z2),.l Z3 (.a Z4 (.c 1)),.l Z4 (.c 3400),.l Z2 (.c 400),.l Z1 Z3] (.l Z0 (.c 4000)) [[1,0,1,1,1,1,1]] R0 _ _ _ _ _ e1 hxw hol hweigh this
     have hxl:xs.length<=10000:=by
      have:=Ba xs;have:=Bt xs;exact lin 5 0 [.e (.a Z0 Z1) Z2,.l Z3 (.a Z4 (.c 1)),.l Z4 (.c 3400),.l Z2 Z3] (.l Z1 (.c 10000)) [[1,0,1,1,1,1]] R0 _ _ _ _ _ (by assumption) hxw hol this
     walk_at"wd";refine Df (Ac hla) ?_;walk_at"wd";refine CW (xs:=Ae xs) (ys:=Ae more) (Ac hla) (Al hr hτ) ?_;have hsv:Ae xs++Ae more=Ae (xs++more):=by unfold Ae;simp
     rw[hsv];refine AL (by rw[Ad,List.length_append,LIM];exact U97 _ _ hm hxl) (fun b hb=>?_);walk_at"wd";refine Fj (xs:=xs++more) (Ac (Aa _ _ _)) (by exact U98 _ hwa) ?_;walk_at"wd";exact AB (hτ.trans (SubS.new hb)) h
   ·unfold RO;refine AU (AO (He (NZ (OO (Oz (AI rfl (K5 (BA (ifQ_t ?_)))))))));refine empt _ (SubS.refl _) _ _ (fun τ' hτ'=>?_);refine AF (fun z=>?_) (fun z=>?_)
    ·have hm0:more=[]:=by simpa using z
     rw[if_pos hm0] at h;walk_at"wd";exact AB hτ' h
    ·have hm0:more≠[]:=by simpa using z
     rw[if_neg hm0,he] at h;dsimp only at h;have hln:e.pre.length<=30/\e.suf.length<=100:=by
      cases e with
      | brace=>exact⟨by decide,by decide⟩
      | junk x =>
       have hx:=GW he;refine⟨Nat.zero_le _,?_⟩;unfold Bad.suf;rw[List.length_append,List.length_append,show (tx " element in braces followed by \"").length=32 from rfl,show (tx "\" instead of space").length=18 from rfl];exact TN _ hx
     walk_at"wd";exact AB hτ' h
 ·dsimp only at h;have hby:B7 (more.headD [49]):=by
   cases more with
   | nil=>exact⟨⟨false,rfl⟩,by decide⟩
   | cons y r=>exact hmo y (.head _)
  refine AO (He (F7 (F9 (AI rfl (CL (cs_eq_str (BA ?_)))))));refine Af (fun z=>absurd z (by decide)) (fun _=>Ku (AU ?_));refine AO (He (F7 (F9 (AI rfl (CL (cs_eq_str (BA ?_)))))));refine Af (fun z=>absurd z (by decide)) (fun _=>Ku (AU ?_));refine BN (fun m τ=>SubS σ τ/\m=[some (.str [105,110,99,114]),some (Ds old),some (.ref r),none,some (.str (more.headD [49]))]) (fun Q' hQ1 hQ2=>?_) ?_
  ·walk_at"wd";refine AL (by decide) (fun b hb=>?_);refine Lk (Al hr (SubS.new hb)) (Ac (Aa _ _ _)) (Tw hmg 8) (BA ?_);cases more with
   | nil =>
    walk_at"wd";exact hQ1 _ _ ⟨SubS.new hb,rfl⟩
   | cons y ys =>
    walk_at"wd";refine Ak (j:=0) (Al hr (SubS.new hb)) hml (by decide) (Am (x:=y) rfl) ?_;walk_at"wd";exact hQ1 _ _ ⟨SubS.new hb,rfl⟩
  intro m τ z1_;have hτ:=z1_.1;have z2_:=z1_.2;clear z1_;subst z2_;generalize more.headD [49]=b at *;have hbo:=hby.1.ok;have hbl:=hby.2;cases old with
  | none =>
   dsimp only at h;walk_at"wd";refine D3 hbo (by exact U7 _ hbl) ?_;cases hw:AN b with
   | none =>
    rw[hw] at h;walk_at"wd";refine GI (by exact U7 _ hbl) ?_;walk_at"wd";exact AB hτ h
   | some w =>
    rw[hw] at h;walk_at"wd";exact AB hτ h
  | some o =>
   have z0_:=ho o rfl;have hto:=z0_.1;have hog:=z0_.2;clear z0_;have hol:=hto.len;dsimp only at h;walk_at"wd";refine D3 hto.ok (by exact U35 _ hol) ?_;cases hz:AN o with
   | none =>
    rw[hz] at h;walk_at"wd";refine GI (by exact U35 _ hol) ?_;walk_at"wd";exact AB hτ h
   | some z =>
    rw[hz] at h;dsimp only at h;walk_at"wd";refine D3 hbo (by exact U7 _ hbl) ?_;cases hw:AN b with
    | none =>
     rw[hw] at h;walk_at"wd";refine GI (by exact U7 _ hbl) ?_;walk_at"wd";exact AB hτ h
    | some w =>
     rw[hw] at h;walk_at"wd";refine D3 hto.ok (by exact U35 _ hol) ?_;rw[hz];walk_at"wd";refine D3 hbo (by exact U7 _ hbl) ?_;rw[hw];walk_at"wd";refine bs_add_int (a:=z) (b:=w) ?_;walk_at"wd";refine JI (Mu hz hw (by exact TQ _ hol) (by exact U19 _ hbl)) ?_;walk_at"wd";exact AB hτ h
end
section
theorem OC {k old:T} (hk:Ez ps) (h:ps.lookup k=some old):AK ps k old=ps:=by
 have hany:ps.any (fun p=>p.1==k)=true:=by
  have:=Jn ps k;rw[h] at this;unfold vp at this;rw[List.any_map] at this;exact this
 unfold AK;rw[if_pos hany];clear hany;induction ps with
 | nil=>rfl
 | cons p r ih =>
  obtain⟨p1,p2⟩:=p;unfold Ez at hk;rw[List.map_cons,List.nodup_cons] at hk;rw[List.lookup_cons] at h;rw[List.map_cons];by_cases e:k=p1
  ·subst e;simp only[beq_self_eq_true] at h;obtain rfl:=(xSS h).symm;have hr:r.map (fun p=>if (p.1==k)=true then (p.1,old) else p)=r:=by
    have:∀p∈r,(fun p:T × T=>if (p.1==k)=true then (p.1,old) else p) p=p:=by
     intro p hp;have:¬p.1=k:=fun z=>hk.1 (by rw[← z];exact List.mem_map.mpr (Ai p hp rfl));simp[this]
    rw[List.map_congr_left this,List.map_id']
   simp only[beq_self_eq_true,if_true];rw[hr]
  ·have e1:(k==p1)=false:=by simpa using e
   have e2:(p1==k)=false:=by simpa using fun z:p1=k=>e z.symm
   rw[e1] at h;rw[e2,ih hk.2 h];rfl
noncomputable def E5 (st:T->Option T):List (T × V):=[([100],Ds (st [100])),([101],Ds (st [101]))]
theorem CA {st:T->Option T} {x:T} (hx:Ay x):Da (E5 st) x=some (Ds (st x)):=by
 rcases hx with rfl | rfl <;> rfl
noncomputable def G6 (k:Kd) (its:List T):Prop:=its.length<=4/\match k with
 | .set=>(∀y∈its.dropLast,good y/\y.length<=10)/\B7 (its.getLastD [])
 | .unset=>∀y∈its,good y/\y.length<=10
 | _=>∀y∈its,B7 y
noncomputable def BO (k:Kd) (st:T->Option T) (items:List T):Except AG T:=match items with
 | []=>.error (Ej k 0)
 | x::its=>if Ax k (its.length+1)=[] then LH k ((st x).getD []) its else .error (Ej k (its.length+1))
theorem LY {k:Kd} {old:Option T} {more:List T} {v:T} (hk:k=.append∨k=.lappend∨k=.incr) (ho:∀o,old=some o->TOk o/\good o) (hm:more.length<=10) (hmo:∀y∈more,B7 y) (h:Dj k old more=.ok v):v.length<=20000:=by
 have hsum:=H4 fun y hy=>(hmo y hy).2;have hjl:=D6 more;have w3:∀l:List T,wt l<=3*weigh l:=by
  intro l;induction l with
  | nil=>exact Nat.zero_le _
  | cons y r ih =>
   rw[Bf];have b1:=AV y false;have b2:weigh (y::r)=y.length+1+weigh r:=rfl;exact U99 _ _ _ _ _ b2 b1 ih
 have hweigh:weigh more<=400:=by have:=Ba more;exact Ta _ _ _ this hm hsum
 have hby:B7 (more.headD [49]):=by
  cases more with
  | nil=>exact⟨⟨false,rfl⟩,by decide⟩
  | cons y r=>exact hmo y (.head _)
 unfold Dj at h;rcases hk with rfl | rfl | rfl
 ·dsimp only at h;obtain rfl:=xOO h;rw[List.length_append,hjl];cases old with
  | none=>simp;exact lin 2 0 [.l Z0 (.c 10),.l Z1 (.m 30 Z0)] (.l Z1 (.c 20000)) [[30,1,1]] R0 _ _ hm hsum
  | some o=>have:=(ho o rfl).1.len;simp;exact lin 3 0 [.l Z0 (.c 10),.l Z1 (.c 3400),.l Z2 (.m 30 Z0)] (.l (.a Z1 Z2) (.c 20000)) [[30,1,1,1]] R0 _ _ _ hm this hsum
 ·dsimp only at h;cases old with
  | none =>
   obtain rfl:=xOO h;have:=Bo more;have:=w3 more;exact lin 3 0 [.l Z0 (.a Z1 (.c 1)),.l Z2 (.c 400),.l Z1 (.m 3 Z2)] (.l Z0 (.c 20000)) [[1,3,1,1]] R0 _ _ _ (by assumption) hweigh this
  | some o =>
   have hol:=(ho o rfl).1.len;dsimp only at h;split at h
   ·obtain rfl:=xOO h;exact lin 1 0 [.l Z0 (.c 3400)] (.l Z0 (.c 20000)) [] R0 _ hol
   ·split at h
    ·exact xEO h
    ·rename_i xs hxs;obtain rfl:=xOO h;have hxw:=(Et o xs (Nat.le_refl _) hxs).1;have:=Bo (xs++more);have:=FP xs more;have:=w3 more;exact lin 6 0 [.e Z0 (.a Z1 Z2),.l Z3 (.a Z0 (.c 1)),.l Z1 (.a Z4 (.c 1)),.l Z4 (.c 3400),.l Z5 (.c 400),.l Z2 (.m 3 Z5)] (.l Z3 (.c 20000)) [[1,0,1,1,1,3,1,1]] R0 _ _ _ _ _ _ (by assumption) (by assumption) hxw hol hweigh this
 ·dsimp only at h;cases old with
  | none =>
   dsimp only at h;split at h
   ·exact xEO h
   ·obtain rfl:=xOO h;have:=hby.2;exact lin 1 0 [.l Z0 (.c 30)] (.l Z0 (.c 20000)) [] R0 _ this
  | some o =>
   have hol:=(ho o rfl).1.len;dsimp only at h;split at h
   ·exact xEO h
   ·rename_i z hz;split at h
    ·exact xEO h
    ·rename_i w hw;obtain rfl:=xOO h;have:=HT hz hw (n:=3401) (by exact TQ _ hol) (by have:=hby.2;exact U19 _ this);exact lin 1 0 [.l (.m 4 Z0) (.a (.m 5 (.c 3401)) (.c 30))] (.l Z0 (.c 20000)) [] R0 _ this
theorem PJ (k:Kd) (n:Nat):(Ax k n).length<=20/\(As k).length<=7:=by
 refine⟨?_,by cases k <;> decide⟩;unfold Ax;cases k <;> dsimp only <;> split <;> decide
theorem Qu {n a b ep:Nat} {k:Kd} {st:T->Option T} {items:List T} (ha:σ a=some (.dct ep (E5 st))) (hb:Ag σ (.ref b)=some (Ae items)) (hx:∀x its,items=x::its->Ay x/\G6 k its) (ht:∀x,Ay x->TOk ((st x).getD []))
  (h:Q (rv (BO k st items)) σ):lev (n+20) false .l_due [.ref a,.str (As k),.ref b] σ Q E:=by
 refine AD (m:=[some (.ref a),some (.str (As k)),some (.ref b),none,none,none,none,none]) rfl rfl rfl ?_;dsimp only[Kx];have hil:items.length<=5:=by
  cases items with
  | nil=>simp
  | cons x its=>have:=(hx x its rfl).2.1;simp;assumption
 have hbl:(Ae items).length<=LIM:=by rw[Ad,LIM];exact lin 1 0 [.l Z0 (.c 5)] (.l Z0 (.c 8000000)) [] R0 _ hil
 have z0_:=PJ k items.length;have hul:=z0_.1;have hkl:=z0_.2;clear z0_;walk_at"w";rw[Ad];refine N5 (n:=n+18) ?_;walk_at"w";refine Af (fun z=>?_) (fun z=>?_)
 ·have hdue:BO k st items=.error (Ej k items.length):=by
   unfold BO;cases items with
   | nil=>rfl
   | cons x its =>
    show (if Ax k (its.length+1)=[] then _ else _)=_;rw[if_neg (show ¬Ax k (its.length+1)=[] from z)];rfl
  rw[hdue] at h;have hmsg:(Ej k items.length).1=tx "wrong # args: should be \"dict "++As k++tx " dictVarName "++Ax k items.length++tx "\"":=by
   unfold Ej FD;simp only[← List.append_assoc];rfl
  have h:Q (fv (Ej k items.length)) σ:=h;unfold fv at h;rw[hmsg] at h;walk_at"w";exact Ah h
 ·have hz:Ax k items.length=[]:=by simpa using z
  cases items with
  | nil=>exact absurd hz (by unfold Ax;cases k <;> decide)
  | cons x its =>
   have z0_:=hx x its rfl;have hxn:=z0_.1;have hio:=z0_.2;clear z0_;have hto:=ht x hxn;have hdue:BO k st (x::its)=LH k ((st x).getD []) its:=by
    show (if Ax k (its.length+1)=[] then _ else _)=_;rw[if_pos (show Ax k (its.length+1)=[] from hz)]
   rw[hdue] at h;walk_at"w";refine Ak (j:=0) hb hbl (by decide) (Am (x:=x) rfl) ?_;refine By (Az ha) (CA hxn) ?_;refine AU (BN (fun m τ=>τ=σ/\m=[some (.ref a),some (.str (As k)),some (.ref b),some (.str []),some (.str ((st x).getD [])),none,none,none]) (fun Q' hQ1 hQ2=>?_) ?_)
   ·rw[hz];cases hs:st x with
    | none =>
     walk_at"w";exact hQ1 _ _ ⟨rfl,by rw[hs];rfl⟩
    | some t =>
     walk_at"w";exact hQ1 _ _ ⟨rfl,by rw[hs];rfl⟩
   intro m τ z1_;have z2_:=z1_.1;have z3_:=z1_.2;clear z1_;subst z2_;subst z3_;generalize (st x).getD []=t at *;by_cases hk3:k=.append∨k=.lappend∨k=.incr
   ·obtain⟨key,more,rfl⟩ : ∃key more,its=key::more:=by
     cases its with
     | nil =>
      have hz1:Ax k 1=[]:=hz;rcases hk3 with rfl | rfl | rfl <;> exact absurd hz1 (by decide)
     | cons key more=>exact Me key more rfl
    have hall:∀y∈key::more,B7 y:=by rcases hk3 with rfl | rfl | rfl <;> exact hio.2
    have hkey:=hall key (.head _);have hmo:∀y∈more,B7 y:=fun y hy=>hall y (.tail _ hy);have hml:more.length<=10:=by have:=hio.1;simp at this;exact U36 _ this
    have hns:¬As k=[115,101,116]:=by rcases hk3 with rfl | rfl | rfl <;> decide
    have hnu:¬As k=[117,110,115,101,116]:=by rcases hk3 with rfl | rfl | rfl <;> decide
    walk_at"w";refine Af (fun z=>absurd z hns) (fun _=>?_);walk_at"w";refine Af (fun z=>absurd z hnu) (fun _=>?_);walk_at"w";refine Dw (n:=n+16) (Nat.le_trans hto.len (by decide)) (fun ps hp p hpn=>?_) (fun f hf=>?_)
    ·have hd:=hto.pairs hp;have hpl:ps.length<=100000:=by have:=Ch hd;exact U8 _ this
     have hbl2:∀c,Ag (τ.set p c) (.ref b)=some (Ae (x::key::more)):=fun c=>Al hb (SubS.new hpn);walk_at"w";refine Df (Ac (Aa _ _ _)) ?_;walk_at"w";refine Ak (j:=1) (hbl2 _) hbl (by decide) (Am (x:=key) rfl) ?_;walk_at"w";refine LB (n:=n+18) (Ac (Aa _ _ _)) hpl ?_;have hdueb:LH k t (key::more)=if k=.append/\(ps.lookup key).isSome=true/\more=[] then .ok t else match Dj k (ps.lookup key) more with
       | .error f=>.error f
       | .ok v=>.ok (AE (AK ps key v)):=by
      rcases hk3 with rfl | rfl | rfl
      ·show BK t key more=_;unfold BK;rw[hp];dsimp only;by_cases hc:more=[]/\(ps.lookup key).isSome=true
       ·rw[if_pos hc,if_pos (Bk rfl hc.2 hc.1)]
       ·rw[if_neg hc,if_neg (fun z=>hc ⟨z.2.2,z.2.1⟩)];rfl
      ·show Bq t key more=_;rw[if_neg (fun z=>by cases z.1)];unfold Bq Dj;rw[hp];dsimp only;cases hl:ps.lookup key with
       | none=>rfl
       | some old =>
        dsimp only;by_cases hc:more=[]
        ·rw[if_pos hc,if_pos hc];dsimp only;rw[OC hd.keys hl]
        ·rw[if_neg hc,if_neg hc];cases A0 old <;> rfl
      ·show D4 t key (more.headD [49])=_;rw[if_neg (fun z=>by cases z.1)];unfold D4 Dj;rw[hp];dsimp only;cases hl:ps.lookup key with
       | none=>dsimp only;cases AN (more.headD [49]) <;> rfl
       | some old =>
        dsimp only;cases AN old with
        | none=>rfl
        | some z=>dsimp only;cases AN (more.headD [49]) <;> rfl
     rw[hdueb] at h;have hold:∀o,ps.lookup key=some o->TOk o/\good o:=fun o ho=>⟨hd.val ho,(hd.mem ho).1⟩;refine AU (BN (fun m τ'=>τ'=τ.set p (.lst (tp ps))/\m=[some (.ref a),some (.str (As k)),some (.ref b),some (.str []),some (.str t),some (.ref p),some (Ds (ps.lookup key)),none]/\¬(k=.append/\(ps.lookup key).isSome=true/\more=[])) (fun Q' hQ1 hQ2=>?_) ?_)
     ·have goes:¬(k=.append/\(ps.lookup key).isSome=true/\more=[])->Q' .next [some (.ref a),some (.str (As k)),some (.ref b),some (.str []),some (.str t),some (.ref p),some (Ds (ps.lookup key)),none] (τ.set p (.lst (tp ps))):=fun hn=>hQ1 _ _ (Bk rfl rfl hn)
      walk_at"w";refine Af (fun z=>?_) (fun z=>?_)
      ·have hka:k=.append:=by rcases hk3 with rfl | rfl | rfl <;> first | rfl | (revert z;decide)
       cases hl:ps.lookup key with
       | none =>
        rw[hl] at goes;walk_at"w";exact goes (fun z=>by exact xFT z.2.1)
       | some o =>
        rw[hl] at goes h;walk_at"w";refine len_ref (hbl2 _) hbl ?_;walk_at"w";rw[Ad];refine Af (fun z2=>?_) (fun z2=>?_)
        ·have hm0:more=[]:=by
          cases more with
          | nil=>rfl
          | cons=>simp at z2;exact(lin 1 0 [.E (.a (.a (.a (.o Z0) (.c 1)) (.c 1)) (.c 1)) (.c 2)] .f [[1,0]] R0 _ z2).elim
         rw[if_pos ⟨hka,rfl,hm0⟩] at h;walk_at"w";refine hQ2 _ _ _ (fun z=>by cases z) ?_;walk_at"w";exact AB (SubS.new hpn) h
        ·walk_at"w";exact goes (fun z3=>z2 (by rw[z3.2.2];rfl))
      ·walk_at"w";exact goes (fun z3=>z (by rw[z3.1];rfl))
     intro m τ' z4_;have z5_:=z4_.1;have z6_:=z4_.2.1;have hn:=z4_.2.2;clear z4_;subst z5_;subst z6_;rw[if_neg hn] at h;walk_at"w";refine BJ (lo:=some ((2:Nat):Int)) (hi:=none) rfl rfl (hbl2 _) hbl ?_;rw[D0,show (Ae (x::key::more)).drop 2=Ae more from rfl];refine AL (by rw[Ad,LIM];exact U6 _ hml) (fun q hq=>?_);have hpq:p≠q:=Bg (Aa _ _ _) hq;have hs2:SubS τ ((τ.set p (.lst (tp ps))).set q (.lst (Ae more))):=(SubS.new hpn).trans (SubS.new hq);walk_at"w";refine LZ (n:=n+16) hk3 hold hml hmo (Ac (Aa _ _ _)) ?_;cases hbh:Dj k (ps.lookup key) more with
     | error f =>
      rw[hbh] at h;unfold rv fv;walk_at"w";walk_at"w";exact AB hs2 h
     | ok v =>
      rw[hbh] at h;have hvl:=LY hk3 hold hml hmo hbh;unfold rv;walk_at"w";walk_at"w";refine Ak (j:=1) (Al hb hs2) hbl (by decide) (Am (x:=key) rfl) ?_;walk_at"w";refine FA (n:=n+18) (Ac (by rw[Ab _ _ hpq];exact Aa _ _ _)) hpl (fun c hc=>?_);walk_at"w";refine E0 (n:=n+16) (Ac (Aa _ _ _)) (by
       have h1:=Bt (Ao (AK ps key v));have h2:=D9 hd.keys key v;have h3:=AV key false;have h4:=AV v false;have h5:=hd.wt;have h6:=hkey.2;exact lin 7 0 [.l Z0 (.a (.a Z1 (.a Z2 (.c 1))) (.a Z3 (.c 1))),.l Z2 (.a Z4 (.c 2)),.l Z3 (.a Z5 (.c 2)),.l Z5 (.c 20000),.l Z4 (.c 30),.l Z1 (.c 3401),.l Z6 Z0] (.l Z6 (.c 100000)) [] R0 _ _ _ _ _ _ _ h2 h3 h4 hvl h6 h5 h1) ?_
      walk_at"w";exact AB (hs2.trans (SubS.new hc)) h
    ·have hdf:LH k t (key::more)=.error f:=by
      rcases hk3 with rfl | rfl | rfl
      ·show BK t key more=_;unfold BK;rw[hf]
      ·show Bq t key more=_;unfold Bq;rw[hf]
      ·show D4 t key (more.headD [49])=_;unfold D4;rw[hf]
     rw[hdf] at h;walk_at"w";refine bf_tup_t ?_;walk_at"w";exact Ah h
   ·have hk2:k=.set∨k=.unset:=by cases k <;> simp at hk3 ⊢
    rcases hk2 with rfl | rfl
    ·obtain⟨k1,ks,v,rfl⟩ : ∃k1 ks v,its=k1::(ks++[v]):=by
      match its,hz with
      | [],hz=>exact absurd (show Ax .set 1=[] from hz) (by decide)
      | [y],hz=>exact absurd (show Ax .set 2=[] from hz) (by decide)
      | y::z::r,_=>exact Jq y ((z::r).dropLast) ((z::r).getLast (by simp)) (by rw[List.dropLast_concat_getLast])
     have hdl:(k1::(ks++[v])).dropLast=k1::ks:=by
      rw[show k1::(ks++[v])=(k1::ks)++[v] from rfl,List.dropLast_concat]
     have hll:(k1::(ks++[v])).getLastD []=v:=by
      show ((k1::ks)++[v]).getLastD []=v;rw[List.getLastD_eq_getLast?,List.getLast?_concat];rfl
     have hio2:=hio.2;dsimp only at hio2;rw[hdl,hll] at hio2;have h:Q (rv (C2 t (k1::(ks++[v])).dropLast ((k1::(ks++[v])).getLastD []))) τ:=h;rw[hdl,hll] at h;have hkl4:ks.length<=8:=by have:=hio.1;simp at this;exact SO _ this
     walk_at"wd";have e1:Ae (x::k1::(ks++[v]))=Ae (x::k1::ks)++[.str v]:=by unfold Ae;simp
     have hcut:Cr (Ae (x::k1::(ks++[v]))) (some ((1:Nat):Int)) (some (-1))=Ae (k1::ks):=by
      have e2:=G4 (Ae (x::k1::ks)) (.str v);unfold Cr at e2 ⊢;rw[e1];simp only[Option.map_none,Option.getD_none,List.drop_zero] at e2;rw[e2];simp only[Option.map_some,Option.getD_some,Dx];rw[Nat.min_eq_left (by rw[List.length_append,Ad];simp)];rfl
     refine BJ (lo:=some ((1:Nat):Int)) (hi:=some (-1)) rfl rfl hb hbl ?_;rw[hcut];refine AL (by rw[Ad,LIM];simp;exact U20 _ hkl4) (fun q hq=>?_);walk_at"w";refine CR (s:=Ae (x::k1::ks)) (x:=.str v) (by rw[← e1];exact Al hb (SubS.new hq)) (by rw[Ad,LIM];simp;exact lin 1 0 [.l Z0 (.c 8)] (.l Z0 (.c 7999997)) [] R0 _ hkl4) ?_;walk_at"w";have hset:=PW hio2.2.1 (by have:=hio2.2.2;exact SR _ this) ks k1 t (n+15 - ks.length) q (τ.set q (.lst (Ae (k1::ks)))) (fun v σ₁=>dropQ Q v σ₁) (fun e σ'=>dropE E e σ') hto hio2.1 hkl4 (Ac (Aa _ _ _)) (AB (SubS.new hq) h);rw[show n+15 - ks.length+ks.length+4=n+19 from by exact SL _ _ hkl4] at hset;exact hset
    ·obtain⟨k1,ks,rfl⟩ : ∃k1 ks,its=k1::ks:=by
      cases its with
      | nil=>exact absurd (show Ax .unset 1=[] from hz) (by decide)
      | cons k1 ks=>exact Me k1 ks rfl
     have h:Q (rv (Bh t (k1::ks))) τ:=h;have hkl4:ks.length<=8:=by have:=hio.1;simp at this;exact Uc _ this
     walk_at"wd";refine BJ (lo:=some ((1:Nat):Int)) (hi:=none) rfl rfl hb hbl ?_;rw[D0,show (Ae (x::k1::ks)).drop 1=Ae (k1::ks) from rfl];refine AL (by rw[Ad,LIM];simp;exact U20 _ hkl4) (fun q hq=>?_);walk_at"w";have hset:=N8 ks k1 t (n+15 - ks.length) q (τ.set q (.lst (Ae (k1::ks)))) (fun v σ₁=>dropQ Q v σ₁) (fun e σ'=>dropE E e σ') hto hio.2 hkl4 (Ac (Aa _ _ _)) (AB (SubS.new hq) h);rw[show n+15 - ks.length+ks.length+4=n+19 from by exact SL _ _ hkl4] at hset;exact hset
end
section
theorem D7 {k:Kd} {u:T} (h:tx "dict "++As k++tx " dictVarName "++Ax k n=u):FD u=Ej k n:=by unfold Ej;rw[h]
theorem Mg {n w a:Nat} {w0 w1:T} {items:List T} (hi:items.length < 2) (hw:Ag σ (.ref w)=some (Ae (w0::w1::items))) (h:RaisesA σ E (Ej .append items.length)):lev (n+4) false .dict_append [.ref a,.ref w] σ Q E:=by
 have hwl:(Ae (w0::w1::items)).length<=LIM:=by rw[Ad,LIM];simp;exact U37 _ hi
 refine AD (m:=[some (.ref a),some (.ref w),none,none,none]) rfl rfl rfl ?_;dsimp only[CO];walk_at"w";refine Af (fun _=>?_) (fun z=>by rw[Ad] at z;simp at z;exact(U38 _ z hi).elim);walk_at"w";refine Cd (by decide) (fun e j at_ he hf=>?_);rw[D7 (k:=.append) (n:=items.length) (by unfold Ax;dsimp only;rw[if_pos hi];decide)] at hf;exact BZ he hf h.one
theorem Kv {n w a:Nat} {w0 w1:T} {items:List T} (hi:items.length < 2) (hw:Ag σ (.ref w)=some (Ae (w0::w1::items))) (h:RaisesA σ E (Ej .lappend items.length)):lev (n+4) false .dict_lappend [.ref a,.ref w] σ Q E:=by
 have hwl:(Ae (w0::w1::items)).length<=LIM:=by rw[Ad,LIM];simp;exact U37 _ hi
 refine AD (m:=[some (.ref a),some (.ref w),none,none]) rfl rfl rfl ?_;dsimp only[C5];walk_at"w";refine Af (fun _=>?_) (fun z=>by rw[Ad] at z;simp at z;exact(U38 _ z hi).elim);walk_at"w";refine Cd (by decide) (fun e j at_ he hf=>?_);rw[D7 (k:=.lappend) (n:=items.length) (by unfold Ax;dsimp only;rw[if_pos hi];decide)] at hf;exact BZ he hf h.one
theorem Px {n w a:Nat} {w0 w1:T} {items:List T} (hl:items.length<=10) (hi:¬(items.length=2∨items.length=3)) (hw:Ag σ (.ref w)=some (Ae (w0::w1::items))) (h:RaisesA σ E (Ej .incr items.length)):lev (n+4) false .dict_incr [.ref a,.ref w] σ Q E:=by
 have hwl:(Ae (w0::w1::items)).length<=LIM:=by rw[Ad,LIM];simp;exact lin 1 0 [.l Z0 (.c 10)] (.l Z0 (.c 7999998)) [] R0 _ hl
 refine AD (m:=[some (.ref a),some (.ref w),none,none,none,none]) rfl rfl rfl ?_;dsimp only[DF];walk_at"w";refine CT (t':=false) ?_ ?_
 ·show ([(4:Int),5].any fun x=>x==(((Ae (w0::w1::items)).length:Nat):Int))=false;rw[Ad,List.length_cons,List.length_cons];simp;exact lin 1 0 [.n (.o (.e Z0 (.c 2)) (.e Z0 (.c 3)))] (.a (.n (.E (.c 4) (.a (.a (.o Z0) (.c 1)) (.c 1)))) (.n (.E (.c 5) (.a (.a (.o Z0) (.c 1)) (.c 1))))) [[1,0,1,0],[1,0,1,0],[],[],[],[],[1,0,0,1],[0,1,0,1]] R0 _ hi
 walk_at"w";refine Cd (by decide) (fun e j at_ he hf=>?_);rw[D7 (k:=.incr) (n:=items.length) (by unfold Ax;dsimp only;rw[if_neg hi];decide)] at hf;exact BZ he hf h.one
theorem Qo {n w a:Nat} {w0 w1:T} {items:List T} (hi:items.length < 3) (hw:Ag σ (.ref w)=some (Ae (w0::w1::items))) (h:RaisesA σ E (Ej .set items.length)):lev (n+4) false .dict_set [.ref a,.ref w] σ Q E:=by
 have hwl:(Ae (w0::w1::items)).length<=LIM:=by rw[Ad,LIM];simp;exact lin 1 0 [.t Z0 (.c 3)] (.l Z0 (.c 7999998)) [] R0 _ hi
 refine AD (m:=[some (.ref a),some (.ref w)]) rfl rfl rfl ?_;dsimp only[E6];walk_at"w";refine Af (fun _=>?_) (fun z=>by rw[Ad] at z;simp at z;exact(lin 1 0 [.L (.c 5) (.a (.a (.o Z0) (.c 1)) (.c 1)),.t Z0 (.c 3)] .f [] R0 _ z hi).elim);walk_at"w";refine Cd (by decide) (fun e j at_ he hf=>?_);rw[D7 (k:=.set) (n:=items.length) (by unfold Ax;dsimp only;rw[if_pos hi];decide)] at hf;exact BZ he hf h.one
theorem NH {n w a:Nat} {w0 w1:T} {items:List T} (hi:items.length < 2) (hw:Ag σ (.ref w)=some (Ae (w0::w1::items))) (h:RaisesA σ E (Ej .unset items.length)):lev (n+4) false .dict_unset [.ref a,.ref w] σ Q E:=by
 have hwl:(Ae (w0::w1::items)).length<=LIM:=by rw[Ad,LIM];simp;exact U37 _ hi
 refine AD (m:=[some (.ref a),some (.ref w)]) rfl rfl rfl ?_;dsimp only[Dt];walk_at"w";refine Af (fun _=>?_) (fun z=>by rw[Ad] at z;simp at z;exact(U38 _ z hi).elim);walk_at"w";refine Cd (by decide) (fun e j at_ he hf=>?_);rw[D7 (k:=.unset) (n:=items.length) (by unfold Ax;dsimp only;rw[if_pos hi];decide)] at hf;exact BZ he hf h.one
noncomputable def D5 (y:T):Prop:=∀f,∃f',run (0,0,f) y=some (0,0,f')
theorem Ko {x:T}:∀{more:List T},good x->(∀y∈more,D5 y)->good (x++AR [] more):=by
 have aux:∀(more:List T) (f:Bool),(∀y∈more,D5 y)->∃f',run (0,0,f) (AR [] more)=some (0,0,f'):=by
  intro more;induction more with
  | nil=>intro f _;exact⟨f,rfl⟩
  | cons y r ih =>
   intro f h;refine Aq (h y (.head _) f) fun f1 h1=>?_;cases r with
   | nil=>exact⟨f1,h1⟩
   | cons z r =>
    refine Aq (ih f1 fun q hq=>h q (.tail _ hq)) fun f2 h2=>?_;exact⟨f2,by rw[AR,List.append_nil,Bb,h1,Option.bind_some,h2]⟩
 intro more hx hm;refine Aq hx fun f hf=>?_;clear hx;refine Aq (aux more f hm) fun f' hf'=>?_;exact⟨f',by rw[Bb,hf,Option.bind_some,hf']⟩
noncomputable def Q7 (st:T->Option T × Nat) (items:List T):Except AG T->T->Option T × Nat
 | .ok t=>DR st (items.headD []) t
 | .error _=>st
theorem OR {n w:Nat} {w0:T} {k:Kd} {items:List T} {H:HS} (hH:HostAt σ H) (hw:Ag σ (.ref w)=some (Ae (w0::As k::items))) (hwf:¬H.foot w)
  (hx:∀x its,items=x::its->Ay x/\G6 k its/\(k=.append->∀y∈its.tail,D5 y)) (ht:∀x,Ay x->TOk ((H.st x).1.getD []))
  (h:∀σ' H',HStep σ σ' H H'->H'.st=Q7 H.st items (BO k (fun x=>(H.st x).1) items)->Q (rv (BO k (fun x=>(H.st x).1) items)) σ'):lev (n+20) false .l_done [.ref H.h,.ref w] σ Q E:=by
 refine AD (m:=[some (.ref H.h),some (.ref w),none]) rfl rfl rfl ?_;dsimp only[IM];have hil:items.length<=5:=by
  cases items with
  | nil=>simp
  | cons x its=>have:=(hx x its rfl).2.1.1;simp;assumption
 have hwl:(Ae (w0::As k::items)).length<=LIM:=by rw[Ad,LIM];simp;exact lin 1 0 [.l Z0 (.c 5)] (.l Z0 (.c 7999998)) [] R0 _ hil
 have caught:∀(σ1:Store) (f:AG) (m1:Loc),m1.length=3->(∀(τ:Store),SubS σ1 τ->dropQ Q (fv f) τ)->RaisesA σ1 (fun e σ'=>ws (lev (n+19)) (some e) (.cons (.ret (.tup (.cons (.attr (.var 2) [99,111,100,101]) (.cons (.attr (.var 2) [118,97,108,117,101]) (.cons (.attr (.var 2) [101,114,114,111,114,99,111,100,101]) .nil))))) .nil)
   (m1.set 2 (some (.ref e))) σ' (fun fl _ σ₂=>G0 (lev (n+19)) none .nil (FL Q) (Es E) fl [] σ₂) (fun e₂ _ σ₂=>dropE E e₂ σ₂)) f:=by
  intro σ1 f m1 hm hq e st k at_ hst he hf;have hm2:(m1.set 2 (some (V.ref e)))[2]?=some (some (.ref e)):=by rw[List.getElem?_set];simp[hm]
  refine AO (Ue (Ri (AY (Mh (AI hm2 ?_)))));refine Ek (Aa _ _ _) hf.code ?_;refine AY (Mh (AI hm2 ?_));refine Ek (Aa _ _ _) hf.value ?_;refine AY (Mh (AI hm2 ?_));refine Ek (Aa _ _ _) hf.err ?_;refine C8 (lm (by simp[LIM]) ?_);walk_at"w";exact hq _ (SubS.new he)
 generalize hr:BO k (fun x=>(H.st x).1) items=r at h;have errc:∀f,r=.error f->∀(σ':Store) (H':HS),HStep σ σ' H H'->H'.st=H.st->∀τ,SubS σ' τ->dropQ Q (fv f) τ:=by
  intro f hf σ' H' hs he τ hτ;subst hf;exact AB hτ (h σ' H' hs he)
 have deed:∀(Q2:QV) (E2:QE) (x:T),x=items.headD []->(∀t σ',dropQ Q (.tup [.int 0,.str t]) σ'->Q2 (.str t) σ')->(∀(σ1:Store) (f:AG),(∀(τ:Store),SubS σ1 τ->dropQ Q (fv f) τ)->RaisesA σ1 E2 f)->IC σ H x r Q2 E2:=by
  intro Q2 E2 x hxx h1 h2 σ' H' hs;cases r with
  | ok t=>intro he;subst hxx;exact h1 t σ' (Ah (h σ' H' hs he))
  | error f=>intro he;exact h2 σ' f (errc f rfl σ' H' hs he)
 have bad:∀(E2:QE),(∀(σ1:Store) (f:AG),(∀(τ:Store),SubS σ1 τ->dropQ Q (fv f) τ)->RaisesA σ1 E2 f)->Ax k items.length≠[]->RaisesA σ E2 (Ej k items.length):=by
  intro E2 h2 hu;have hrr:r=.error (Ej k items.length):=by
   rw[← hr];unfold BO;cases items with
   | nil=>rfl
   | cons x its =>
    show (if Ax k (its.length+1)=[] then _ else _)=_;rw[if_neg (show ¬Ax k (its.length+1)=[] from hu)];rfl
  exact h2 σ _ (errc _ hrr σ H (.refl hH) rfl)
 have well:∀x its,items=x::its->Ax k items.length=[]->r=LH k ((H.st x).1.getD []) its:=by
  intro x its e hu;rw[← hr,e];show (if Ax k (its.length+1)=[] then _ else _)=_;rw[if_pos (by rw[e] at hu;exact hu)]
 refine AO (RQ ?_);cases k with
 | append =>
  walk_at"w";refine Ak (j:=1) hw hwl (by decide) (Am (x:=As .append) rfl) ?_;walk_at"wd";by_cases hu:items.length < 2
  ·exact Mg hu hw (bad _ (fun σ1 f hq=>caught σ1 f _ rfl hq) (by unfold Ax;dsimp only;rw[if_pos hu];decide))
  ·obtain⟨x,key,more,rfl⟩ : ∃x key more,items=x::key::more:=by
    match items,hu with
    | [],hu=>exact absurd (by decide) hu
    | [_],hu=>exact absurd (by simp) hu
    | x::key::more,_=>exact Jq x key more rfl
   have z0_:=hx x _ rfl;have hxn:=z0_.1;have hio:=z0_.2.1;have hap:=z0_.2.2;clear z0_;have hall:=hio.2;dsimp only at hall;rw[well x _ rfl (by unfold Ax;dsimp only;rw[if_neg hu])] at deed;refine Iv (n:=n+11) hH hxn hw hwf (by have:=hio.1;simp at this;exact U36 _ this) (fun y hy=>hall y (.tail _ hy)) (hall key (.head _)) (ht x hxn) (fun ps hp=>?_) (deed _ _ x rfl (fun t σ' hq=>?_) (fun σ1 f hq=>caught σ1 f _ rfl hq))
   ·refine Ko ?_ (hap rfl);exact((((ht x hxn).pairs hp).old key).good).elim id fun ⟨e,he⟩=>by
     cases hl:ps.lookup key with
     | none=>exact ES
     | some o=>exact(((ht x hxn).pairs hp).mem hl).1
   ·walk_at"w";exact hq
 | lappend =>
  walk_at"w";refine Ak (j:=1) hw hwl (by decide) (Am (x:=As .lappend) rfl) ?_;walk_at"wd";refine Ak (j:=1) hw hwl (by decide) (Am (x:=As .lappend) rfl) ?_;walk_at"wd";by_cases hu:items.length < 2
  ·exact Kv hu hw (bad _ (fun σ1 f hq=>caught σ1 f _ rfl hq) (by unfold Ax;dsimp only;rw[if_pos hu];decide))
  ·obtain⟨x,key,more,rfl⟩ : ∃x key more,items=x::key::more:=by
    match items,hu with
    | [],hu=>exact absurd (by decide) hu
    | [_],hu=>exact absurd (by simp) hu
    | x::key::more,_=>exact Jq x key more rfl
   have z0_:=hx x _ rfl;have hxn:=z0_.1;have hio:=z0_.2.1;have hap:=z0_.2.2;clear z0_;have hall:=hio.2;dsimp only at hall;rw[well x _ rfl (by unfold Ax;dsimp only;rw[if_neg hu])] at deed;refine Hx (n:=n+11) hH hxn hw hwf (by have:=hio.1;simp at this;exact U36 _ this) (fun y hy=>hall y (.tail _ hy)) (hall key (.head _)) (ht x hxn) (deed _ _ x rfl (fun t σ' hq=>?_) (fun σ1 f hq=>caught σ1 f _ rfl hq));walk_at"w";exact hq
 | incr =>
  walk_at"w";refine Ak (j:=1) hw hwl (by decide) (Am (x:=As .incr) rfl) ?_;walk_at"wd";refine Ak (j:=1) hw hwl (by decide) (Am (x:=As .incr) rfl) ?_;walk_at"wd";refine Ak (j:=1) hw hwl (by decide) (Am (x:=As .incr) rfl) ?_;walk_at"wd";by_cases hu:items.length=2∨items.length=3
  ·obtain⟨x,key,more,rfl⟩ : ∃x key more,items=x::key::more:=by
    match items,hu with
    | [],hu=>exact absurd hu (by simp)
    | [_],hu=>exact absurd hu (by simp)
    | x::key::more,_=>exact Jq x key more rfl
   have z0_:=hx x _ rfl;have hxn:=z0_.1;have hio:=z0_.2.1;have hap:=z0_.2.2;clear z0_;have hall:=hio.2;dsimp only at hall;rw[well x _ rfl (by unfold Ax;dsimp only;rw[if_pos hu])] at deed;refine K2 (n:=n+11) hH hxn hw hwf (by have:=hu;simp only[List.length_cons] at this;exact lin 1 0 [.o (.e (.a (.a Z0 (.c 1)) (.c 1)) (.c 2)) (.e (.a (.a Z0 (.c 1)) (.c 1)) (.c 3))] (.l Z0 (.c 1)) [[1,0,1],[1,0,1]] R0 _ this) (fun y hy=>hall y (.tail _ hy)) (hall key (.head _)) (ht x hxn) (deed _ _ x rfl (fun t σ' hq=>?_) (fun σ1 f hq=>caught σ1 f _ rfl hq));walk_at"w";exact hq
  ·exact Px (by exact lin 1 0 [.l Z0 (.c 5)] (.l Z0 (.c 10)) [] R0 _ hil) hu hw (bad _ (fun σ1 f hq=>caught σ1 f _ rfl hq) (by unfold Ax;dsimp only;rw[if_neg hu];decide))
 | set =>
  walk_at"w";refine Ak (j:=1) hw hwl (by decide) (Am (x:=As .set) rfl) ?_;walk_at"wd";refine Ak (j:=1) hw hwl (by decide) (Am (x:=As .set) rfl) ?_;walk_at"wd";refine Ak (j:=1) hw hwl (by decide) (Am (x:=As .set) rfl) ?_;walk_at"wd";refine Ak (j:=1) hw hwl (by decide) (Am (x:=As .set) rfl) ?_;walk_at"wd";by_cases hu:items.length < 3
  ·exact Qo hu hw (bad _ (fun σ1 f hq=>caught σ1 f _ rfl hq) (by unfold Ax;dsimp only;rw[if_pos hu];decide))
  ·obtain⟨x,ks,kl,v,rfl⟩ : ∃x ks kl v,items=x::(ks++[kl])++[v]:=by
    match items,hu with
    | [],hu=>exact absurd (by decide) hu
    | [_],hu=>exact absurd (by simp) hu
    | [_,_],hu=>exact absurd (by simp) hu
    | x::a::b::r,_ =>
     refine Uw x ((a::b::r).dropLast.dropLast) ((a::b::r).dropLast.getLast (by simp)) ((a::b::r).getLast (by simp)) ?_;rw[List.dropLast_concat_getLast,List.cons_append,List.dropLast_concat_getLast]
   have z0_:=hx x ((ks++[kl])++[v]) rfl;have hxn:=z0_.1;have hio:=z0_.2.1;have hap:=z0_.2.2;clear z0_;have hall:=hio.2;dsimp only at hall;have hdl:((ks++[kl])++[v]).dropLast=ks++[kl]:=List.dropLast_concat;have hll:((ks++[kl])++[v]).getLastD []=v:=by rw[List.getLastD_eq_getLast?,List.getLast?_concat];rfl
   rw[hdl,hll] at hall;have hwe:=well x ((ks++[kl])++[v]) rfl (by unfold Ax;dsimp only;rw[if_neg hu]);have hwe2:r=C2 ((H.st x).1.getD []) (ks++[kl]) v:=by
    rw[hwe];show C2 _ ((ks++[kl])++[v]).dropLast (((ks++[kl])++[v]).getLastD [])=_;rw[hdl,hll]
   rw[hwe2] at deed;refine Lz (n:=n+9) hH hxn hw hwf (by have:=hio.1;simp at this;exact SO _ this) hall.1 hall.2 (ht x hxn) (deed _ _ x rfl (fun t σ' hq=>?_) (fun σ1 f hq=>caught σ1 f _ rfl hq));walk_at"w";exact hq
 | unset =>
  walk_at"w";refine Ak (j:=1) hw hwl (by decide) (Am (x:=As .unset) rfl) ?_;walk_at"wd";refine Ak (j:=1) hw hwl (by decide) (Am (x:=As .unset) rfl) ?_;walk_at"wd";refine Ak (j:=1) hw hwl (by decide) (Am (x:=As .unset) rfl) ?_;walk_at"wd";refine Ak (j:=1) hw hwl (by decide) (Am (x:=As .unset) rfl) ?_;walk_at"wd";by_cases hu:items.length < 2
  ·exact NH hu hw (bad _ (fun σ1 f hq=>caught σ1 f _ rfl hq) (by unfold Ax;dsimp only;rw[if_pos hu];decide))
  ·obtain⟨x,ks,kl,rfl⟩ : ∃x ks kl,items=x::(ks++[kl]):=by
    match items,hu with
    | [],hu=>exact absurd (by decide) hu
    | [_],hu=>exact absurd (by simp) hu
    | x::a::r,_ =>
     refine Jq x ((a::r).dropLast) ((a::r).getLast (by simp)) ?_;rw[List.dropLast_concat_getLast]
   have z0_:=hx x (ks++[kl]) rfl;have hxn:=z0_.1;have hio:=z0_.2.1;have hap:=z0_.2.2;clear z0_;have hall:=hio.2;dsimp only at hall;rw[well x _ rfl (by unfold Ax;dsimp only;rw[if_neg hu])] at deed;refine JK (n:=n+9) hH hxn hw hwf (by have:=hio.1;simp at this;exact Uc _ this) hall (ht x hxn) (deed _ _ x rfl (fun t σ' hq=>?_) (fun σ1 f hq=>caught σ1 f _ rfl hq));walk_at"w";exact hq
end
section
structure DeedOk (k:Kd) (its:List T):Prop where
 few:its.length<=4
 all:∀y∈its,good y/\y.length<=30
 short:k≠.incr->∀y∈its,y.length<=8
 key:∀y,its.head?=some y->y.length<=8
 app:k=.append->∀y∈its.tail,D5 y
theorem Gs {its:List T} {v:T} (h:its.getLastD []=v):v∈its∨v=[]:=by
 rw[List.getLastD_eq_getLast?] at h;cases hl:its.getLast? with
 | none=>rw[hl] at h;right;rw[← h];rfl
 | some x=>rw[hl] at h;left;rw[← h];exact List.mem_of_getLast? hl
theorem DeedOk.items {k:Kd} {its:List T} (h:DeedOk k its):G6 k its:=by
 refine⟨h.few,?_⟩;cases k with
 | append=>exact h.all
 | lappend=>exact h.all
 | incr=>exact h.all
 | set =>
  have hs:=h.short (by decide);refine⟨fun y hy=>?_,?_⟩
  ·have hm:=(List.dropLast_sublist its).subset hy;exact⟨(h.all y hm).1,by have:=hs y hm;exact U21 _ this⟩
  ·rcases Gs (its:=its) rfl with hm | hm
   ·exact h.all _ hm
   ·rw[hm];exact⟨ES,Nat.zero_le _⟩
 | unset =>
  have hs:=h.short (by decide);exact fun y hy=>⟨(h.all y hy).1,by have:=hs y hy;exact U21 _ this⟩
theorem E9 (ht:TOk t) (hp:Ap t=.ok ps):good t/\DOk (t.length+1) ps:=by
 rcases ht.good with g | ⟨e,he⟩
 ·exact⟨g,E7 g hp⟩
 ·unfold Ap at hp;rw[he] at hp;exact xEO hp
theorem M4 {N:Nat} {k v:T} (h:DOk N ps):wt (Ao (AK ps k v))<=N+k.length+v.length+6:=by
 have h1:=AV k false;have h2:=AV v false;have h5:=h.wt;have:=D9 h.keys k v;exact U78 _ _ _ _ _ _ _ this h1 h2 h5
theorem JL {N:Nat} {k v old:T} (h:DOk N ps) (hl:ps.lookup k=some old):wt (Ao (AK ps k v))+old.length<=N+v.length+2:=by
 have h2:=AV v false;have h5:=h.wt;have h3:=H6 (v:=v) h.keys hl;have h4:=Jy old false;exact lin 7 0 [.e (.a Z0 (.a Z1 (.c 1))) (.a Z2 (.a Z3 (.c 1))),.l Z3 (.a Z4 (.c 2)),.l Z5 Z1,.l Z2 Z6] (.l (.a Z0 Z5) (.a (.a Z6 Z4) (.c 2))) [[1,0,1,1,1,1]] R0 _ _ _ _ _ _ _ h3 h2 h4 h5
theorem LC {l:List T} (h:∀y∈l,y.length<=8):(AR [] l).length<=8*l.length:=by
 rw[D6];induction l with
 | nil=>simp
 | cons y r ih =>
  rw[List.map_cons,List.sum_cons,List.length_cons];have:=h y (.head _);have:=ih fun x hx=>h x (.tail _ hx);exact lin 3 0 [.l Z0 (.c 8),.l Z1 (.m 8 Z2)] (.l (.a Z0 Z1) (.m 8 (.a Z2 (.c 1)))) [] R0 _ _ _ (by assumption) this
theorem Lo {l:List T} (h:∀y∈l,y.length<=8):wt l<=11*l.length:=by
 induction l with
 | nil=>exact Nat.zero_le _
 | cons y r ih =>
  rw[Bf,List.length_cons];have:=AV y false;have:=h y (.head _);have:=ih fun x hx=>h x (.tail _ hx);exact lin 4 0 [.l Z0 (.a Z1 (.c 2)),.l Z1 (.c 8),.l Z2 (.m 11 Z3)] (.l (.a (.a Z0 (.c 1)) Z2) (.m 11 (.a Z3 (.c 1)))) [] R0 _ _ _ _ (by assumption) (by assumption) this
theorem P7 {v:T} (hv:v.length<=8):∀(ks:List T) (ps d:List (T × T)) (N:Nat),(∀k∈ks,k.length<=8)->DOk N ps->N<=3401->Cq ps ks v=.ok d->wt (Ao d)<=N+24*ks.length:=by
 intro ks;induction ks with
 | nil=>intro ps d N _ h _ e;rw[Cq] at e;obtain rfl:=xOO e;exact h.wt
 | cons k ks ih =>
  intro ps d N hk h hN e;have hk1:=hk k (.head _);cases ks with
  | nil =>
   rw[Cq] at e;obtain rfl:=xOO e;have h1:=D9 h.keys k v;have h2:=AV k false;have h3:=AV v false;have:=h.wt;simp;exact lin 7 0 [.l Z0 (.a (.a Z1 (.a Z2 (.c 1))) (.a Z3 (.c 1))),.l Z2 (.a Z4 (.c 2)),.l Z3 (.a Z5 (.c 2)),.l Z5 (.c 8),.l Z4 (.c 8),.l Z1 Z6] (.l Z0 (.a Z6 (.c 24))) [] R0 _ _ _ _ _ _ _ h1 h2 h3 hv hk1 this
  | cons k2 ks =>
   rw[Cq] at e;split at e
   ·exact xEO e
   ·rename_i q hq;cases hs:Cq q (k2::ks) v with
    | error f=>rw[hs] at e;exact xEO e
    | ok q' =>
     rw[hs] at e;obtain rfl:=xOO e;have hl2:(AE q').length<=wt (Ao q')+1:=Bo (Ao q');cases hlk:ps.lookup k with
     | none =>
      have hp:=M4 (k:=k) (v:=AE q') h;rw[hlk,Option.getD_none,Ho] at hq;obtain rfl:=xOO hq;have:=ih [] q' 0 (fun x hx=>hk x (.tail _ hx)) (J8 0) (by decide) hs;simp only[List.length_cons] at this ⊢;exact lin 6 0 [.l Z0 (.a (.a (.a Z1 Z2) Z3) (.c 6)),.l Z4 (.a (.c 0) (.m 24 (.a Z5 (.c 1)))),.l Z3 (.a Z4 (.c 1)),.l Z2 (.c 8)] (.l Z0 (.a Z1 (.m 24 (.a (.a Z5 (.c 1)) (.c 1))))) [] R0 _ _ _ _ _ _ hp this hl2 hk1
     | some old =>
      have hp:=JL (k:=k) (v:=AE q') h hlk;rw[hlk,Option.getD_some] at hq;have hm:=h.mem hlk;have hdq:=E7 hm.1 hq;have:=ih q q' _ (fun x hx=>hk x (.tail _ hx)) hdq (by omega) hs;simp only[List.length_cons] at this ⊢;exact Ua _ _ _ _ _ _ hp this hl2
theorem NA:∀(ks:List T) (ps d:List (T × T)) (N:Nat),DOk N ps->N<=3401->AP ps ks=.ok d->wt (Ao d)<=N+24*ks.length:=by
 intro ks;induction ks with
 | nil=>intro ps d N h _ e;rw[AP] at e;obtain rfl:=xOO e;exact h.wt
 | cons k ks ih =>
  intro ps d N h hN e;cases ks with
  | nil =>
   rw[AP] at e;obtain rfl:=xOO e;have:=(h.del k).wt;simp;exact lin 2 0 [.l Z0 Z1] (.l Z0 (.a Z1 (.c 24))) [] R0 _ _ this
  | cons k2 ks =>
   rw[AP] at e;split at e
   ·exact xEO e
   ·rename_i old hlk;split at e
    ·exact xEO e
    ·rename_i q hq;cases hs:AP q (k2::ks) with
     | error f=>rw[hs] at e;exact xEO e
     | ok q' =>
      rw[hs] at e;obtain rfl:=xOO e;have hp:=JL (k:=k) (v:=AE q') h hlk;have hl2:(AE q').length<=wt (Ao q')+1:=Bo (Ao q');have hm:=h.mem hlk;have hdq:=E7 hm.1 hq;have:=ih q q' _ hdq (by omega) hs;simp only[List.length_cons] at this ⊢;exact Ua _ _ _ _ _ _ hp this hl2
theorem Pq {k:Kd} {t u:T} {its:List T} {L:Nat} (ht:TOk t) (hL:t.length<=L) (h80:100<=L) (hi:DeedOk k its) (hn:Ax k (its.length+1)=[]) (h:LH k t its=.ok u):good u/\4*u.length<=5*L+300:=by
 have fin:∀(ps':List (T × T)) (C:Nat),DJ ps'->4*wt (Ao ps')<=5*L+296->good (AE ps')/\4*(AE ps').length<=5*L+300:=by
  intro ps' C hg hw;have:(AE ps').length<=wt (Ao ps')+1:=Bo _;exact⟨BX (DQ hg),by exact lin 3 0 [.l (.m 4 Z0) (.a (.m 5 Z1) (.c 296)),.l Z2 (.a Z0 (.c 1))] (.l (.m 4 Z2) (.a (.m 5 Z1) (.c 300))) [[1,4,1]] R0 _ _ _ hw this⟩
 have hlen:=ht.len;have putt:∀(ps:List (T × T)) (key v:T),Ap t=.ok ps->good key->good v->key.length<=8->(ps.lookup key=none->v.length<=45)->(∀old,ps.lookup key=some old->4*v.length<=4*old.length+160∨(4*v.length<=5*max old.length 30+30))->good (AE (AK ps key v))/\4*(AE (AK ps key v)).length<=5*L+300:=by
  intro ps key v hp hk hv hkl hc1 hc2;have z0_:=E9 ht hp;have hg:=z0_.1;have hd:=z0_.2;clear z0_;refine fin _ 0 (EX hd.good hk hv) ?_;cases hl:ps.lookup key with
  | none =>
   have hw:=M4 (k:=key) (v:=v) hd;have:=hc1 hl;exact lin 5 0 [.l Z0 (.a (.a (.a (.a Z1 (.c 1)) Z2) Z3) (.c 6)),.l Z3 (.c 45),.l Z2 (.c 8),.l Z1 Z4] (.l (.m 4 Z0) (.a (.m 5 Z4) (.c 296))) [[4,4,4,5,1]] R0 _ _ _ _ _ hw this hkl hL
  | some old =>
   have hw:=JL (k:=key) (v:=v) hd hl;have hm:=(hd.mem hl).2;have:=hc2 old hl;exact lin 5 0 [.l (.a Z0 (.c 1)) (.a Z1 (.c 1)),.l (.a Z2 Z0) (.a (.a (.a Z1 (.c 1)) Z3) (.c 2)),.l Z1 Z4,.o (.l (.m 4 Z3) (.a (.m 4 Z0) (.c 160))) (.l (.m 4 Z3) (.a (.m 5 (.x Z0 (.c 30))) (.c 30)))] (.l (.m 4 Z2) (.a (.m 5 Z4) (.c 296))) [[0,4,5,1,1],[1,4,5,0,1,1],[1,4,5,0,1,1]] R0 _ _ _ _ _ hm hw hL this
 cases k with
 | append =>
  cases its with
  | nil=>exact absurd hn (by decide)
  | cons key more =>
   have h:BK t key more=.ok u:=h;have hs:=hi.short (by decide);unfold BK at h;cases hp:Ap t with
   | error f=>rw[hp] at h;exact xEO h
   | ok ps =>
    rw[hp] at h;dsimp only at h;split at h
    ·obtain rfl:=xOO h;exact⟨(E9 ht hp).1,by exact lin 2 0 [.l Z0 Z1] (.l (.m 4 Z0) (.a (.m 5 Z1) (.c 300))) [[4,1]] R0 _ _ hL⟩
    ·obtain rfl:=xOO h;have hj:=LC (l:=more) fun y hy=>hs y (.tail _ hy);have hf:=hi.few;simp at hf;refine putt ps key _ hp (hi.all key (.head _)).1 (Ko ?_ (hi.app rfl)) (hs key (.head _)) (fun hl=>?_) (fun o hl=>?_)
     ·cases hl:ps.lookup key with
      | none=>exact ES
      | some o=>exact((E9 ht hp).2.mem hl).1
     ·rw[hl];simp;exact lin 2 0 [.l Z0 (.c 3),.l Z1 (.m 8 Z0)] (.l Z1 (.c 45)) [[8,1,1]] R0 _ _ hf hj
     ·left;rw[hl];simp;exact lin 3 0 [.l Z0 (.c 3),.l Z1 (.m 8 Z0)] (.l (.m 4 (.a Z2 Z1)) (.a (.m 4 Z2) (.c 160))) [[32,4,1]] R0 _ _ _ hf hj
 | lappend =>
  cases its with
  | nil=>exact absurd hn (by decide)
  | cons key more =>
   have h:Bq t key more=.ok u:=h;have hs:=hi.short (by decide);have hmg:∀y∈more,good y:=fun y hy=>(hi.all y (.tail _ hy)).1;have hwm:=Lo (l:=more) fun y hy=>hs y (.tail _ hy);have hf:=hi.few;simp at hf;unfold Bq at h;cases hp:Ap t with
   | error f=>rw[hp] at h;exact xEO h
   | ok ps =>
    rw[hp] at h;dsimp only at h;cases hl:ps.lookup key with
    | none =>
     rw[hl] at h;obtain rfl:=xOO h;have:=Bo more;exact putt ps key _ hp (hi.all key (.head _)).1 (BX hmg) (hs key (.head _)) (fun _=>by exact lin 3 0 [.l Z0 (.a Z1 (.c 1)),.l Z2 (.c 3),.l Z1 (.m 11 Z2)] (.l Z0 (.c 45)) [[1,11,1,1]] R0 _ _ _ this hf hwm) (fun o ho=>by rw[hl] at ho;exact xNS ho)
    | some old =>
     rw[hl] at h;dsimp only at h;have z0_:=E9 ht hp;have hg:=z0_.1;have hd:=z0_.2;clear z0_;split at h
     ·obtain rfl:=xOO h;refine fin _ 0 hd.good ?_;have:=hd.wt;exact lin 3 0 [.l Z0 (.a Z1 (.c 1)),.l Z1 Z2] (.l (.m 4 Z0) (.a (.m 5 Z2) (.c 296))) [[4,5,1]] R0 _ _ _ this hL
     ·cases hx:A0 old with
      | error e=>rw[hx] at h;exact xEO h
      | ok xs =>
       rw[hx] at h;obtain rfl:=xOO h;have ho:=hd.mem hl;have hxw:=(Et old xs (Nat.le_refl _) hx).1;have hxg:=EP _ old xs (Nat.le_refl _) ho.1 hx;have h1:=Bo (xs++more);rw[FP] at h1;refine putt ps key _ hp (hi.all key (.head _)).1 (BX fun y hy=>?_) (hs key (.head _)) (fun hn=>by rw[hl] at hn;exact xSN hn) (fun o ho=>by rw[hl] at ho;obtain rfl:=xSS ho;left;exact lin 5 0 [.l Z0 (.a (.a Z1 Z2) (.c 1)),.l Z1 (.a Z3 (.c 1)),.l Z4 (.c 3),.l Z2 (.m 11 Z4)] (.l (.m 4 Z0) (.a (.m 4 Z3) (.c 160))) [[4,4,44,4,1]] R0 _ _ _ _ _ h1 hxw hf hwm);rw[List.mem_append] at hy;exact hy.elim (hxg y) (hmg y)
 | incr =>
  cases its with
  | nil=>exact absurd hn (by decide)
  | cons key more =>
   have h:D4 t key (more.headD [49])=.ok u:=h;have hkl:=hi.key key rfl;have hby:B7 (more.headD [49]):=by
    cases more with
    | nil=>exact⟨⟨false,rfl⟩,by decide⟩
    | cons y r=>exact hi.all y (.tail _ (.head _))
   unfold D4 at h;cases hp:Ap t with
   | error f=>rw[hp] at h;exact xEO h
   | ok ps =>
    rw[hp] at h;dsimp only at h;cases hl:ps.lookup key with
    | none =>
     rw[hl] at h;dsimp only at h;split at h
     ·exact xEO h
     ·obtain rfl:=xOO h;exact putt ps key _ hp (hi.all key (.head _)).1 hby.1 hkl (fun _=>by have:=hby.2;exact lin 1 0 [.l Z0 (.c 30)] (.l Z0 (.c 45)) [] R0 _ this) (fun o ho=>by rw[hl] at ho;exact xNS ho)
    | some old =>
     rw[hl] at h;dsimp only at h;split at h
     ·exact xEO h
     ·rename_i z hz;split at h
      ·exact xEO h
      ·rename_i w hw;obtain rfl:=xOO h;refine putt ps key _ hp (hi.all key (.head _)).1 (Eh _) hkl (fun hn=>by rw[hl] at hn;exact xSN hn) (fun o ho=>?_);rw[hl] at ho;obtain rfl:=xSS ho
       right
       exact HT hz hw (Nat.le_max_left _ _) (Nat.le_trans hby.2 (Nat.le_max_right _ _))
 | set =>
  have h:C2 t its.dropLast (its.getLastD [])=.ok u:=h;have hs:=hi.short (by decide);have hio:=hi.items.2;dsimp only at hio;have hv8:(its.getLastD []).length<=8:=by
   rcases Gs (its:=its) rfl with hm | hm
   ·exact hs _ hm
   ·rw[hm];exact Nat.zero_le _
  unfold C2 at h;cases hp:Ap t with
  | error f=>rw[hp] at h;exact xEO h
  | ok ps =>
   rw[hp] at h;dsimp only at h;have z0_:=E9 ht hp;have hg:=z0_.1;have hd:=z0_.2;clear z0_;cases hd2:Cq ps its.dropLast (its.getLastD []) with
   | error f=>rw[hd2] at h;exact xEO h
   | ok d =>
    rw[hd2] at h;obtain rfl:=xOO h;have hw:=P7 hv8 its.dropLast ps d _ (fun y hy=>hs y ((List.dropLast_sublist its).subset hy)) hd (by exact TB _ hlen) hd2;have hdk:=Kw hio.2.1 (by exact lin 1 0 [.l Z0 (.c 8)] (.l Z0 (.c 60)) [] R0 _ hv8) its.dropLast ps d hio.1 (ht.pairs hp) hd2;have hf:=hi.few;refine fin _ 0 hdk.good ?_;rw[List.length_dropLast] at hw;exact lin 4 0 [.l Z0 (.a (.a Z1 (.c 1)) (.m 24 (.s Z2 (.c 1)))),.l Z2 (.c 4),.l Z1 Z3] (.l (.m 4 Z0) (.a (.m 5 Z3) (.c 296))) [[0,4,96,5,1],[0,4,0,5,1]] R0 _ _ _ _ hw hf hL
 | unset =>
  have h:Bh t its=.ok u:=h;have hio:=hi.items.2;dsimp only at hio;unfold Bh at h;cases hp:Ap t with
  | error f=>rw[hp] at h;exact xEO h
  | ok ps =>
   rw[hp] at h;dsimp only at h;have z0_:=E9 ht hp;have hg:=z0_.1;have hd:=z0_.2;clear z0_;cases hd2:AP ps its with
   | error f=>rw[hd2] at h;exact xEO h
   | ok d =>
    rw[hd2] at h;obtain rfl:=xOO h;have hw:=NA its ps d _ hd (by exact TB _ hlen) hd2;have hdk:=GG its ps d hio (ht.pairs hp) hd2;have hf:=hi.few;exact fin _ 0 hdk.good (by exact lin 4 0 [.l (.c 100) Z0,.l Z1 (.a (.a Z2 (.c 1)) (.m 24 Z3)),.l Z3 (.c 4),.l Z2 Z0] (.l (.m 4 Z1) (.a (.m 5 Z0) (.c 296))) [[1,4,96,4,1]] R0 _ _ _ _ h80 hw hf hL)
end
section
noncomputable def JY:List T:=[[97],[98],[35],[97,32,98],[]]
noncomputable def G7:List T:=[[55],[],[32,45,55,32],[48,120,49,102],[97],[123,97,125],[123,97,125,122],[35],[97,32,98],[97,32,123,98,32,55,125],[48,55],[43,51]]
noncomputable def H9:List T:=[[55],[],[45],[48,120],[97],[32],[123,97,125],[123,125],[35],[97,32,98],[97,32,123,98,32,55,125],[45,49,50]]
noncomputable def JE (f:Bool) (y:T):Bool:=match run (0,0,f) y with
 | some (0,0,_)=>true
 | _=>false
theorem BQ {f:Bool} {y:T} (h:JE f y=true):∃f',run (0,0,f) y=some (0,0,f'):=by
 unfold JE at h;generalize run (0,0,f) y=r at h ⊢;cases r with
 | none=>exact xFT h
 | some s =>
  obtain⟨a,b,f'⟩:=s;cases a <;> cases b <;> first | exact⟨f',rfl⟩ | exact xFT h
theorem Mt:∀y∈JY,good y/\y.length<=8:=by
 have:∀y∈JY,JE true y=true/\y.length<=8:=by decide
 exact fun y hy=>⟨BQ (this y hy).1,(this y hy).2⟩
theorem Nb:∀y∈G7,good y/\y.length<=8:=by
 have:∀y∈G7,JE true y=true/\y.length<=8:=by decide
 exact fun y hy=>⟨BQ (this y hy).1,(this y hy).2⟩
theorem Hh:∀y∈H9,(good y/\y.length<=8)/\D5 y:=by
 have:∀y∈H9,JE true y=true/\JE false y=true/\y.length<=8:=by decide
 intro y hy;have z0_:=this y hy;have h1:=z0_.1;have h2:=z0_.2.1;have h3:=z0_.2.2;clear z0_;refine⟨⟨BQ h1,h3⟩,fun f=>?_⟩;cases f
 ·exact BQ h2
 ·exact BQ h1
theorem K3 (h:∀a,σ a=none->Q (.ref a) (σ.set a (.lst (Ae JY)))):lev (n+1) false .l_keys [] σ Q E:=by
 refine AD (m:=[]) rfl rfl rfl ?_;dsimp only[I1];walk_at"w";refine AL (by decide) (fun a ha=>?_);walk_at"w";exact Ah (h a ha)
theorem Lw (h:∀a,σ a=none->Q (.ref a) (σ.set a (.lst (Ae G7)))):lev (n+1) false .l_values [] σ Q E:=by
 refine AD (m:=[]) rfl rfl rfl ?_;dsimp only[Gj];walk_at"w";refine AL (by decide) (fun a ha=>?_);walk_at"w";exact Ah (h a ha)
theorem ID (h:∀a,σ a=none->Q (.ref a) (σ.set a (.lst (Ae H9)))):lev (n+1) false .l_texts [] σ Q E:=by
 refine AD (m:=[]) rfl rfl rfl ?_;dsimp only[Hc];walk_at"w";refine AL (by decide) (fun a ha=>?_);walk_at"w";exact Ah (h a ha)
theorem CN {L:List T} {i:Int} (e:Ag σ (.ref a)=some (Ae L)) (hl:L.length<=100) (h0:0<=i) (h1:i < L.length) (k:∀y∈L,Q (.str y) σ):idxSem (.ref a) (.int i) σ Q:=by
 have hj:i.toNat < L.length:=by exact lin 1 1 [.L (.c 0) (.v 0),.T (.v 0) (.o Z0)] (.t (.t (.v 0)) Z0) [[0,1,0,1],[1,1,0,1]] R0 _ _ h0 h1
 refine Ak (j:=i.toNat) e (by rw[Ad,LIM];exact U16 _ hl) (by exact lin 0 1 [.L (.c 0) (.v 0)] (.E (.v 0) (.o (.t (.v 0)))) [[0,0,1],[0,0,1],[1,0,1],[0,1,1]] R0 _ h0) (Am (x:=L[i.toNat]) (List.getElem?_eq_getElem hj)) (k _ (List.getElem_mem hj))
theorem Kq {x:T} (h:good x):good (123::(x++[125])):=by
 refine Aq h fun f hr=>?_;clear h;refine⟨false,?_⟩;rw[run];show (some ((1,0,true):AS)).bind _=_;rw[Option.bind_some,Bb,IR hr];rfl
theorem HW:∀(l:List T),(∀x∈l,good x)->good (AR [32,32] l)
 | [],_=>ES
 | [x],h=>h x (.head _)
 | x::y::r,h=>by
  refine Aq (h x (.head _)) fun f hx=>?_;refine Aq (HW (y::r) fun z hz=>h z (.tail _ hz)) fun f' hr=>?_;refine⟨f',?_⟩;rw[AR,Bb,Bb,hx,Option.bind_some];exact hr
theorem IT:∀(l:List T),(∀x∈l,x.length<=10)->(AR [32,32] l).length<=12*l.length
 | [],_=>by simp[AR]
 | [x],h=>by have:=h x (.head _);simp[AR];exact lin 1 0 [.l Z0 (.c 10)] (.l Z0 (.c 12)) [] R0 _ this
 | x::y::r,h=>by
  have:=h x (.head _);have:=IT (y::r) fun z hz=>h z (.tail _ hz);rw[AR,List.length_append,List.length_append];simp only[List.length_cons,List.length_nil] at this ⊢;exact lin 3 0 [.l Z0 (.c 10),.l Z1 (.m 12 (.a Z2 (.c 1)))] (.l (.a (.a Z0 (.a (.a (.c 0) (.c 1)) (.c 1))) Z1) (.m 12 (.a (.a Z2 (.c 1)) (.c 1)))) [] R0 _ _ _ (by assumption) this
noncomputable def Qi (o:Option T):Prop:=∀t,o=some t->TOk t/\t.length<=100
theorem E4 (h:good t) (hl:t.length<=3400):TOk t:=⟨h.ok,hl,.inl h⟩
theorem Je {number:Int} (h:∀o,Qi o->Q (Ds o) σ):lev (n+5) false .l_first [.int number] σ Q E:=by
 refine AD (m:=[some (.int number),none,none,none,none]) rfl rfl rfl ?_;dsimp only[GU];have h8:0<=number % 8/\number % 8 < 8:=by omega
 walk_at"w";refine mod_int (by decide) ?_;walk_at"w";refine Af (fun z=>?_) (fun z=>?_)
 ·walk_at"w";exact Ah (h none fun t e=>by exact xNS e)
 walk_at"w";refine Af (fun z2=>?_) (fun z2=>?_)
 ·walk_at"w";refine AL (by decide) (fun a ha=>?_);walk_at"w";refine CN (L:=[[97,32,55,32,98],[123,97,125,122,32,55],[123,97,32,55]]) (Ac (Aa _ _ _)) (by decide) (by exact lin 0 1 [.a (.L (.c 0) (.v 0)) (.T (.v 0) (.c 8)),.n (.E (.v 0) (.c 0))] (.L (.c 0) (.s (.v 0) (.c 1))) [[1,0,1,0],[0,0,1,1]] R0 _ h8 z) (by simp;exact lin 0 1 [.T (.v 0) (.c 4)] (.T (.s (.v 0) (.c 1)) (.c 3)) [] R0 _ z2) (fun y hy=>?_);walk_at"w";refine AB (SubS.new ha) (h (some y) fun t e=>?_);obtain rfl:=xSS e;simp at hy;rcases hy with rfl | rfl | rfl
  ·exact⟨E4 (BQ (by decide)) (by decide),by decide⟩
  ·exact⟨E4 (BQ (by decide)) (by decide),by decide⟩
  ·exact⟨⟨by unfold okt;decide,by decide,.inr ⟨.brace,AT rfl⟩⟩,by decide⟩
 walk_at"w";refine AL (by decide) (fun a ha=>?_);walk_at"w";refine div_int (by decide) (by decide) ?_;walk_at"w";refine div_int (by decide) (by decide) ?_;walk_at"w";refine mod_int (by decide) ?_;walk_at"w";have h4:0<=number / 8 % 4/\number / 8 % 4 < 4:=by omega
 refine Lf (by exact Tf _ h4) ?_;let J1:EF:=fun i m τ=>∃(xs:List T) (r:Int) (y:Option V),m=[some (.int number),some (.int (number % 8)),some (.ref a),some (.int r),y]/\SubS σ τ/\τ a=some (.lst (Ae xs))/\xs.length=2*i/\∀x∈xs,good x/\x.length<=8
 refine CG J1
  (number / 8 % 4).toNat (by decide) (by exact Tf _ h4) (by decide) (by decide) (by unfold Builtin.Range.rangeSize;rw[if_pos (by decide),Int.ediv_one];split <;> first | exact lin 0 1 [] (.e (.t (.a (.s (.s (.v 0) (.c 0)) (.c 1)) (.c 1))) (.t (.v 0))) [[0,0,1],[0,0,1],[1,0,1],[0,1,1],[1,0,1],[0,1,1],[0,0,1],[0,0,1]] R0 _ | exact lin 0 1 [.n (.T (.c 0) (.v 0))] (.e (.t (.c 0)) (.t (.v 0))) [[1,0,0,1],[0,0,1,1],[0,0,0,1],[0,0,0,1],[1,0,0,1],[0,0,1,1],[0,0,0,1],[0,0,0,1]] R0 _ (by assumption)) (by rw[LIM];exact lin 0 1 [.a (.L (.c 0) (.v 0)) (.T (.v 0) (.c 4))] (.l (.t (.v 0)) (.c 8000000)) [[0,1,0,1],[0,0,0,1]] R0 _ h4) (Ov [] _ none rfl (SubS.new ha) (Aa _ _ _) rfl (fun x hx=>(by cases hx))) ?_ ?_
 ·intro i m τ hi z1_;refine Tt z1_ fun xs r y z2_ hs hal hxl hxs=>?_;clear z1_;subst z2_;have hxlim:(Ae xs).length<=LIM:=by rw[Ad,LIM];exact lin 2 1 [.a (.L (.c 0) (.v 0)) (.T (.v 0) (.c 4)),.e Z0 (.m 2 Z1),.t Z1 (.t (.v 0))] (.l Z0 (.c 8000000)) [[0,2,1,0,0,2,1],[0,0,0,0,0,1,0]] R0 _ _ _ h4 hxl hi
  walk_at"w";refine BB hal ?_;walk_at"w";refine K3 (fun b hb=>?_);have hab:a≠b:=Bg hal hb;walk_at"w";refine mod_int (by decide) ?_;refine CN (L:=JY) (Ac (Aa _ _ _)) (by decide) (by omega) (by show _ < ((5:Nat):Int);omega) (fun k hk=>?_);walk_at"w";refine BC (by rw[Ab _ _ hab];exact hal) hxlim ?_;walk_at"w";refine BB (Aa _ _ _) ?_;walk_at"w";refine Lw (fun c hc=>?_);have hac:a≠c:=Bg (Aa _ _ _) hc;walk_at"w";refine mod_int (by decide) ?_;refine CN (L:=G7) (Ac (Aa _ _ _)) (by decide) (by omega) (by show _ < ((12:Nat):Int);omega) (fun v hv=>?_);walk_at"w";refine BC (by rw[Ab _ _ hac];exact Aa _ _ _) (by rw[List.length_append,Ad,LIM];simp;exact lin 2 1 [.a (.L (.c 0) (.v 0)) (.T (.v 0) (.c 4)),.e Z0 (.m 2 Z1),.t Z1 (.t (.v 0))] (.l Z0 (.c 7999999)) [[0,2,1,0,0,2,1],[0,0,0,0,0,1,0]] R0 _ _ _ h4 hxl hi) ?_;walk_at"w";refine div_int (by decide) (by decide) ?_;walk_at"w";refine Ov (xs++[k]++[v]) _ _ rfl ?_ (by rw[Aa];unfold Ae;simp) (by simp;exact lin 2 0 [.e Z0 (.m 2 Z1)] (.e (.a Z0 (.c 2)) (.m 2 (.a Z1 (.c 1)))) [[0,1,1],[1,0,1]] R0 _ _ hxl) ?_
  ·exact(((hs.trans (SubS.new hb)).turn ha).trans (SubS.new hc)).turn ha
  ·intro x hx;simp at hx;rcases hx with hx | rfl | rfl
   ·exact hxs x hx
   ·exact Mt _ hk
   ·exact Nb _ hv
 ·intro m τ z3_;refine Tt z3_ fun xs r y z4_ hs hal hxl hxs=>?_;clear z3_;subst z4_;have hxl6:xs.length<=6:=by exact lin 1 1 [.a (.L (.c 0) (.v 0)) (.T (.v 0) (.c 4)),.e Z0 (.m 2 (.t (.v 0)))] (.l Z0 (.c 6)) [[0,2,0,1,0,1],[0,0,0,1,0,1]] R0 _ _ h4 hxl
  have hxlim:(Ae xs).length<=LIM:=by rw[Ad,LIM];exact lin 1 0 [.l Z0 (.c 6)] (.l Z0 (.c 8000000)) [] R0 _ hxl6
  walk_at"w";refine div_int (by decide) (by decide) ?_;walk_at"w";refine mod_int (by decide) ?_;walk_at"w";refine Af (fun z3=>?_) (fun z3=>?_)
  ·refine AO (Kl (Tn (CL (Q0 (CL ⟨.str rfl,AY (Hm rfl (AI rfl ?_))⟩)))));refine DA (xs:=Ae xs) (ep:=none) (fun y=>match y with | .str s=>some (.str (123::(s++[125]))) | _=>none) (DB _ (Ac hal)) hxlim ?_ (fun b hb=>?_)
   ·intro y hy;unfold Ae at hy;rw[List.mem_map] at hy;refine e1a2 hy fun x hx z5_=>?_;clear hy;subst z5_;have hx8:=(hxs x hx).2;refine B9 [some (.str x)] rfl (fun Qt hQ=>G3 hQ) (fun w hw Qv hQ=>?_);obtain rfl:=xSS hw;walk_at"w";exact hQ
   ·have hfm:(Ae xs).filterMap (fun y=>match y with | .str s=>some (.str (123::(s++[125]))) | _=>none)=Ae (xs.map fun s=>123::(s++[125])):=by
     unfold Ae;rw[List.filterMap_map,List.map_map,← List.filterMap_eq_map];rfl
    rw[hfm];have hl10:∀x∈xs.map fun s:T=>123::(s++[125]),x.length<=10:=by
     intro x hx;rw[List.mem_map] at hx;refine e1a2 hx fun s hs z6_=>?_;clear hx;subst z6_;have:=(hxs s hs).2;simp;assumption
    have hgd:∀x∈xs.map fun s:T=>123::(s++[125]),good x:=by
     intro x hx;rw[List.mem_map] at hx;refine e1a2 hx fun s hs z7_=>?_;clear hx;subst z7_;exact Kq (hxs s hs).1
    have hj:=IT _ hl10;rw[List.length_map] at hj;have hsum:=H4 fun x hx=>Nat.le_trans (hl10 x hx) (show 10<=30 by decide);rw[List.length_map] at hsum;walk_at"w";refine CD (ts:=xs.map fun s=>123::(s++[125])) (Ac (Aa _ _ _)) (DD _) (by decide) (by rw[List.length_map,LIM];exact lin 2 0 [.l Z0 (.c 6),.l Z1 (.m 30 Z0)] (.l (.a Z1 (.m 64 Z0)) (.c 8000000)) [[94,1,1]] R0 _ _ hxl6 hsum) ?_;refine bs_add_str (by rw[LIM];simp;exact lin 2 0 [.l Z0 (.c 6),.l Z1 (.m 12 Z0)] (.l (.a (.c 1) Z1) (.c 8000000)) [[12,1,1]] R0 _ _ hxl6 hj) ?_;walk_at"w";refine AB (hs.trans (SubS.new hb)) (h (some (32::AR [32,32] (xs.map fun s=>123::(s++[125])))) fun t e=>?_);obtain rfl:=xSS e;refine⟨E4 ?_ (by simp;exact lin 2 0 [.l Z0 (.c 6),.l Z1 (.m 12 Z0)] (.l Z1 (.c 3399)) [[12,1,1]] R0 _ _ hxl6 hj),by simp;exact lin 2 0 [.l Z0 (.c 6),.l Z1 (.m 12 Z0)] (.l Z1 (.c 99)) [[12,1,1]] R0 _ _ hxl6 hj⟩;refine Aq (HW _ hgd) fun f hf=>?_;exact⟨f,by rw[run];exact hf⟩
  ·walk_at"w";have hw:=Lo (l:=xs) fun y hy=>(hxs y hy).2;have hwt:=Bt xs;refine Fj (n:=n+2) (Ac hal) (by exact lin 3 0 [.l Z0 (.c 6),.l Z1 (.m 11 Z0),.l Z2 Z1] (.l Z2 (.c 100000)) [[11,1,1,1]] R0 _ _ _ hxl6 hw hwt) ?_;walk_at"w";have htl:=Bo xs;refine AB hs (h (some (DY xs)) fun t e=>?_);obtain rfl:=xSS e;exact⟨E4 (BX fun x hx=>(hxs x hx).1) (by exact lin 3 0 [.l Z0 (.a Z1 (.c 1)),.l Z2 (.c 6),.l Z1 (.m 11 Z2)] (.l Z0 (.c 3400)) [[1,11,1,1]] R0 _ _ _ htl hxl6 hw),by exact lin 3 0 [.l Z0 (.a Z1 (.c 1)),.l Z2 (.c 6),.l Z1 (.m 11 Z2)] (.l Z0 (.c 100)) [[1,11,1,1]] R0 _ _ _ htl hxl6 hw⟩
end
section
noncomputable def E8 (k:Kd) (items:List T):Prop:=∀x its,items=x::its->Ay x/\DeedOk k its
noncomputable def OE (k:Kd) (its:List T):Bool:=decide (its.length<=4)&&its.all (fun y=>JE true y&&decide (y.length<=30))&&(decide (k=.incr)||its.all fun y=>decide (y.length<=8))&&(its.take 1).all (fun y=>decide (y.length<=8)) &&
 (decide (k≠.append)||(its.drop 1).all fun y=>JE true y&&JE false y)
theorem On {k:Kd} {its:List T} (h:OE k its=true):DeedOk k its:=by
 unfold OE at h;simp only[Bool.and_eq_true,Bool.or_eq_true,decide_eq_true_eq,List.all_eq_true] at h;have z1_:=h.1;have h5:=h.2;clear h;have z2_:=z1_.1;have h4:=z1_.2;clear z1_;have z3_:=z2_.1;have h3:=z2_.2;clear z2_;have h1:=z3_.1;have h2:=z3_.2;clear z3_;refine⟨h1,fun y hy=>⟨BQ (h2 y hy).1,(h2 y hy).2⟩,fun hk y hy=>h3.elim (fun e=>absurd e hk) fun h=>h y hy,fun y hy=>h4 y ?_,fun hk y hy=>?_⟩
 ·cases its with
  | nil=>exact xNS hy
  | cons z r=>obtain rfl:=xSS hy;simp
 ·have h5:=h5.elim (fun e=>absurd hk e) id;have hy':y∈its.drop 1:=by cases its with
   | nil=>cases hy
   | cons=>exact hy
  intro f;cases f
  ·exact BQ (h5 y hy').2
  ·exact BQ (h5 y hy').1
noncomputable def Ou (items:List T) (k:Kd):Bool:=match items with
 | []=>true
 | x::its=>(x==[100]||x==[101])&&OE k its
theorem Pr {items:List T} {k:Kd} (h:Ou items k=true):E8 k items:=by
 intro x its e;subst e;unfold Ou at h;simp only[Bool.and_eq_true,Bool.or_eq_true,beq_iff_eq] at h;exact⟨h.1,On h.2⟩
theorem Sr {a b:Int} (h0:0<=b) (h1:b<=1000000) (h2:a.natAbs < 2 ^ 63) (h:Q (.int (a ^ b.toNat)) σ):binSem .pow (.int a) (.int b) σ Q:=.pow_int h0 h1 h2 h
theorem P9 {y:T} (h:y∈[As .append,As .lappend,As .incr,As .set,As .unset]):∃k,y=As k:=by
 simp only[List.mem_cons,List.not_mem_nil,or_false] at h;rcases h with rfl | rfl | rfl | rfl | rfl
 ·exact⟨_,rfl⟩
 ·exact⟨_,rfl⟩
 ·exact⟨_,rfl⟩
 ·exact⟨_,rfl⟩
 ·exact⟨_,rfl⟩
theorem M5 {α:Type} (x:α) (l:List α) (i:Nat) (y:α):(x::l).set (i+1) y=x::l.set i y:=rfl
noncomputable def GY (k:Kd):Bool:=decide (k=.set)||decide (k=.unset)
theorem Co (h:vs.length<=LIM) (k:∀a τ,σ a=none->SubS σ τ->τ a=some (.lst vs)->Q (.ref a) τ):newL σ vs Q:=AL h fun a ha=>k a _ ha (SubS.new ha) (Aa _ _ _)
theorem Mi {s:Nat} {ns:List Int} {p:Nat} (hs:Ag σ (.ref s)=some (ns.map .int)) (hn:ns.length<=100) (hp:p < 8) (hlt:ns.length<=p+2)
  (h:∀k items,E8 k items->∀a,σ a=none->Q (.tup [.str (As k),.ref a]) (σ.set a (.lst (Ae items)))):lev (n+5) false .l_deed [.ref s,.int p] σ Q E:=by
 refine AD (m:=[some (.ref s),some (.int p),none,none,none,none,none,none,none]) rfl rfl rfl ?_;dsimp only[FX];have hnl:(ns.map V.int).length<=LIM:=by rw[List.length_map,LIM];exact U16 _ hn
 walk_at"w";rw[List.length_map];refine Af (fun _=>?_) (fun z=>by exact(lin 2 0 [.l Z0 (.a Z1 (.c 2)),.n (.L (.o Z0) (.a (.o Z1) (.c 2)))] .f [] R0 _ _ hlt z).elim);walk_at"w";refine Co (by decide) (fun a1 τ1 h1 s1 e1=>?_);have S1:=s1;walk_at"w";refine Co (by decide) (fun a2 τ2 h2 s2 e2=>?_);have S2:=S1.trans s2;have n2:=S1.none h2
 replace e1:=s2 _ _ e1
 walk_at"w";refine Co (by decide) (fun a3 τ3 h3 s3 e3=>?_);have S3:=S2.trans s3;have n3:=S2.none h3
 replace e1:=s3 _ _ e1
 replace e2:=s3 _ _ e2
 walk_at"w";refine Co (by decide) (fun a4 τ4 h4 s4 e4=>?_);have S4:=S3.trans s4;have n4:=S3.none h4
 replace e1:=s4 _ _ e1
 replace e2:=s4 _ _ e2
 replace e3:=s4 _ _ e3
 walk_at"w";refine Co (by decide) (fun a5 τ5 h5 s5 e5=>?_);have S5:=S4.trans s5;have n5:=S4.none h5
 replace e1:=s5 _ _ e1
 replace e2:=s5 _ _ e2
 replace e3:=s5 _ _ e3
 replace e4:=s5 _ _ e4
 walk_at"w";refine Co (by decide) (fun a6 τ6 h6 s6 e6=>?_);have S6:=S5.trans s6;have n6:=S5.none h6
 replace e1:=s6 _ _ e1
 replace e2:=s6 _ _ e2
 replace e3:=s6 _ _ e3
 replace e4:=s6 _ _ e4
 replace e5:=s6 _ _ e5
 walk_at"w";refine Co (by decide) (fun a7 τ7 h7 s7 e7=>?_);have S7:=S6.trans s7;have n7:=S6.none h7
 replace e1:=s7 _ _ e1
 replace e2:=s7 _ _ e2
 replace e3:=s7 _ _ e3
 replace e4:=s7 _ _ e4
 replace e5:=s7 _ _ e5
 replace e6:=s7 _ _ e6
 walk_at"w";refine Co (by decide) (fun a8 τ8 h8 s8 e8=>?_);have S8:=S7.trans s8;have n8:=S7.none h8
 replace e1:=s8 _ _ e1
 replace e2:=s8 _ _ e2
 replace e3:=s8 _ _ e3
 replace e4:=s8 _ _ e4
 replace e5:=s8 _ _ e5
 replace e6:=s8 _ _ e6
 replace e7:=s8 _ _ e7
 walk_at"w";refine Co (by simp[LIM]) (fun a9 τ9 h9 s9 e9=>?_);have S9:=S8.trans s9;have n9:=S8.none h9
 replace e1:=s9 _ _ e1
 replace e2:=s9 _ _ e2
 replace e3:=s9 _ _ e3
 replace e4:=s9 _ _ e4
 replace e5:=s9 _ _ e5
 replace e6:=s9 _ _ e6
 replace e7:=s9 _ _ e7
 replace e8:=s9 _ _ e8
 walk_at"w";have fin:∀(k:Kd) (items:List T) (a:Nat),Ou items k=true->σ a=none->τ9 a=some (.lst (Ae items))->dropQ Q (.tup [.str (As k),.ref a]) τ9:=fun k items a hd hn he =>
  AB (SubS.put S9 he) (h k items (Pr hd) a hn)
 have h8:p=0∨p=1∨p=2∨p=3∨p=4∨p=5∨p=6∨p=7:=lt8 (by assumption);rcases h8 with rfl | rfl | rfl | rfl | rfl | rfl | rfl | rfl
 ·refine Ak (j:=0) (Ac e9) (by simp[LIM]) rfl rfl ?_;walk_at"w";exact fin .append [[100],[97]] a1 (by decide) h1 e1
 ·refine Ak (j:=1) (Ac e9) (by simp[LIM]) rfl rfl ?_;walk_at"w";exact fin .incr [[100],[97],[45,49,50]] a2 (by decide) n2 e2
 ·refine Ak (j:=2) (Ac e9) (by simp[LIM]) rfl rfl ?_;walk_at"w";exact fin .lappend [[100],[98],[97,32,98]] a3 (by decide) n3 e3
 ·refine Ak (j:=3) (Ac e9) (by simp[LIM]) rfl rfl ?_;walk_at"w";exact fin .lappend [[100],[35],[],[55]] a4 (by decide) n4 e4
 ·refine Ak (j:=4) (Ac e9) (by simp[LIM]) rfl rfl ?_;walk_at"w";exact fin .append [[101],[],[123,97,125],[35]] a5 (by decide) n5 e5
 ·refine Ak (j:=5) (Ac e9) (by simp[LIM]) rfl rfl ?_;walk_at"w";exact fin .set [[101],[97,32,98],[98],[55]] a6 (by decide) n6 e6
 ·refine Ak (j:=6) (Ac e9) (by simp[LIM]) rfl rfl ?_;walk_at"w";exact fin .incr [[100],[98],[122]] a7 (by decide) n7 e7
 ·refine Ak (j:=7) (Ac e9) (by simp[LIM]) rfl rfl ?_;walk_at"w";exact fin .unset [[101],[97,32,98],[35]] a8 (by decide) n8 e8
end
section
theorem LD {s:Nat} {ns:List Int} {p:Nat} (hs:Ag σ (.ref s)=some (ns.map .int)) (hn:ns.length<=100) (hp:p < 8) (hlt:p+2 < ns.length)
  (h:∀k items,E8 k items->∀a,σ a=none->Q (.tup [.str (As k),.ref a]) (σ.set a (.lst (Ae items)))):lev (n+5) false .l_deed [.ref s,.int p] σ Q E:=by
 refine AD (m:=[some (.ref s),some (.int p),none,none,none,none,none,none,none]) rfl rfl rfl ?_;dsimp only[FX];have hnl:(ns.map V.int).length<=LIM:=by rw[List.length_map,LIM];exact U16 _ hn
 walk_at"w";rw[List.length_map];refine Af (fun z=>by exact(lin 2 0 [.L (.o Z0) (.a (.o Z1) (.c 2)),.t (.a Z1 (.c 2)) Z0] .f [] R0 _ _ z hlt).elim) (fun _=>?_);walk_at"w";obtain⟨num,hnum⟩ : ∃num,ns[p+2]?=some num:=⟨_,List.getElem?_eq_getElem hlt⟩;refine Ak (j:=p+2) (x:=.int num) hs hnl (by exact lin 1 0 [] (.E (.a (.o Z0) (.c 2)) (.o (.a Z0 (.c 2)))) [] R0 _) (by rw[List.getElem?_map,hnum];rfl) ?_;walk_at"w";refine Co (by decide) (fun a0 τ0 h0 s0 e0=>?_);walk_at"w";refine mod_int (by decide) ?_;refine CN (L:=[As .append,As .lappend,As .incr,As .set,As .unset]) (Ac e0) (by decide) (by omega) (by simp;omega) (fun y hy=>?_);refine Aq (P9 hy) fun k z1_=>?_;subst z1_;walk_at"w";refine div_int (by decide) (by decide) ?_;walk_at"w";refine mod_int (by decide) ?_;walk_at"w";refine div_int (by decide) (by decide) ?_;have hmany:0<=num / 10 % 5/\num / 10 % 5 < 5:=by omega
 obtain⟨many,hmn⟩ : ∃many:Nat,num / 10 % 5=(many:Int):=⟨(num / 10 % 5).toNat,by exact lin 0 1 [.a (.L (.c 0) (.v 0)) (.T (.v 0) (.c 5))] (.E (.v 0) (.o (.t (.v 0)))) [[0,0,0,1],[0,0,0,1],[1,0,0,1],[0,0,1,1]] R0 _ hmany⟩;rw[hmn] at hmany ⊢;generalize num / 50=r0;refine AU (BN (fun m τ=>∃(x:T) (a:Nat),m=[some (.ref s),some (.int p),some (.int num),some (.str (As k)),some (.int many),some (.int r0),some (.ref a),none,none]/\Ay x/\SubS σ τ/\σ a=none/\τ a=some (.lst (Ae [x]))) (fun Q' hQ1 hQ2=>?_) ?_)
 ·walk_at"w";refine div_int (by decide) (by decide) ?_;walk_at"w";refine mod_int (by decide) ?_;walk_at"w";refine Af (fun _=>?_) (fun _=>?_)
  ·walk_at"w";refine Co (by decide) (fun a τ ha hs he=>?_);walk_at"w";exact hQ1 _ _ (Ol [100] a rfl (.inl rfl) (s0.trans hs) (s0.none ha) he)
  ·walk_at"w";refine Co (by decide) (fun a τ ha hs he=>?_);walk_at"w";exact hQ1 _ _ (Ol [101] a rfl (.inr rfl) (s0.trans hs) (s0.none ha) he)
 intro m τ z2_;refine Lh z2_ fun x a z3_ hx hτ ha hal=>?_;clear z2_;subst z3_;refine BN (fun m τ=>∃(its:List T) (r:Int) (y:Option V),m=[some (.ref s),some (.int p),some (.int num),some (.str (As k)),some (.int many),some (.int r),some (.ref a),y,none]/\SubS σ τ/\τ a=some (.lst (Ae (x::its)))/\its.length=4/\(∀y∈its,good y/\y.length<=8)/\(GY k=false->∀y∈its.tail,D5 y)) (fun Q' hQ1 hQ2=>?_) ?_
 ·walk_at"w";refine Lf (by decide) ?_;let J1:EF:=fun i m τ=>∃(its:List T) (r:Int) (y:Option V),m=[some (.ref s),some (.int p),some (.int num),some (.str (As k)),some (.int many),some (.int r),some (.ref a),y,none]/\SubS σ τ/\τ a=some (.lst (Ae (x::its)))/\its.length=i/\(∀y∈its,good y/\y.length<=8)/\(GY k=false->∀y∈its.tail,D5 y)
  refine CG J1
   4 (by decide) (by decide) (by decide) (by decide) (by decide) (by decide) (NG [] r0 none rfl hτ hal rfl (fun y hy=>(by cases hy)) (fun _ y hy=>(by cases hy))) ?_ ?_
  ·intro i m τ hi z4_;refine Pk z4_ fun its r y z5_ hτ hal hil hits happ=>?_;clear z4_;subst z5_;have hlim:(Ae (x::its)).length<=LIM:=by rw[Ad,LIM];simp;exact lin 2 0 [.e Z0 Z1,.t Z1 (.c 4)] (.l Z0 (.c 7999999)) [[1,0,1,1]] R0 _ _ hil hi
   refine BN (fun m τ=>∃z,m=[some (.ref s),some (.int p),some (.int num),some (.str (As k)),some (.int many),some (.int r),some (.ref a),some (.int (0+1*(i:Int))),none]/\SubS σ τ/\τ a=some (.lst (Ae (x::(its++[z]))))/\(good z/\z.length<=8)/\(GY k=false->its≠[]->D5 z)) (fun Q'' hR1 hR2=>?_) ?_
   ·have key:∀(τ':Store),SubS σ τ'->τ' a=some (.lst (Ae (x::its)))->(GY k=false->its=[])->∀(Q3:QV) E3,(∀z τ'',SubS σ τ''->τ'' a=some (.lst (Ae (x::its)))->good z/\z.length<=8->(GY k=false->its≠[]->D5 z)->Q3 (.str z) τ'') ->
      (wp (lev (n+4) false) (.idx (.call .l_keys .nil) (.bin .mod (.var 5) (.cInt 5)))).x [some (.ref s),some (.int p),some (.int num),some (.str (As k)),some (.int many),some (.int r),some (.ref a),some (.int (0+1*(i:Int))),none] τ' Q3 E3:=by
     intro τ' hs' ha' hsu Q3 E3 hq;walk_at"w";refine K3 (fun b hb=>?_);walk_at"w";refine mod_int (by decide) ?_;refine CN (L:=JY) (Ac (Aa _ _ _)) (by decide) (by omega) (by show _ < ((5:Nat):Int);omega) (fun z hz=>?_);exact hq z _ (hs'.trans (SubS.new hb)) (Ar ha' hb) (Mt z hz) (fun e hne=>absurd (hsu e) hne)
    have text:∀(τ':Store),SubS σ τ'->τ' a=some (.lst (Ae (x::its)))->∀(Q3:QV) E3,(∀z τ'',SubS σ τ''->τ'' a=some (.lst (Ae (x::its)))->good z/\z.length<=8->(GY k=false->its≠[]->D5 z)->Q3 (.str z) τ'') ->
      (wp (lev (n+4) false) (.idx (.call .l_texts .nil) (.bin .mod (.var 5) (.cInt 12)))).x [some (.ref s),some (.int p),some (.int num),some (.str (As k)),some (.int many),some (.int r),some (.ref a),some (.int (0+1*(i:Int))),none] τ' Q3 E3:=by
     intro τ' hs' ha' Q3 E3 hq;walk_at"w";refine ID (fun b hb=>?_);walk_at"w";refine mod_int (by decide) ?_;refine CN (L:=H9) (Ac (Aa _ _ _)) (by decide) (by omega) (by show _ < ((12:Nat):Int);omega) (fun z hz=>?_);exact hq z _ (hs'.trans (SubS.new hb)) (Ar ha' hb) (Hh z hz).1 (fun _ _=>(Hh z hz).2)
    have put:∀z τ'',SubS σ τ''->τ'' a=some (.lst (Ae (x::its)))->good z/\z.length<=8->(GY k=false->its≠[]->D5 z)->bmSem .append (.ref a) [.str z] τ'' (fun _ σ₁=>Q'' .next [some (.ref s),some (.int p),some (.int num),some (.str (As k)),some (.int many),some (.int r),some (.ref a),some (.int (0+1*(i:Int))),none] σ₁):=by
     intro z τ'' hs' ha' hz hap;refine BC ha' hlim ?_;refine hR1 _ _ (Td z rfl (hs'.turn ha) ?_ hz hap);rw[Aa];unfold Ae;simp
    refine Sd (Q0 (AI rfl (BB hal (AY ?_))));refine Mw (RX (Pd (OM (AI rfl (Re (AY (CL (AY (CL (C8 (Co (by decide) (fun b τb hb sb eb=>?_))))))))))));have hin:([[115,101,116],[117,110,115,101,116]].any fun y:T=>y==As k)=GY k:=by cases k <;> rfl
    refine inQ_of (r:=GY k) (by rw[LE (xs:=[[115,101,116],[117,110,115,101,116]]) (Ac eb),hin]) (BA ?_);have hσb:=hτ.trans sb;have hab:=sb _ _ hal;refine AF (fun z=>?_) (fun z=>?_)
    ·refine ifQ_t ?_;refine key _ hσb hab (fun e=>by rw[z] at e;exact xTF e) _ _ (fun y τ'' q1 q2 q3 q4=>C8 (put y τ'' q1 q2 q3 q4))
    ·refine F7 (F9 (TK (AY (AI rfl (C8 (len_ref (Ac hab) hlim (Dn (cs_eq_int (BA ?_)))))))));rw[Ad,List.length_cons];refine Af (fun z2=>?_) (fun z2=>?_)
     ·have hi0:its=[]:=List.length_eq_zero_iff.mp (by exact lin 1 0 [.E (.o (.a Z0 (.c 1))) (.c 1)] (.e Z0 (.c 0)) [[],[1,0,1]] R0 _ z2);exact key _ hσb hab (fun _=>hi0) _ _ (fun y τ'' q1 q2 q3 q4=>C8 (put y τ'' q1 q2 q3 q4))
     ·exact text _ hσb hab _ _ (fun y τ'' q1 q2 q3 q4=>C8 (put y τ'' q1 q2 q3 q4))
   ·intro m τ z6_;refine Tg z6_ fun z z7_ hτ hal hz hap=>?_;clear z6_;subst z7_;walk_at"w";refine div_int (by decide) (by decide) ?_;walk_at"w";refine NG (its++[z]) _ _ rfl hτ hal (by simp;assumption) (fun y hy=>?_) (fun e y hy=>?_)
    ·simp at hy;rcases hy with hy | rfl
     ·exact hits y hy
     ·exact hz
    ·cases its with
     | nil=>cases hy
     | cons i0 its =>
      simp at hy;rcases hy with hy | rfl
      ·exact happ e y hy
      ·exact hap e (by simp)
  ·intro m τ z8_;refine Pk z8_ fun its r y z9_ hτ hal hil hits happ=>?_;clear z8_;subst z9_;exact hQ1 _ _ (NG its r y rfl hτ hal hil hits happ)
 intro m τ z10_;refine Pk z10_ fun its r y z11_ hτ hal hil hits happ=>?_;clear z10_;subst z11_;refine BN (fun m τ=>∃its:List T,m=[some (.ref s),some (.int p),some (.int num),some (.str (As k)),some (.int many),some (.int r),some (.ref a),y,none]/\SubS σ τ/\τ a=some (.lst (Ae (x::its)))/\its.length=4/\(∀y∈its,good y/\y.length<=8)/\(GY k=false->∀y∈its.tail,D5 y)) (fun Q' hQ1 hQ2=>?_) ?_
 ·have same:Q' .next [some (.ref s),some (.int p),some (.int num),some (.str (As k)),some (.int many),some (.int r),some (.ref a),y,none] τ:=hQ1 _ _ (Of its rfl hτ hal hil hits happ)
  walk_at"w";refine Af (fun z=>?_) (fun z=>?_)
  ·have hk:k=.set:=by cases k <;> first | rfl | (revert z;decide)
   walk_at"w";refine Af (fun z2=>?_) (fun z2=>?_)
   ·walk_at"w";refine ID (fun b hb=>?_);walk_at"w";refine mod_int (by decide) ?_;refine CN (L:=H9) (Ac (Aa _ _ _)) (by decide) (by omega) (by show _ < ((12:Nat):Int);omega) (fun z hz=>?_);walk_at"w";refine Li (j:=many - 1) (vs:=Ae (x::its)) (Ar hal hb) (by rw[Ad,LIM];simp;exact U39 _ hil) (by exact lin 1 0 [.T (.c 2) (.o Z0)] (.E (.s (.o Z0) (.c 1)) (.o (.s Z0 (.c 1)))) [[0,0,1],[0,0,1],[],[1,1,0]] R0 _ z2) (by rw[Ad];simp;exact lin 2 0 [.a (.L (.c 0) (.o Z0)) (.T (.o Z0) (.c 5)),.e Z1 (.c 4)] (.t (.s Z0 (.c 1)) (.a Z1 (.c 1))) [[0,1,0,1,0,1],[0,0,0,1,0,1]] R0 _ _ hmany hil) ?_;walk_at"w";refine hQ1 _ _ (Of (its.set (many - 2) z) rfl ((hτ.trans (SubS.new hb)).turn ha) ?_ (by simpa using hil) (fun y hy=>?_) (fun e=>?_))
    ·rw[Aa];unfold Ae;rw[show many - 1=(many - 2)+1 from by exact lin 1 0 [.T (.c 2) (.o Z0)] (.e (.s Z0 (.c 1)) (.a (.s Z0 (.c 2)) (.c 1))) [[0,0,0,1],[0,0,0,1],[],[1,0,1,0],[1,1,0,0]] R0 _ z2,← List.map_set,M5]
    ·rcases List.mem_or_eq_of_mem_set hy with hy | rfl
     ·exact hits y hy
     ·exact(Hh _ hz).1
    ·rw[hk] at e;exact xTF e
   ·walk_at"w";exact same
  ·walk_at"w";exact same
 intro m τ z12_;refine Sa z12_ fun its z13_ hτ hal hil hits happ=>?_;clear z12_;subst z13_;refine BN (fun m τ=>∃(its:List T) (z:Option V),m=[some (.ref s),some (.int p),some (.int num),some (.str (As k)),some (.int many),some (.int r),some (.ref a),y,z]/\SubS σ τ/\τ a=some (.lst (Ae (x::its)))/\its.length=4/\(∀y∈its,good y/\y.length<=30)/\(k≠.incr->∀y∈its,y.length<=8)/\(∀y,its.head?=some y->y.length<=8)/\(GY k=false->k≠.incr->∀y∈its.tail,D5 y)) (fun Q' hQ1 hQ2=>?_) ?_
 ·have hhead:∀y,its.head?=some y->y.length<=8:=fun y hy=>(hits y (List.mem_of_mem_head? hy)).2;have same:Q' .next [some (.ref s),some (.int p),some (.int num),some (.str (As k)),some (.int many),some (.int r),some (.ref a),y,none] τ:=
   hQ1 _ _ (Ru its none rfl hτ hal hil (fun y hy=>⟨(hits y hy).1,by have:=(hits y hy).2;exact Uq _ this⟩) (fun _ y hy=>(hits y hy).2) hhead (fun e _=>happ e))
  walk_at"w";refine Af (fun z=>?_) (fun z=>?_)
  ·have hk:k=.incr:=by cases k <;> first | rfl | (revert z;decide)
   walk_at"w";refine mod_int (by decide) ?_;walk_at"w";refine Af (fun z2=>?_) (fun z2=>?_)
   ·walk_at"w";refine div_int (by decide) (by decide) ?_;walk_at"w";refine Sr (by decide) (by decide) (by decide) ?_;refine Bx (.inl (by decide)) ?_;refine mod_int (by decide) ?_;walk_at"w";have hfar:0<=r / 2 % (2*10 ^ (21:Int).toNat)/\r / 2 % (2*10 ^ (21:Int).toNat) < 2*10 ^ (21:Int).toNat:=⟨Int.emod_nonneg _ (by decide),Int.emod_lt_of_pos _ (by decide)⟩;generalize r / 2 % (2*10 ^ (21:Int).toNat)=far at *;have hnum:(2*10 ^ (21:Int).toNat:Int)=2000000000000000000000:=by decide
    rw[hnum] at hfar;refine mod_int (by decide) ?_;walk_at"w";have fin:∀i:Int,i.natAbs < 10 ^ 22->Q' .next [some (.ref s),some (.int p),some (.int num),some (.str (As k)),some (.int many),some (.int r),some (.ref a),y,some (.int far)] (τ.set a (.lst ((Ae (x::its)).set 2 (.str (Cu i))))):=by
     intro i hi;have hl:=Ht (by decide) hi;refine hQ1 _ _ (Ru (its.set 1 (Cu i)) _ rfl (hτ.turn ha) ?_ (by simpa using hil) (fun y hy=>?_) (fun e=>absurd hk e) (fun y hy=>?_) (fun _ e=>absurd hk e))
     ·rw[Aa];unfold Ae;rw[show (2:Nat)=1+1 from rfl,← List.map_set,M5]
     ·rcases List.mem_or_eq_of_mem_set hy with hy | rfl
      ·exact⟨(hits y hy).1,by have:=(hits y hy).2;exact Uq _ this⟩
      ·exact⟨Eh i,by exact lin 1 0 [.l Z0 (.a (.c 22) (.c 1))] (.l Z0 (.c 30)) [] R0 _ hl⟩
     ·cases its with
      | nil=>exact xNS hy
      | cons i0 r=>exact hhead y hy
    have hset:∀v:V,(∀Q3:Store->Prop,Q3 (τ.set a (.lst ((Ae (x::its)).set 2 v)))->setISem (.ref a) (.int 2) v τ Q3):=fun v Q3 hq =>
     Li (j:=2) hal (by rw[Ad,LIM];simp;exact U39 _ hil) rfl (by rw[Ad];simp;exact lin 1 0 [.e Z0 (.c 4)] (.t (.c 2) (.a Z0 (.c 1))) [[0,1,1]] R0 _ hil) hq
    have hdig:∀i:Int,i.natAbs < 10 ^ 22->i.natAbs < DIG:=fun i hi=>Nat.lt_of_lt_of_le hi (by unfold DIG;exact Nat.pow_le_pow_right (by decide) (by decide));have h22:(10 ^ 22:Nat)=10000000000000000000000:=by decide
    refine Af (fun _=>?_) (fun _=>?_)
    ·walk_at"w";refine div_int (by decide) (by decide) ?_;have hb:(far / 2).natAbs < 10 ^ 22:=by rw[h22];omega
     walk_at"w";refine JI (hdig _ hb) ?_;walk_at"w";refine hset _ _ ?_;walk_at"w";exact fin _ hb
    ·walk_at"w";refine div_int (by decide) (by decide) ?_;have hb:(-1 - far / 2).natAbs < 10 ^ 22:=by rw[h22];omega
     walk_at"w";refine JI (hdig _ hb) ?_;walk_at"w";refine hset _ _ ?_;walk_at"w";exact fin _ hb
   ·walk_at"w";exact same
  ·walk_at"w";exact same
 intro m τ z14_;refine Ul z14_ fun its z z15_ hτ hal hil hits hsh hhd happ=>?_;clear z14_;subst z15_;walk_at"w";refine BJ (lo:=none) (hi:=some (many:Int)) rfl rfl (Ac hal) (by rw[Ad,LIM];simp;exact U39 _ hil) ?_;rw[Hn];refine Co (by rw[List.length_take,Ad,LIM];simp;exact lin 2 0 [.e Z0 (.c 4)] (.l (.n Z1 (.a Z0 (.c 1))) (.c 8000000)) [[1,0,1,1],[1,0,0,1]] R0 _ _ hil) (fun b τb hb sb eb=>?_);walk_at"w";have htk:(Ae (x::its)).take many=Ae ((x::its).take many):=by unfold Ae;rw[List.map_take]
 rw[htk] at eb;refine AB (SubS.put (hτ.trans sb) eb) (h k _ ?_ b (hτ.none hb));intro x' its' e;cases many with
 | zero=>exact xNC e
 | succ mm =>
  rw[List.take_succ_cons] at e;refine xCC e fun z16_ z17_=>?_;subst z16_;subst z17_;refine⟨hx,⟨by rw[List.length_take];exact lin 2 0 [.a (.L (.c 0) (.o (.a Z0 (.c 1)))) (.T (.o (.a Z0 (.c 1))) (.c 5))] (.l (.n Z0 Z1) (.c 4)) [[0,1,0,1],[0,1,1,1]] R0 _ _ hmany,fun y hy=>hits y (List.mem_of_mem_take hy),fun hk y hy=>hsh hk y (List.mem_of_mem_take hy),fun y hy=>?_,fun hk y hy=>?_⟩⟩
  ·cases mm with
   | zero=>exact xNS hy
   | succ mm =>
    cases its with
    | nil=>exact xNS hy
    | cons i0 r=>rw[List.take_succ_cons] at hy;exact hhd y hy
  ·refine happ (by rw[hk];rfl) (by rw[hk];decide) y ?_;cases mm with
   | zero=>cases hy
   | succ mm =>
    cases its with
    | nil=>cases hy
    | cons i0 r=>rw[List.take_succ_cons] at hy;exact List.mem_of_mem_take hy
theorem OP {s:Nat} {ns:List Int} {p:Nat} (hs:Ag σ (.ref s)=some (ns.map .int)) (hn:ns.length<=100) (hp:p < 8)
  (h:∀k items,E8 k items->∀a,σ a=none->Q (.tup [.str (As k),.ref a]) (σ.set a (.lst (Ae items)))):lev (n+5) false .l_deed [.ref s,.int p] σ Q E:=by
 by_cases hlt:p+2 < ns.length
 ·exact LD hs hn hp hlt h
 ·exact Mi hs hn hp (by exact lin 2 0 [.n (.t (.a Z0 (.c 2)) Z1)] (.l Z1 (.a Z0 (.c 2))) [] R0 _ _ hlt) h
end
section
noncomputable def sgn (t:T):Prop:=∀c∈t,c < 1114112
theorem B1 {a b:T} (ha:sgn a) (hb:sgn b):sgn (a++b):=fun c hc=>(List.mem_append.mp hc).elim (ha c) (hb c)
theorem J6 (h:okt t):sgn t:=fun c hc=>Ib (h c hc)
structure FOk (f:AG):Prop where
 msg:sgn f.1
 codes:∀y∈f.2,sgn y
theorem Qn {x:T} (h:A0 t=.error (.junk x)):∀c∈x,c∈t:=by
 have aux:∀(N:Nat) (t:T),t.length<=N->A0 t=.error (.junk x)->∀c∈x,c∈t:=by
  intro N;induction N with
  | zero =>
   intro t hl h;have:t=[]:=List.length_eq_zero_iff.mp (by exact U9 _ hl);subst this;rw[Av rfl] at h;exact xOE h
  | succ N ih =>
   intro t hl h;cases he:Bu t with
   | none=>rw[Av he] at h;exact xOE h
   | some r =>
    cases r with
    | error e =>
     rw[AT he] at h;obtain rfl:=xEE h;unfold Bu at he;split at he
     ·exact xNS he
     ·rename_i c r hsk;split at he
      ·split at he
       ·cases he
       ·rename_i i q hcl;split at he
        ·exact xOE (xSS he)
        ·cases he
         intro d hd;have h1:=List.mem_of_mem_take hd;have h2:d∈q:=by rw[← CB q];exact List.mem_append_left _ h1
         have h3:d∈skip t:=by rw[hsk,HY _ _ _ _ hcl];simp[h2]
         exact(List.dropWhile_sublist _).subset h3
      ·exact xOE (xSS he)
    | ok p =>
     obtain⟨y,q⟩:=p;have hlt:=Cv he;refine Aq (Ex he) fun pre hpre=>?_;rw[B4 he] at h;cases hq:A0 q with
     | error e =>
      rw[hq] at h;obtain rfl:=xEE h;intro c hc;rw[hpre];exact List.mem_append_right _ (ih q (by exact U17 _ _ _ hl hlt) hq c hc)
     | ok ys=>rw[hq] at h;exact xOE h
 exact aux _ t (Nat.le_refl _) h
theorem OX {e:Bad} (ht:okt t) (h:A0 t=.error e):sgn e.pre/\sgn e.suf/\sgn e.kind:=by
 cases e with
 | brace=>exact Bk (by unfold sgn;decide) (by unfold sgn;decide) (by unfold sgn;decide)
 | junk x =>
  have hx:sgn x:=fun c hc=>Ib (ht c (Qn h c hc));refine Bk (fun c hc=>(by cases hc)) (B1 (B1 (by unfold sgn;decide) hx) (by unfold sgn;decide)) (show sgn (tx "JUNK") by unfold sgn;decide)
theorem Jm {e:Bad} (ht:okt t) (h:A0 t=.error e):FOk (AH e):=by
 have z0_:=OX ht h;have h1:=z0_.1;have h2:=z0_.2.1;have h3:=z0_.2.2;clear z0_;refine⟨B1 (B1 h1 (by unfold sgn;decide)) h2,fun y hy=>?_⟩;unfold AH at hy;simp only[List.mem_cons,List.not_mem_nil,or_false] at hy;rcases hy with rfl | rfl | rfl | rfl
 ·unfold sgn;decide
 ·unfold sgn;decide
 ·unfold sgn;decide
 ·exact h3
theorem JS {e:Bad} (ht:okt t) (h:A0 t=.error e):FOk (Cb e):=by
 have z0_:=OX ht h;have h1:=z0_.1;have h2:=z0_.2.1;have h3:=z0_.2.2;clear z0_;refine⟨B1 (B1 h1 (by unfold sgn;decide)) h2,fun y hy=>?_⟩;unfold Cb at hy;simp only[List.mem_cons,List.not_mem_nil,or_false] at hy;rcases hy with rfl | rfl | rfl | rfl
 ·unfold sgn;decide
 ·unfold sgn;decide
 ·unfold sgn;decide
 ·exact h3
theorem LN:FOk missing:=by
 refine⟨by unfold sgn missing;decide,fun y hy=>?_⟩;unfold missing at hy;simp only[List.mem_cons,List.not_mem_nil,or_false] at hy;rcases hy with rfl | rfl | rfl <;> (unfold sgn;decide)
theorem Ew (ht:okt t):FOk (BI t):=by
 refine⟨B1 (B1 (by unfold sgn;decide) (J6 ht)) (by unfold sgn;decide),fun y hy=>?_⟩;unfold BI at hy;simp only[List.mem_cons,List.not_mem_nil,or_false] at hy;rcases hy with rfl | rfl | rfl <;> (unfold sgn;decide)
theorem ON (ht:okt t):FOk (Fh t):=by
 refine⟨B1 (B1 (by unfold sgn;decide) (J6 ht)) (by unfold sgn;decide),fun y hy=>?_⟩;unfold Fh at hy;simp only[List.mem_cons,List.not_mem_nil,or_false] at hy;rcases hy with rfl | rfl | rfl | rfl
 ·unfold sgn;decide
 ·unfold sgn;decide
 ·unfold sgn;decide
 ·exact J6 ht
theorem MB (k:Kd) (n:Nat):FOk (Ej k n):=by
 have hu:sgn (Ax k n):=by
  unfold Ax;cases k <;> dsimp only <;> split <;> (unfold sgn;decide)
 have hk:sgn (As k):=by cases k <;> (unfold sgn;decide)
 refine⟨B1 (B1 (by unfold sgn;decide) (B1 (B1 (B1 (by unfold sgn;decide) hk) (by unfold sgn;decide)) hu)) (by unfold sgn;decide),fun y hy=>?_⟩;unfold Ej FD at hy;simp only[List.mem_cons,List.not_mem_nil,or_false] at hy;rcases hy with rfl | rfl <;> (unfold sgn;decide)
theorem Bw {f:AG} (ht:okt t) (h:Ap t=.error f):FOk f:=by
 unfold Ap at h;split at h
 ·rename_i e he;obtain rfl:=xEE h;exact JS ht he
 ·split at h
  ·obtain rfl:=xEE h;exact LN
  ·exact xOE h
theorem LX {v:T}:∀(ks:List T) (ps:List (T × T)) (f:AG),DOk 3401 ps->Cq ps ks v=.error f->FOk f:=by
 intro ks;induction ks with
 | nil=>intro ps f _ e;rw[Cq] at e;exact xOE e
 | cons k ks ih =>
  intro ps f h e;cases ks with
  | nil=>rw[Cq] at e;exact xOE e
  | cons k2 ks =>
   rw[Cq] at e;split at e
   ·rename_i f' hf;obtain rfl:=xEE e;exact Bw (h.old k).ok hf
   ·rename_i q hq;cases hs:Cq q (k2::ks) v with
    | error f'=>rw[hs] at e;obtain rfl:=xEE e;exact ih q _ ((h.old k).pairs hq) hs
    | ok q'=>rw[hs] at e;exact xOE e
theorem JO:∀(ks:List T) (ps:List (T × T)) (f:AG),(∀k∈ks,good k)->DOk 3401 ps->AP ps ks=.error f->FOk f:=by
 intro ks;induction ks with
 | nil=>intro ps f _ _ e;rw[AP] at e;exact xOE e
 | cons k ks ih =>
  intro ps f hk h e;cases ks with
  | nil=>rw[AP] at e;exact xOE e
  | cons k2 ks =>
   rw[AP] at e;split at e
   ·obtain rfl:=xEE e;exact ON (hk k (.head _)).ok
   ·rename_i old hl;split at e
    ·rename_i f' hf;obtain rfl:=xEE e;exact Bw (h.val hl).ok hf
    ·rename_i q hq;cases hs:AP q (k2::ks) with
     | error f'=>rw[hs] at e;obtain rfl:=xEE e;exact ih q _ (fun x hx=>hk x (.tail _ hx)) ((h.val hl).pairs hq) hs
     | ok q'=>rw[hs] at e;exact xOE e
theorem NC {k:Kd} {its:List T} {f:AG} (ht:TOk t) (hi:DeedOk k its) (h:LH k t its=.error f):FOk f:=by
 have hby:∀more:List T,(∀y∈more,y∈its)->okt (more.headD [49]):=by
  intro more hm;cases more with
  | nil=>unfold okt;decide
  | cons y r=>exact(hi.all y (hm y (.head _))).1.ok
 cases k with
 | append =>
  cases its with
  | nil=>exact xOE h
  | cons key more =>
   have h:BK t key more=.error f:=h;unfold BK at h;split at h
   ·rename_i f' hf;obtain rfl:=xEE h;exact Bw ht.ok hf
   ·split at h <;> exact xOE h
 | lappend =>
  cases its with
  | nil=>exact xOE h
  | cons key more =>
   have h:Bq t key more=.error f:=h;unfold Bq at h;split at h
   ·rename_i f' hf;obtain rfl:=xEE h;exact Bw ht.ok hf
   ·rename_i ps hp;split at h
    ·exact xOE h
    ·rename_i old hl;split at h
     ·exact xOE h
     ·split at h
      ·rename_i e he;obtain rfl:=xEE h;exact Jm ((ht.pairs hp).val hl).ok he
      ·exact xOE h
 | incr =>
  cases its with
  | nil=>exact xOE h
  | cons key more =>
   have h:D4 t key (more.headD [49])=.error f:=h;have hb:=hby more fun y hy=>.tail _ hy;unfold D4 at h;split at h
   ·rename_i f' hf;obtain rfl:=xEE h;exact Bw ht.ok hf
   ·rename_i ps hp;split at h
    ·split at h
     ·obtain rfl:=xEE h;exact Ew hb
     ·exact xOE h
    ·rename_i old hl;split at h
     ·obtain rfl:=xEE h;exact Ew ((ht.pairs hp).val hl).ok
     ·split at h
      ·obtain rfl:=xEE h;exact Ew hb
      ·exact xOE h
 | set =>
  have h:C2 t its.dropLast (its.getLastD [])=.error f:=h;unfold C2 at h;split at h
  ·rename_i f' hf;obtain rfl:=xEE h;exact Bw ht.ok hf
  ·rename_i ps hp;cases hd:Cq ps its.dropLast (its.getLastD []) with
   | error f'=>rw[hd] at h;obtain rfl:=xEE h;exact LX _ ps _ (ht.pairs hp) hd
   | ok d=>rw[hd] at h;exact xOE h
 | unset =>
  have h:Bh t its=.error f:=h;unfold Bh at h;split at h
  ·rename_i f' hf;obtain rfl:=xEE h;exact Bw ht.ok hf
  ·rename_i ps hp;cases hd:AP ps its with
   | error f'=>rw[hd] at h;obtain rfl:=xEE h;exact JO _ ps _ (fun y hy=>(hi.all y hy).1) (ht.pairs hp) hd
   | ok d=>rw[hd] at h;exact xOE h
theorem O1 (h:sgn t) (n:Nat):V.ok n (.str t)=true:=by
 unfold V.ok;rw[List.all_eq_true];intro c hc;exact decide_eq_true (h c hc)
noncomputable def rl:Except AG T->List V
 | .ok t=>[.int 0,.str t]
 | .error f=>[.int 1,.str f.1,.tup (Ae f.2)]
theorem Tz (r:Except AG T):rv r=.tup (rl r):=by cases r <;> rfl
theorem SF {r:Except AG T} (h1:∀t,r=.ok t->okt t) (h2:∀f,r=.error f->FOk f):B6 8 (rl r)=true:=by
 cases r with
 | ok t =>
  show (V.ok 8 (.int 0)&&(V.ok 8 (.str t)&&true))=true;rw[O1 (J6 (h1 t rfl))];rfl
 | error f =>
  have hf:=h2 f rfl;have hc:B6 7 (Ae f.2)=true:=by
   have:=hf.codes;unfold Ae;generalize f.2=l at this;induction l with
   | nil=>rfl
   | cons x r ih =>
    rw[List.map_cons,B6,O1 (this x (.head _)),ih fun y hy=>this y (.tail _ hy)];rfl
  show (V.ok 8 (.int 1)&&(V.ok 8 (.str f.1)&&(V.ok 8 (.tup (Ae f.2))&&true)))=true;rw[O1 hf.msg];have:V.ok 8 (.tup (Ae f.2))=true:=by
   rw[V.ok];show (decide ((8:Nat)≠0)&&B6 7 (Ae f.2))=true;rw[hc];rfl
  rw[this];rfl
theorem Jw {k:Kd} {st:T->Option T} {items:List T} {f:AG} (hd:E8 k items) (ht:∀x,Ay x->TOk ((st x).getD [])) (h:BO k st items=.error f):FOk f:=by
 unfold BO at h;split at h
 ·obtain rfl:=xEE h;exact MB k 0
 ·rename_i x its;have z0_:=hd x its rfl;have hx:=z0_.1;have hi:=z0_.2;clear z0_;split at h
  ·exact NC (ht x hx) hi h
  ·obtain rfl:=xEE h;exact MB k _
end
section
noncomputable def F8 (cn:T->Nat):List (T × V):=[([100],.int (cn [100])),([101],.int (cn [101]))]
theorem Rt {op:Cop} {v w w':V} (e:w=w') (h:cmpSem op v w' σ Q):cmpSem op v w σ Q:=e▸h
theorem Hq {cn:T->Nat} {x:T} (hx:Ay x):Da (F8 cn) x=some (.int (cn x)):=by
 rcases hx with rfl | rfl <;> rfl
structure LawB (σ τ:Store) (tx ct:Nat) (H:HS) (st:T->Option T) (cn:T->Nat):Prop where
 sub:SubS σ τ
 host:HostAt τ H
 off:∀a,H.foot a->σ a=none
 txs:∃ep,τ tx=some (.dct ep (E5 st))
 cts:∃ep,τ ct=some (.dct ep (F8 cn))
 ne:tx≠ct
 newT:σ tx=none
 newC:σ ct=none
 offT:¬H.foot tx
 offC:¬H.foot ct
structure LawI (σ τ:Store) (tx ct:Nat) (H:HS) (st:T->Option T) (cn:T->Nat) (L:Nat):Prop extends LawB σ τ tx ct H st cn where
 agree:∀x,Ay x->H.st x=(st x,cn x)
 ok:∀x,Ay x->∀t,st x=some t->TOk t/\t.length<=L
theorem LawB.more {σ τ τ':Store} {tx ct:Nat} {H:HS} {st:T->Option T} {cn:T->Nat} (x:LawB σ τ tx ct H st cn) (k:SubS τ τ'):LawB σ τ' tx ct H st cn:=
 ⟨x.sub.trans k,(HStep.sub x.host k).at_,x.off,let ⟨ep,e⟩:=x.txs;⟨ep,k _ _ e⟩,let ⟨ep,e⟩:=x.cts;⟨ep,k _ _ e⟩,x.ne,x.newT,x.newC,x.offT,x.offC⟩
theorem LawB.step {σ τ τ':Store} {tx ct:Nat} {H H':HS} {st:T->Option T} {cn:T->Nat} (x:LawB σ τ tx ct H st cn) (k:HStep τ τ' H H'):LawB σ τ' tx ct H' st cn:=by
 have key:∀a c,σ a=some c->τ' a=some c/\¬H'.foot a:=fun a c e=>k.kept a c (fun f=>by rw[x.off a f] at e;exact xNS e) (x.sub a c e);refine Aq x.txs fun ep e1=>?_;refine Aq x.cts fun ep2 e2=>?_;have z0_:=k.kept tx _ x.offT e1;have t1:=z0_.1;have t2:=z0_.2;clear z0_;have z0_:=k.kept ct _ x.offC e2;have c1:=z0_.1;have c2:=z0_.2;clear z0_;refine⟨fun a c e=>(key a c e).1,k.at_,fun a f=>?_,⟨ep,t1⟩,⟨ep2,c1⟩,x.ne,x.newT,x.newC,t2,c2⟩;cases q:σ a with
 | none=>rfl
 | some c=>exact absurd f (key a c q).2
theorem LawB.setC {σ τ:Store} {tx ct ep:Nat} {H:HS} {st:T->Option T} {cn cn':T->Nat} (x:LawB σ τ tx ct H st cn):LawB σ (τ.set ct (.dct ep (F8 cn'))) tx ct H st cn':=
 ⟨x.sub.turn x.newC,x.host.turn x.offC _,x.off,let ⟨ep,e⟩:=x.txs;⟨ep,by rw[Ab _ _ x.ne];exact e⟩,⟨ep,Aa _ _ _⟩,x.ne,x.newT,x.newC,x.offT,x.offC⟩
theorem LawB.setT {σ τ:Store} {tx ct ep:Nat} {H:HS} {st st':T->Option T} {cn:T->Nat} (x:LawB σ τ tx ct H st cn):LawB σ (τ.set tx (.dct ep (E5 st'))) tx ct H st' cn:=
 ⟨x.sub.turn x.newT,x.host.turn x.offT _,x.off,⟨ep,Aa _ _ _⟩,let ⟨ep,e⟩:=x.cts;⟨ep,by rw[Ab _ _ (Ne.symm x.ne)];exact e⟩,x.ne,x.newT,x.newC,x.offT,x.offC⟩
theorem LawI.more {σ τ τ':Store} {tx ct L:Nat} {H:HS} {st:T->Option T} {cn:T->Nat} (x:LawI σ τ tx ct H st cn L) (k:SubS τ τ'):LawI σ τ' tx ct H st cn L:=⟨x.toLawB.more k,x.agree,x.ok⟩
theorem LawI.same {σ τ τ':Store} {tx ct L:Nat} {H H':HS} {st:T->Option T} {cn:T->Nat} (x:LawI σ τ tx ct H st cn L) (k:HStep τ τ' H H') (e:H'.st=H.st):LawI σ τ' tx ct H' st cn L:=
 ⟨x.toLawB.step k,fun y hy=>by rw[e];exact x.agree y hy,x.ok⟩
noncomputable def LL (st:T->Option T) (x t:T):T->Option T:=fun y=>if y=x then some t else st y
noncomputable def Kj (cn:T->Nat) (x:T):T->Nat:=fun y=>if y=x then cn x+1 else cn y
theorem Nl {st:T->Option T} {x t:T} (hx:Ay x):Cf (E5 st) x (.str t)=E5 (LL st x t):=by
 rcases hx with rfl | rfl <;> rfl
theorem GE {cn:T->Nat} {x:T} {i:Int} (hx:Ay x) (hi:i=(cn x:Int)+1):Cf (F8 cn) x (.int i)=F8 (Kj cn x):=by
 subst hi;rcases hx with rfl | rfl <;> rfl
theorem IV {h h' n:Nat} (e:h'=h) {f:F} {r:List V} {σ:Store} {Q:QV} {E:QE} (k:lev n false f (.ref h'::r) σ Q E):lev n false f (.ref h::r) σ Q E:=e▸k
theorem MP {H:HS} {h:Nat} {q:Prop} (e:H.h=h) (hH:HostAt σ H) (k:q):(∃a n at_,V.ref h=.ref a/\σ a=some (.obj .host n at_))/\q:=by
 subst e;exact CF hH k
theorem L5 {n tx ct L:Nat} {H:HS} {st:T->Option T} {cn:T->Nat} {σ τ:Store} (hI:LawI σ τ tx ct H st cn L) (h:∀τ' H',LawI σ τ' tx ct H' st cn L->H'.h=H.h->HStep τ τ' H H'->Q (.bool true) τ') :
  lev (n+7) false .l_stands [.ref H.h,.ref tx,.ref ct] τ Q E:=by
 refine AD (m:=[some (.ref H.h),some (.ref tx),some (.ref ct),none]) rfl rfl rfl ?_;dsimp only[Gl];walk_at"w";refine Co (by decide) (fun a τa ha sa ea=>?_);have hstep0:=HStep.sub hI.host sa;have hoffa:¬H.foot a:=hI.host.new_off ha;let J1:List V->Loc->Store->Prop:=fun ys m τ'=>∃(post:List T) (H':HS) (y:Option V),ys=Ae post/\(∀x∈post,Ay x)/\m=[some (.ref H.h),some (.ref tx),some (.ref ct),y]/\HStep τ τ' H H'/\H'.st=H.st/\τ' a=some (.lst [.str [100],.str [101]])/\¬H'.foot a
 refine GA J1
  (Ac ea) (by decide) (N4 [[100],[101]] H none rfl (by intro x hx;simp at hx;exact hx) rfl hstep0 rfl ea hoffa) ?_ ?_
 ·intro y ys m τ' z1_;refine R6 z1_ fun post H' y0 hy hnm z2_ hs he ha' hfa=>?_;clear z1_;subst z2_;cases post with
  | nil=>exact xCN hy
  | cons x post =>
   unfold Ae at hy;rw[List.map_cons] at hy;refine xCC hy fun z3_ z4_=>?_;subst z3_;subst z4_;have hx:=hnm x (.head _);have hag:=hI.agree x hx;have hI':=hI.same hs he;refine⟨Ac ha',?_⟩;refine Aq hI'.txs fun ep ht=>?_;walk_at"w";refine MP hs.h hI'.host ?_;walk_at"w";refine IV hs.h (SY hI'.host ?_);walk_at"w";refine By (Az ht) (CA hx) ?_;rw[he,hag];have h1:(!(DE (Ds (st x))))=(st x).isSome:=by cases st x <;> rfl
   refine Rt (congrArg V.bool h1) ?_;refine cs_ne_bool ?_;refine(?_:ifQ _ _ _);refine Af (fun z=>absurd rfl z) (fun _=>?_);refine F7 (F9 (OK (AI rfl ?_)));refine MP hs.h hI'.host (AY (AI rfl (C8 ?_)));refine IV hs.h (Qa hI'.host hx (fun τ2 H2 hs2 he2=>?_));have hI2:=hI'.same hs2 he2;refine Aq hI2.cts fun ep2 hc2=>?_;refine Aq hI2.txs fun ep3 ht2=>?_;have z0_:=hs2.kept a _ hfa ha';have ha2:=z0_.1;have hfa2:=z0_.2;clear z0_;refine IG (AI rfl (AI rfl ?_));refine By (Az hc2) (Hq hx) ?_;rw[he,hag];refine cs_ne_int (BA (Af (fun z=>absurd rfl z) (fun _=>?_)));have hh2:H2.h=H.h:=hs2.h.trans hs.h;have fin:∀τ3 H3,HStep τ2 τ3 H2 H3->H3.st=H2.st->∃(post':List T) (H':HS) (y:Option V),Ae post=Ae post'/\(∀x∈post',Ay x)/\[some (V.ref H.h),some (V.ref tx),some (V.ref ct),some (V.str x)]=[some (.ref H.h),some (.ref tx),some (.ref ct),y]/\HStep τ τ3 H H'/\H'.st=H.st/\τ3 a=some (.lst [.str [100],.str [101]])/\¬H'.foot a:=by
    intro τ3 H3 hs3 he3;have z0_:=hs3.kept a _ hfa2 ha2;have ha3:=z0_.1;have hfa3:=z0_.2;clear z0_;exact N4 post H3 _ rfl (fun z hz=>hnm z (.tail _ hz)) rfl ((hs.trans hs2).trans hs3) (by rw[he3,he2,he]) ha3 hfa3
   walk_at"w";refine By (Az ht2) (CA hx) ?_;cases hst:st x with
   | none =>
    walk_at"w";exact fin τ2 H2 (.refl hI2.host) rfl
   | some t =>
    walk_at"w";refine MP hh2 hI2.host ?_;walk_at"w";refine IV hh2 (Po hI2.host hx (fun τ3 H3 hs3 he3=>?_));rw[he2,he,hag,hst];dsimp only;have hI3:=hI2.same hs3 he3;refine Aq hI3.txs fun ep4 ht4=>?_;walk_at"w";refine By (Az ht4) (CA hx) ?_;rw[hst];walk_at"w";refine cs_ne_str (b:=t) (Af (fun z=>absurd rfl z) (fun _=>?_));walk_at"w";exact fin τ3 H3 hs3 he3
 ·intro m τ' z5_;refine R6 z5_ fun post H' y0 hy hnm z6_ hs he ha' hfa=>?_;clear z5_;subst z6_;refine⟨Ac ha',?_⟩;walk_at"w";exact Ah (h τ' H' (hI.same hs he) hs.h hs)
end
section
noncomputable def B:Nat->Nat
 | 0=>100
 | i+1=>(5*B i+300) / 4+1
theorem Te (h:i<=8):100<=B i/\B i<=3400:=by
 have:∀i,i<=8->100<=B i/\B i<=3400:=by decide
 exact this i h
theorem NQ {r:Except AG T} (h1:∀t,r=.ok t->okt t) (h2:∀f,r=.error f->FOk f) (h:Q (.bool false) σ):cmpSem .ne (rv r) (rv r) σ Q:=by
 rw[Tz];exact .ne_tup (SF h1 h2) h
theorem J9 {k:Kd} {st st':T->Option T} {items:List T} (hd:E8 k items) (h:∀x,Ay x->st x=st' x):BO k st items=BO k st' items:=by
 unfold BO;split
 ·rfl
 ·rename_i x its;rw[h x (hd x its rfl).1]
theorem TI {n s:Nat} {ns:List Int} (hs:Ag σ (.ref s)=some (ns.map .int)) (hn:ns.length<=100) (h:Q (.bool true) σ):lev (n+25) false .law [.ref s] σ Q E:=by
 refine AD (m:=[some (.ref s),none,none,none,none,none,none,none,none,none]) rfl rfl rfl ?_;dsimp only[OI];have hnl:(ns.map V.int).length<=LIM:=by rw[List.length_map,LIM];omega
 refine BN (fun m τ=>τ=σ/\∃own:Int,m=[some (.ref s),some (.int own),none,none,none,none,none,none,none,none]) (fun Q' hQ1 hQ2=>?_) ?_
 ·walk_at"w";refine Bx ?_ ?_
  ·exact .inl (by decide)
  walk_at"w";refine Bx ?_ ?_
  ·exact .inl (by decide)
  walk_at"w";refine Bx ?_ ?_
  ·exact .inl (by decide)
  walk_at"w";refine Bx ?_ ?_
  ·exact .inl (by decide)
  walk_at"w";refine Bx ?_ ?_
  ·exact .inl (by decide)
  walk_at"w";exact hQ1 _ _ ⟨rfl,_,rfl⟩
 intro m τ z1_;have hτσ:=z1_.1;have z2_:=z1_.2;clear z1_;refine Aq z2_ fun own z3_=>?_;clear z2_;subst z3_;rw[hτσ];clear hτσ;have num:∀(j:Int) (jj:Nat) (d:X) (dv:Int) (m:Loc) (τ:Store) (Q':QV) (E':QE),j=(jj:Int)->m[0]?=some (some (.ref s))->SubS σ τ->(∀Q2:QV,Q2 (.int dv) τ->(wp (lev (n+24) false) d).x m τ Q2 E')->(∀i,Q' (.int i) τ) ->
   (wp (lev (n+24) false) (.ite (.cmp .gt (.bf .len (.cons (.var 0) .nil)) (.cInt j)) (.idx (.var 0) (.cInt j)) d)).x m τ Q' E':=by
  intro j jj d dv m τ Q' E' hj hm hτ hd hq;have hs':=Al hs hτ;refine Mw (F7 (F9 (TK (AY (AI hm (C8 (len_ref hs' hnl (Dn (cs_gt_int (BA ?_))))))))));rw[List.length_map];refine Af (fun z=>?_) (fun z=>?_)
  ·obtain⟨i,hi⟩ : ∃i,ns[jj]?=some i:=⟨_,List.getElem?_eq_getElem (by omega)⟩;exact IG (AI hm (Dn (Ak (j:=jj) (x:=.int i) hs' hnl hj (by rw[List.getElem?_map,hi];rfl) (hq i))))
  ·exact hd _ (hq dv)
 refine AO (DC (Oc ?_ (FT (AY ?_))))
 ·decide
 refine num 0 0 (.var 1) own _ _ _ _ rfl rfl (SubS.refl _) (fun Q2 hq=>?_) (fun i1=>?_)
 ·exact AI rfl hq
 refine C8 ?_;refine Je (n:=n+19) (fun o1 ho1=>?_);refine FT (AY ?_);refine num 1 1 (.cInt 0) 0 _ _ _ _ rfl rfl (SubS.refl _) (fun Q2 hq=>?_) (fun i2=>?_)
 ·exact Dn hq
 refine C8 ?_;refine Je (n:=n+19) (fun o2 ho2=>?_);intro tx ept htx;refine AU (AO (DC (Oc (by decide) (Dn (Dn ?_)))));intro ct epc hct;have hne:tx≠ct:=Bg (Aa _ _ _) hct;have hct0:σ ct=none:=(SubS.new htx).none hct;refine AU (AO (DC (T4 (C8 ⟨by decide,fun hh hhn=>?_⟩))));have hht:tx≠hh:=Bg (by rw[Ab _ _ hne];exact Aa _ _ _) hhn;have hhc:ct≠hh:=Bg (Aa _ _ _) hhn;refine Nc (n:=n+22) (Aa _ _ _) (fun τ vd hH hk=>⟨rfl,?_⟩);let st:T->Option T:=fun x=>if x=[100] then o1 else if x=[101] then o2 else none
 have hst:∀x,Ay x->∀t,st x=some t->TOk t/\t.length<=100:=by
  intro x hx t e;rcases hx with rfl | rfl
  ·exact ho1 t e
  ·exact ho2 t e
 have hkeep:∀b c,b≠hh->((σ.set tx (.dct ept [([100],Ds o1),([101],Ds o2)])).set ct (.dct epc [([100],.int 0),([101],.int 0)])) b=some c->τ b=some c/\b≠vd:=fun b c hb e=>hk b c hb (by rw[Ab _ _ hb];exact e);have hsub0:∀b c,σ b=some c->τ b=some c/\b≠vd/\b≠hh:=by
  intro b c e;have e2:=Ar (d:=.dct epc [([100],V.int 0),([101],V.int 0)]) (Ar (d:=.dct ept [([100],Ds o1),([101],Ds o2)]) e htx) hct;have hb:b≠hh:=Bg e2 hhn;exact Bk ((hkeep b c hb e2).1) ((hkeep b c hb e2).2) hb
 have hB:LawB σ τ tx ct (Ig hh vd) st (fun _=>0):=by
  have ht:=hkeep tx _ hht (by rw[Ab _ _ hne];exact Aa _ _ _);have hc:=hkeep ct _ hhc (Aa _ _ _);refine⟨fun b c e=>(hsub0 b c e).1,hH,?_,⟨ept,ht.1⟩,⟨epc,hc.1⟩,hne,htx,hct0,?_,?_⟩
  ·rintro a (e | e | ⟨y,hy⟩)
   ·cases q:σ a with
    | none=>rfl
    | some c=>exact absurd e (hsub0 _ _ q).2.2
   ·cases q:σ a with
    | none=>rfl
    | some c=>exact absurd e (hsub0 _ _ q).2.1
   ·exact xNS hy
  ·rintro(e | e | ⟨y,hy⟩)
   ·exact hht e
   ·exact ht.2 e
   ·exact xNS hy
  ·rintro(e | e | ⟨y,hy⟩)
   ·exact hhc e
   ·exact hc.2 e
   ·exact xNS hy
 refine AU (BN (fun m τ=>∃(H:HS) (cn:T->Nat) (y:Option V),m=[some (.ref s),some (.int own),some (.ref tx),some (.ref ct),some (.ref H.h),y,none,none,none,none]/\LawI σ τ tx ct H st cn (B 0)) (fun Q' hQ1 hQ2=>?_) ?_)
 ·walk_at"w";refine Co (by decide) (fun a τa ha sa ea=>?_);have hB1:=hB.more sa;let J1:List V->Loc->Store->Prop:=fun ys m τ'=>∃(pre post:List T) (H:HS) (cn:T->Nat) (y:Option V),[[100],[101]]=pre++post/\ys=Ae post/\m=[some (.ref s),some (.int own),some (.ref tx),some (.ref ct),some (.ref hh),y,none,none,none,none]/\H.h=hh/\LawB σ τ' tx ct H st cn /\
    τ' a=some (.lst [.str [100],.str [101]])/\¬H.foot a/\a≠ct/\(∀x∈pre,H.st x=(st x,cn x))/\(∀x∈post,H.st x=(none,0)/\cn x=0)
  refine GA J1
   (Ac ea) (by decide) (Os [] [[100],[101]] (Ig hh vd) (fun _=>0) none rfl rfl rfl rfl hB1 ea (hB.host.new_off ha) ?_ (fun x hx=>(by cases hx)) (fun x hx=>⟨rfl,rfl⟩)) ?_ ?_
  ·intro e;refine Aq hB.cts fun ep hc=>?_;rw[← e,ha] at hc;exact xNS hc
  ·intro y ys m τ' z4_;refine QC z4_ fun pre post H cn y0 hpp hy z5_ hHh hBB hla hfa hac hpre hpost=>?_;clear z4_;subst z5_;cases post with
   | nil=>exact xCN hy
   | cons x post =>
    unfold Ae at hy;rw[List.map_cons] at hy;refine xCC hy fun z6_ z7_=>?_;subst z6_;subst z7_;have hmem:x∈([[100],[101]]:List T):=by rw[hpp];simp
    have hx:Ay x:=by simp at hmem;exact hmem
    have hnd:x∉pre/\x∉post:=by
     have:([[100],[101]]:List T).Nodup:=by decide
     rw[hpp,List.nodup_append] at this;exact⟨fun hm=>this.2.2 x hm x (by simp) rfl,(List.nodup_cons.mp this.2.1).1⟩
    have z0_:=hpost x (.head _);have hst0:=z0_.1;have hcn0:=z0_.2;clear z0_;refine Aq hBB.txs fun ep ht=>?_;refine⟨Ac hla,?_⟩;walk_at"w";refine By (Az ht) (CA hx) ?_;cases hsx:st x with
    | none =>
     walk_at"w";refine Os (pre++[x]) post H cn _ (by rw[hpp];simp) rfl rfl hHh hBB hla hfa hac (fun z hz=>?_) (fun z hz=>hpost z (.tail _ hz));simp at hz;rcases hz with hz | rfl
     ·exact hpre z hz
     ·rw[hst0,hsx,hcn0]
    | some t =>
     walk_at"w";refine MP hHh hBB.host ?_;walk_at"w";refine By (Az ht) (CA hx) ?_;rw[hsx];walk_at"w";refine IV hHh (Fp (n:=n+19) hBB.host hx (fun τ2 H2 hs2 he2=>?_));have hB2:=hBB.step hs2;have z0_:=hs2.kept a _ hfa hla;have hla2:=z0_.1;have hfa2:=z0_.2;clear z0_;refine Aq hB2.cts fun ep2 hc2=>?_;walk_at"w";refine B3 hc2 (show 2<=LIM by decide) (fun ep3=>?_);rw[GE (cn:=cn) hx (by rw[hcn0];rfl)];walk_at"w";have hB3:=hB2.setC (ep:=ep3) (cn':=Kj cn x);refine Os (pre++[x]) post H2 (Kj cn x) _ (by rw[hpp];simp) rfl rfl (hs2.h.trans hHh) hB3 (by rw[Ab _ _ hac];exact hla2) hfa2 hac (fun z hz=>?_) (fun z hz=>?_)
     ·simp at hz;rw[he2];unfold DR Kj;rcases hz with hz | rfl
      ·have hzx:z≠x:=fun e=>hnd.1 (e▸hz);rw[if_neg hzx,if_neg hzx];exact hpre z hz
      ·rw[if_pos rfl,if_pos rfl,hsx,hst0,hcn0]
     ·have hzx:z≠x:=fun e=>hnd.2 (e▸hz);rw[he2];unfold DR Kj;rw[if_neg hzx,if_neg hzx];exact hpost z (.tail _ hz)
  ·intro m τ' z8_;refine QC z8_ fun pre post H cn y0 hpp hy z9_ hHh hBB hla hfa hac hpre hpost=>?_;clear z8_;subst z9_;have:post=[]:=by cases post with
    | nil=>rfl
    | cons=>exact xNC hy
   subst this;rw[List.append_nil] at hpp;refine⟨Ac hla,?_⟩;refine hQ1 _ _ (O0 H cn y0 (by rw[hHh]) ⟨hBB,fun x hx=>hpre x (by rw[← hpp];rcases hx with rfl | rfl <;> simp),fun x hx t e=>hst x hx t e⟩)
 intro m τ1 z10_;refine e3a2 z10_ fun H0 cn0 y0 z11_ hI0=>?_;clear z10_;subst z11_;walk_at"w";refine Lf (by decide) ?_;let J2:EF:=fun i m τ'=>∃(H:HS) (st:T->Option T) (cn:T->Nat) (y z k it du:Option V),m=[some (.ref s),some (.int own),some (.ref tx),some (.ref ct),some (.ref H0.h),y,z,k,it,du]/\H.h=H0.h/\LawI σ τ' tx ct H st cn (B i)
 refine CG J2
  8 (by decide) (by decide) (by decide) (by decide) (by decide) (by decide) (Tv H0 st cn0 y0 none none none none rfl rfl hI0) ?_ ?_
 ·rintro i m τ' hi ⟨H,st,cn,y,z,k,it,du,rfl,hHh,hI⟩;have hL:=Te (i:=i) (by omega);have hL1:=Te (i:=i+1) (by omega);have hto:∀x,Ay x->TOk ((st x).getD [])/\((st x).getD []).length<=B i:=by
   intro x hx;cases e:st x with
   | none=>exact⟨M9,Nat.zero_le _⟩
   | some t=>exact hI.ok x hx t e
  walk_at"w";rw[show (0:Int)+1*(i:Int)=(i:Int) from by omega];refine OP (n:=n+19) (Al hs hI.sub) hn hi (fun k items hd b hb=>?_);have hI1:=hI.more (SubS.new (c:=.lst (Ae items)) hb);have hbf:¬H.foot b:=hI.host.new_off hb;have hbl:Ag (τ'.set b (.lst (Ae items))) (.ref b)=some (Ae items):=Ac (Aa _ _ _);have hbs:=Aa τ' b (.lst (Ae items));have hbt:b≠tx:=by
   refine Aq hI.txs fun ep e=>?_;intro z;rw[← z,hb] at e;exact xNS e
  have hbc:b≠ct:=by
   refine Aq hI.cts fun ep e=>?_;intro z;rw[← z,hb] at e;exact xNS e
  generalize τ'.set b (.lst (Ae items))=τ2 at *;walk_at"w";refine Aq hI1.txs fun ept hte=>?_;have hit:∀x its,items=x::its->Ay x/\G6 k its:=fun x its e=>⟨(hd x its e).1,(hd x its e).2.items⟩;have hitl:items.length<=5:=by
   cases items with
   | nil=>simp
   | cons x its=>have:=(hd x its rfl).2.few;simp;omega
  refine Qu (n:=n+4) hte hbl hit (fun x hx=>(hto x hx).1) ?_;generalize hr:BO k st items=r;have hr2:BO k (fun x=>(H.st x).1) items=r:=by
   rw[← hr];exact J9 hd fun x hx=>by rw[hI.agree x hx]
  walk_at"w";refine Co (by simp[LIM]) (fun w0 τ3 hw0 s3 e3=>?_);have hI3:=hI1.more s3;refine CW (xs:=[.str [100,105,99,116],.str (As k)]) (ys:=Ae items) (Ac e3) (Al hbl s3) ?_;have hwv:[V.str [100,105,99,116],V.str (As k)]++Ae items=Ae ([100,105,99,116]::As k::items):=rfl;rw[hwv];refine Co (by rw[Ad,LIM];simp;omega) (fun w τ4 hw s4 e4=>?_);have hI4:=hI3.more s4;have hwf:¬H.foot w:=hI3.host.new_off hw;have hb4:τ4 b=some (.lst (Ae items)):=s4 _ _ (s3 _ _ hbs);have hget:∀x,Ay x->((H.st x).1.getD [])=(st x).getD []:=fun x hx=>by rw[hI.agree x hx]
  walk_at"w";refine IV hHh (OR (n:=n+4) hI4.host (Ac e4) hwf (fun x its e=>(Bk ((hd x its e).1) ((hd x its e).2.items) (fun hk=>(hd x its e).2.app hk))) (fun x hx=>by rw[hget x hx];exact(hto x hx).1) (fun τ5 H5 hs5 he5=>?_));rw[hr2] at he5 ⊢;have hB5:=hI4.toLawB.step hs5;have z0_:=hs5.kept b _ hbf hb4;have hb5:=z0_.1;have hbf5:=z0_.2;clear z0_;have hokr:∀t,r=.ok t->good t/\t.length<=B (i+1):=by
   intro t e;subst e;cases items with
   | nil=>exact xEO hr
   | cons x its =>
    have z0_:=hd x its rfl;have hx:=z0_.1;have hi:=z0_.2;clear z0_;unfold BO at hr;dsimp only at hr;split at hr
    ·rename_i hu;have:=Pq (hto x hx).1 (hto x hx).2 hL.1 hi hu hr;refine⟨this.1,?_⟩;exact dv4 this.2
    ·exact xEO hr
  have herr:∀f,r=.error f->FOk f:=by
   intro f e;rw[e] at hr;exact Jw hd (fun x hx=>(hto x hx).1) hr
  walk_at"w";refine NQ (fun t e=>(hokr t e).1.ok) herr ?_;have hh5:H5.h=H0.h:=hs5.h.trans hHh;refine BA (ifQ_f (Ku (AU (BN (fun m τ=>∃(st':T->Option T) (cn':T->Nat),m=[some (.ref s),some (.int own),some (.ref tx),some (.ref ct),some (.ref H0.h),y,some (.int (i:Int)),some (.str (As k)),some (.ref b),some (rv r)]/\LawI σ τ tx ct H5 st' cn' (B (i+1))) (fun Q' hQ1 hQ2=>?_) ?_))))
  ·cases r with
   | error f =>
    unfold rv fv;walk_at"wd";refine hQ1 _ _ (BD st cn rfl ⟨hB5,fun x hx=>by rw[he5];exact hI.agree x hx,fun x hx t e=>?_⟩);have:=hI.ok x hx t e;refine⟨this.1,?_⟩;exact dv5 this.2
   | ok t =>
    have z0_:=hokr t rfl;have hgt:=z0_.1;have hlt:=z0_.2;clear z0_;obtain⟨x,its,rfl⟩ : ∃x its,items=x::its:=by
     cases items with
     | nil=>exact xEO hr
     | cons x its=>exact Me x its rfl
    have hx:=(hd x its rfl).1;have hitv:(Ae (x::its)).length<=LIM:=by rw[Ad,LIM];omega
    refine Aq hB5.txs fun ep5 ht5=>?_;unfold rv;walk_at"wd";refine Ak (j:=0) (Ac hb5) hitv (by decide) (Am (x:=x) rfl) ?_;refine B3 ht5 (show 2<=LIM by decide) (fun ep6=>?_);rw[Nl hx];have hB6:=hB5.setT (ep:=ep6) (st':=LL st x t);have hb6:(τ5.set tx (.dct ep6 (E5 (LL st x t)))) b=some (.lst (Ae (x::its))):=by rw[Ab _ _ hbt];exact hb5
    generalize τ5.set tx (.dct ep6 (E5 (LL st x t)))=τ6 at *;refine Aq hB6.cts fun ep7 hc6=>?_;walk_at"wd";refine Ak (j:=0) (Ac hb6) hitv (by decide) (Am (x:=x) rfl) ?_;refine By (Az hc6) (Hq hx) ?_;walk_at"wd";refine B3 hc6 (show 2<=LIM by decide) (fun ep8=>?_);rw[GE hx rfl];have hB7:=hB6.setC (ep:=ep8) (cn':=Kj cn x);walk_at"wd";refine hQ1 _ _ (BD (LL st x t) (Kj cn x) rfl ⟨hB7,fun x' hx'=>?_,fun x' hx' t' e=>?_⟩)
    ·rw[he5];show DR H.st x t x'=_;unfold DR LL Kj;by_cases e:x'=x
     ·rw[if_pos e,if_pos e,if_pos e,hI.agree x hx]
     ·rw[if_neg e,if_neg e,if_neg e];exact hI.agree x' hx'
    ·unfold LL at e;split at e
     ·obtain rfl:=xSS e;exact⟨E4 hgt (by omega),hlt⟩
     ·have:=hI.ok x' hx' t' e;refine⟨this.1,?_⟩;exact dv5 this.2
  ·intro m τ6 z12_;refine Be z12_ fun st' cn' z13_ hI6=>?_;clear z12_;subst z13_;walk_at"w";refine IV hh5 (L5 (n:=n+17) hI6 (fun τ7 H7 hI7 hh7 _=>?_));walk_at"w";exact Tv H7 st' cn' _ _ _ _ _ rfl (hh7.trans hh5) hI7
 ·rintro m τ' ⟨H,st,cn,y,z,k,it,du,rfl,hHh,hI⟩;walk_at"w";exact AB hI.sub h
end
section
theorem Ni {vs:List Value} {ns:List Int} (x:IntsAre vs ns):Rels h vs (ns.map .int):=by
 induction x with
 | nil=>exact .nil
 | cons _ _ _ ih=>exact .cons (.int _ _) ih
theorem law_runs {prog:Program} {w:World} {K:Frag} {mg mb:Str->Option Value} {s:Shared} (Fa:Facts (prm prog w K mg mb s.heap)) {a:Addr} {vs:List Value} {ns:List Int} (hL:s.heap.IsList a vs.toArray) (hI:IntsAre vs ns) (hn:ns.length<=100)
  {Q E:QW} (q:∀h' tk,s.heap.StaysIn h'->Q (.bool true) { s with heap:=h',toks:=tk }):wpAny (model prog w) callerA (call (.ref 833) [.ref a]) Q E s:=by
 have hs:Ag (fun b=>if b=a then some (.fin (ns.map .int)) else none) (.ref a)=some (ns.map .int):=by
  unfold Ag;dsimp only;rw[if_pos rfl]
 have key:∀b c,(if b=a then some (Cell.fin (ns.map .int)) else none)=some c->b=a/\c=.fin (ns.map .int):=by
  intro b c e;split at e
  ·cases e;exact⟨‹_›,rfl⟩
  ·exact xNS e
 have rep:Rep (prm prog w K mg mb s.heap) (fun b=>if b=a then some (.fin (ns.map .int)) else none) (fun _=>0) s.heap:=by
  refine⟨fun b c e=>?_,fun b c e k=>?_,fun b b' c c' e _ k=>?_⟩
  ·refine An (key b c e) fun z1_ z2_=>?_;subst z1_;subst z2_;exact⟨vs,hL,Ni hI⟩
  ·refine An (key b c e) fun z1_ z2_=>?_;subst z1_;subst z2_;exact k.elim
  ·refine An (key b c e) fun z1_ z2_=>?_;subst z1_;subst z2_;exact k.elim
 have off:Off s.heap [] (fun b=>if b=a then some (.fin (ns.map .int)) else none) (fun _=>0):=by
  rintro b (⟨c,e,k⟩ | ⟨b',c,e,k,_⟩)
  ·refine An (key b c e) fun z1_ z2_=>?_;subst z1_;subst z2_;exact k.elim
  ·refine An (key b' c e) fun z1_ z2_=>?_;subst z1_;subst z2_;exact k.elim
 have L:=Qq Fa 30 false callerA (fun _=>rfl) (by decide +kernel) (by decide +kernel) .law [] [] s.heap (fun b=>if b=a then some (.fin (ns.map .int)) else none) (fun _=>0) s [.ref a] [.ref a] (fun v _=>v=.bool true) (fun _ _=>False)
  rfl (fun _ _ e=>e) (fun _ _ e=>e) .nil (fun _ m=>nomatch m) rep off (.cons (.ref _) .nil) (TI (n:=5) hs hn rfl)
 refine wpAny_call (codeAny_mono L fun r s' z=>?_);rcases r with e | (v | _ | _ | _)
 ·obtain⟨h',tk,e',st,n,at_,σ',δ',_,_,_,_,_,_,_,_,_,z⟩:=z;exact z.elim
 all_goals first | exact z.elim | skip
 obtain⟨h',tk,v',σ',δ',rfl,rl,st,_,_,_,rfl⟩:=z;cases rl
 exact q h' tk st
theorem chk_law {K:Frag} (h:chk K=true):nsIn K 3 "law"=some (some (.ref 833)):=by
 unfold chk OY at h;simp only[Bool.and_eq_true,beq_iff_eq] at h;exact h.2.1.1.1.2
theorem okv:(chainsOk vw&&opensWell rwv.prog&&(frees rwv.toRowW&&rwv.within.isEmpty))=true:=by kernel_rfl
theorem no_imp:importsNone vw=true:=by kernel_rfl
end
end Mine
theorem PySem.Challenge.cw_pb0572_01_holds : PySem.Challenge.rw_pb0572_01.Holds := by
 refine holds_law Mine.wsaid fun said=>?_;refine holds_open (r:=Mine.rwv) (q:=Mine.vw) (loose:=Mine.loo) (Xt:=Mine.xt) (XP:=XL Mine.vw []) (Yf:=(Mine.hookOf Mine.ads Mine.chk).obs) (Ya:=(Mine.hookOf Mine.ads Mine.chk).val) (YP:=(Mine.hookOf Mine.ads Mine.chk).says) (N:=5300) Mine.left (Mine.hookOf Mine.ads Mine.chk).of (Mine.hookOf Mine.ads Mine.chk).keeps (fun s e=>xl_of s (Bool.and_eq_true_iff.mp e).1) XL.keeps (by rfl) (by rfl) (by rfl) (fun s e=>recFacts_of (Bool.and_eq_true_iff.mp e).2) (by rfl) said Mine.okv ⟨rfl,rfl,rfl,rfl,rfl,by decide +kernel⟩ ⟨[.list []],by decide +kernel,by decide +kernel⟩ ?_;intro w s₀ s₁ mg mb G Y fa o pm cd doc dV kV ho hd hcd hD hmg hg args vals as hpre hlay hrd hwl hlo;refine Mine.e1a2 Y fun K KX hK=>?_;have T:=G.T;refine Mine.e1a2 ((T.seer Mine.no_imp).mods) fun mm hm _=>?_;refine Mine.e3a2 hm fun oS _ _ hS _=>?_;have Fa:=Mine.facts (prog:=Mine.rwv.prog) (w:=w) KX hK T.g T.b T.nolimit T.nodigits ⟨oS,hS⟩ T.builtins;have hfa:fa=833:=Value.ref.inj (Option.some.inj ((hmg:mg "law"=some (.ref fa)).symm.trans (Mine.mg_of KX T.g (Mine.chk_law hK))));clear G ho hd hcd hD T;subst hfa;clear hmg KX hK
 wrow_args hpre hlay hrd hwl hlo
 all_goals refine Mine.law_runs Fa (by assumption) (by assumption) (by omega) fun h' tk st=>?_
 all_goals refine GoodW.toG ⟨.inl ⟨_,.bool true,[],rfl,fun _=>by kernel_rfl,.bool true,?_,fun _=>⟨.nil,fun _ h=>nomatch h⟩⟩,st,rfl,hg⟩
 all_goals first | kernel_rfl | rfl
